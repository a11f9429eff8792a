import PyProof.Rows.All
import Wide.All
import OpenK.AllK
import Wide.FinOn
import KE.KStateDown
import HandS.ForMost
import HandS.WordsExc
import HandS.Defaults
import HandS.IsInst
import HandS.CallSlots
import HandS.ExcInit
import HandS.TryMany
import HandS.More
import HandS.Steps
import HandS.SetFor
import HandS.SortInts
import HandS.ExcIs
import HandS.ExcField
import HandS.Wide
import HandS.WideBits
import HandS.Head0
import HandS.Head1
import HandS.Head2
import HandS.HeadEnd
import HandS.HeadHook1
import HandS.HeadHook2
import HandS.HeadHook3
import HandS.HeadHook4
import HandS.TryOnly
import HandS.NoneIn
import HandS.TupLen
import HandS.ListEq
import HandS.Small
import HandS.EndBits
import KE.RegMulBits
import KE.IntBitsLaws
import PySem.Challenge.RW_leafframe_k29_pool_contents
set_option Elab.async false
set_option linter.all false
set_option maxRecDepth 100000
set_option maxHeartbeats 1000000

namespace LF
open PySem PySem.Spec PyProof.Rows L2

/-! ### worlds: the heap and a role for each object that lives on and changes -/
inductive Rl where
  | tally (m : Nat) (s : Bool) | lying (m : Nat) (s : Bool) | row (m : Nat) (s : Bool) (i : Nat) | lit (m : Nat) | hand (m : Nat) | mem (m : Nat) | near (m : Nat) | known (m : Nat) | spaces (m : Nat)
  | shOb (m : Nat) (n : Str) | shLy (m : Nat) (n : Str) | tbl (m : Nat) (t : Int) (p : List Int) | own (n : Nat)
structure Wd where
  H : Hp
  G : Addr → Option Rl
  ok : ∀ a, H a = none → G a = none
structure At (W : Wd) (r : Option Rl) (a : Addr) (o : HO) : Prop where
  h : W.H a = some o
  g : W.G a = r
/-- what may have changed: S -/
structure Step (S : Addr → Option Rl → Prop) (W W' : Wd) : Prop where
  keep : ∀ a o, W.H a = some o → ¬ S a (W.G a) → W'.H a = some o
  live : ∀ a, W'.H a = none → W.H a = none
  role : ∀ a, W.H a ≠ none → W'.G a = W.G a
abbrev SNone : Addr → Option Rl → Prop := fun _ _ => False
theorem Step.refl {S : Addr → Option Rl → Prop} (W : Wd) : Step S W W := ⟨fun _ _ h _ => h, fun _ h => h, fun _ _ => rfl⟩
theorem Step.comp {S S1 S2 : Addr → Option Rl → Prop} {W W1 W2 : Wd} (a : Step S1 W W1) (b : Step S2 W1 W2) (h1 : ∀ x r, W.H x ≠ none → W.G x = r → S1 x r → S x r) (h2 : ∀ x r, W.H x ≠ none → W.G x = r → S2 x r → S x r) : Step S W W2 where
  keep := fun x o e n => by
    have ne : W.H x ≠ none := by rw [e]; intro z; cases z
    refine b.keep x o (a.keep x o e fun q => n (h1 x _ ne rfl q)) ?_
    rw [a.role x ne]
    exact fun q => n (h2 x _ ne rfl q)
  live := fun x h => a.live x (b.live x h)
  role := fun x ne => by
    rw [b.role x fun z => ne (a.live x z), a.role x ne]
theorem Step.mono {S S1 : Addr → Option Rl → Prop} {W W1 : Wd} (a : Step S1 W W1) (h1 : ∀ x r, W.H x ≠ none → W.G x = r → S1 x r → S x r) : Step S W W1 := Step.comp a (Step.refl (S := S) W1) h1 fun _ _ _ _ q => q
theorem Step.tr {S : Addr → Option Rl → Prop} {W W1 W2 : Wd} (a : Step S W W1) (b : Step S W1 W2) : Step S W W2 := Step.comp a b (fun _ _ _ _ q => q) fun _ _ _ _ q => q
theorem At.step {S : Addr → Option Rl → Prop} {W W' : Wd} {r : Option Rl} {a : Addr} {o : HO} (x : At W r a o) (s : Step S W W') (n : ¬ S a r) : At W' r a o :=
  ⟨s.keep a o x.h (by rw [x.g]; exact n), by rw [s.role a (by rw [x.h]; intro z; cases z), x.g]⟩
theorem At.ne {W : Wd} {r r' : Option Rl} {a b : Addr} {o o' : HO} (x : At W r a o) (y : At W r' b o') (d : r ≠ r') : a ≠ b := fun e => d (by rw [← x.g, ← y.g, e])
theorem At.neH {W : Wd} {r r' : Option Rl} {a b : Addr} {o o' : HO} (x : At W r a o) (y : At W r' b o') (d : o ≠ o') : a ≠ b := ne_of x.h y.h d
theorem At.neN {W : Wd} {r : Option Rl} {a b : Addr} {o : HO} (x : At W r a o) (y : W.H b = none) : a ≠ b := ne_of_none x.h y
theorem At.inj {W : Wd} {r r' : Option Rl} {a : Addr} {o o' : HO} (x : At W r a o) (y : At W r' a o') : o = o' := by
  have e := x.h
  rw [y.h] at e
  exact (Option.some.inj e).symm
/-- a new object -/
def Wd.new (W : Wd) (r : Option Rl) (p : Addr) (o : HO) : Wd where
  H := upd W.H p o
  G := fun b => if b = p then r else W.G b
  ok := fun a h => by
    by_cases e : a = p
    · subst e; rw [upd_same] at h; cases h
    · rw [upd_ne e] at h
      show (if a = p then r else W.G a) = none
      rw [if_neg e]
      exact W.ok a h
theorem Wd.new_at (W : Wd) (r : Option Rl) (p : Addr) (o : HO) : At (W.new r p o) r p o := ⟨upd_same, if_pos rfl⟩
theorem Wd.new_step (W : Wd) {r : Option Rl} {p : Addr} {o : HO} (n : W.H p = none) : Step SNone W (W.new r p o) where
  keep := fun a u e _ => by
    show upd W.H p o a = some u
    rw [upd_ne (ne_of_none e n)]; exact e
  live := fun a h => by
    by_cases e : a = p
    · subst e; exact n
    · have h' : upd W.H p o a = none := h
      rw [upd_ne e] at h'; exact h'
  role := fun a ne => if_neg fun e => by subst e; exact ne n
/-- an object is changed -/
def Wd.put (W : Wd) {r : Option Rl} {a : Addr} {o' : HO} (x : At W r a o') (o : HO) : Wd where
  H := upd W.H a o
  G := W.G
  ok := fun b h => by
    by_cases e : b = a
    · subst e; rw [upd_same] at h; cases h
    · rw [upd_ne e] at h; exact W.ok b h
theorem Wd.put_at {W : Wd} {r : Option Rl} {a : Addr} {o' : HO} (x : At W r a o') (o : HO) : At (W.put x o) r a o := ⟨upd_same, x.g⟩
abbrev SAt (a : Addr) : Addr → Option Rl → Prop := fun b _ => b = a
theorem Wd.put_step {W : Wd} {r : Option Rl} {a : Addr} {o' : HO} (x : At W r a o') (o : HO) : Step (SAt a) W (W.put x o) where
  keep := fun b u e n => by
    show upd W.H a o b = some u
    rw [upd_ne n]; exact e
  live := fun b h => by
    have h' : upd W.H a o b = none := h
    by_cases e : b = a
    · subst e; rw [upd_same] at h'; cases h'
    · rw [upd_ne e] at h'; exact h'
  role := fun b _ => rfl

/-- a change of what was not there at the start -/
theorem Step.fresh {S : Addr → Option Rl → Prop} {W W1 W2 : Wd} {a : Addr} (x : Step S W W1) (n : W.H a = none) (y : Step (fun b _ => b = a) W1 W2) : Step S W W2 := Step.comp x y (fun _ _ _ _ q => q) fun b _ ne _ q => absurd n (by subst q; exact ne)
/-! ### results of small readings, by name -/
def MkN (C : Addr) (R : Addr → Hp → Prop) (H : Hp) : Prop := ∀ x dx, H x = none → H dx = none → dx ≠ x → R x (upd (upd H dx (.own x)) x (.ins C dx []))
def NewL (xs : List V) (H : Hp) (Q : VK) : Prop := xs.length ≤ sizeLine ∧ ∀ p, H p = none → Q (.ref p) (upd H p (.lst xs))
def NewT (xs : List V) (H : Hp) (Q : VK) : Prop := xs.length ≤ sizeLine ∧ ∀ p, H p = none → Q (.ref p) (upd H p (.tup xs))
/-- a pure expression has the value v; a pure test the answer b -/
def Vl (te : TE) (σ : L2.St) (H : Hp) (v : V) : Prop := ∀ Q : VK, Q v H → te σ H Q
def Ts (t : TT) (σ : L2.St) (H : Hp) (b : Bool) : Prop := ∀ Q : Bool → Hp → Prop, Q b H → t σ H Q
class HasF (K : PySem.W.Frag) (C : Addr) (f : Str) : Prop where
  c : Cls K C
  n : NoAttr K C f
section
variable {K : PySem.W.Frag} {W : Wd} {Q : VK} {σ : L2.St} {H : Hp} {ta tb tc te : TE} {t u : TS} {v x y z : V} {f : Str} {r : Option Rl} {a C dx : Addr} {fs : List (Str × V)} {c d : TT} {k b b1 b2 : Bool}
theorem new_l {xs : List V} (hl : Nat.ble xs.length 1000 = true) (k : ∀ p W', W.H p = none → At W' none p (.lst xs) → Step SNone W W' → Q (.ref p) W'.H) : NewL xs W.H Q :=
  ⟨Nat.le_trans (Nat.le_of_ble_eq_true hl) (by decide), fun p n => k p (W.new none p (.lst xs)) n (W.new_at none p _) (W.new_step n)⟩
theorem new_lr (r : Option Rl) {xs : List V} (hl : Nat.ble xs.length 1000 = true) (k : ∀ p W', W.H p = none → At W' r p (.lst xs) → Step SNone W W' → Q (.ref p) W'.H) : NewL xs W.H Q :=
  ⟨Nat.le_trans (Nat.le_of_ble_eq_true hl) (by decide), fun p n => k p (W.new r p (.lst xs)) n (W.new_at r p _) (W.new_step n)⟩
theorem new_t {xs : List V} (hl : Nat.ble xs.length 1000 = true) (k : ∀ p W', W.H p = none → At W' none p (.tup xs) → Step SNone W W' → Q (.ref p) W'.H) : NewT xs W.H Q :=
  ⟨Nat.le_trans (Nat.le_of_ble_eq_true hl) (by decide), fun p n => k p (W.new none p (.tup xs)) n (W.new_at none p _) (W.new_step n)⟩
/-! ### pure expressions, from below -/
theorem v_var {i : Nat} (h : σ[i]? = some (some v)) : Vl (tVar i) σ H v := fun _ q => ⟨v, h, q⟩
theorem v_c : Vl (tC v) σ H v := fun _ q => q
theorem v_fld (h : Vl ta σ W.H (.ref a)) (o : At W r a (.ins C dx fs)) (i : HasF K C f) (l : fs.lookup f = some v) : Vl (tFld K ta f) σ W.H v := fun Q q => h _ ⟨a, C, dx, fs, v, rfl, o.h, i.c, i.n, l, q⟩
theorem v_I0 {g : Int → Int → V} {i j : Int} (ha : Vl ta σ H (.int i)) (hb : Vl tb σ H (.int j)) : Vl (tOp (rI0 g) ta tb) σ H (g i j) := fun Q q => ha _ (hb _ ⟨i, j, rfl, rfl, q⟩)
theorem v_I {g : Int → Int → V} {D : Int → Int → Prop} {i j : Int} (ha : Vl ta σ H (.int i)) (hb : Vl tb σ H (.int j)) (hc : D i j) : Vl (tOp (rI D g) ta tb) σ H (g i j) := fun Q q => ha _ (hb _ ⟨i, j, rfl, rfl, hc, q⟩)
theorem v_eq (ha : Vl ta σ H x) (hb : Vl tb σ H y) (hs : scal x y = true) : Vl (tOp rEq ta tb) σ H (.bl (decide (x = y))) := fun Q q => ha _ (hb _ ⟨hs, q⟩)
theorem v_ne (ha : Vl ta σ H x) (hb : Vl tb σ H y) (hs : scal x y = true) : Vl (tOp rNe ta tb) σ H (.bl (!decide (x = y))) := fun Q q => ha _ (hb _ ⟨hs, q⟩)
theorem v_ixL {p : Addr} {xs : List V} {i : Int} (ha : Vl ta σ W.H (.ref p)) (hb : Vl tb σ W.H (.int i)) (o : At W r p (.lst xs)) (e : atI xs i = some v) : Vl (tOp (rIx K) ta tb) σ W.H v :=
  fun Q q => ha _ (hb _ (.inl ⟨p, xs, i, v, rfl, rfl, SqL.of o.h, e, q⟩))
theorem v_ixT {p : Addr} {xs : List V} {i : Int} (ha : Vl ta σ W.H (.ref p)) (hb : Vl tb σ W.H (.int i)) (o : At W r p (.tup xs)) (e : atI xs i = some v) : Vl (tOp (rIx K) ta tb) σ W.H v :=
  fun Q q => ha _ (hb _ (.inr (.inl ⟨p, xs, i, v, rfl, rfl, SqT.of o.h, e, q⟩)))
theorem v_isN (ha : Vl ta σ H x) : Vl (tOp rIsN ta (tC .non)) σ H (.bl (decide (x = .non))) := fun Q q => ha _ ⟨rfl, q⟩
theorem v_notN (ha : Vl ta σ H x) : Vl (tOp rNotN ta (tC .non)) σ H (.bl (!decide (x = .non))) := fun Q q => ha _ ⟨rfl, q⟩
/-- len of a list, a tuple, a dict, a text -/
def rLenA (K : PySem.W.Frag) : List V → Hp → VK → Prop := fun xs H Q => ∃ x n, xs = [x] ∧ LenV K x H n ∧ Q (.int n) H
theorem v_len {n : Nat} (ha : Vl ta σ H x) (o : LenV K x H n) : Vl (tCB (rLenA K) (tCons ta tNil)) σ H (.int n) := fun Q q => ha _ ⟨x, n, rfl, o, q⟩
theorem len_l {p : Addr} {xs : List V} (o : At W r p (.lst xs)) : LenV K (.ref p) W.H xs.length := .inl ⟨xs, SqL.of o.h, rfl⟩
theorem v_chain {i1 i2 i3 : Int} {g1 g2 : Int → Int → Bool} (ha : Vl ta σ H (.int i1)) (hb : Vl tb σ H (.int i2)) (hc : Vl tc σ H (.int i3)) :
    Vl (tChain (rI0 fun i j => .bl (g1 i j)) (rI0 fun i j => .bl (g2 i j)) ta tb tc) σ H (.bl (g1 i1 i2 && g2 i2 i3)) := fun Q q => ha _ (hb _ ⟨i1, i2, rfl, rfl, _, rfl, by
  cases e : g1 i1 i2 with
  | true =>
    rw [e, Bool.true_and] at q
    refine iteT (hc _ ⟨i2, i3, rfl, rfl, q⟩)
  | false =>
    rw [e, Bool.false_and] at q
    exact iteF q⟩)
/-! ### tests -/
theorem s_test (h : Vl te σ H (.bl b)) : Ts (tTest te) σ H b := fun Q q => h _ ⟨b, rfl, q⟩
theorem s_B (h : Vl te σ H (.bl b)) : Ts (tB te) σ H b := fun Q q => h _ ⟨b, rfl, q⟩
theorem s_eqv (ha : Vl ta σ H x) (hb : Vl tb σ H y) (hs : scal x y = true) (e : decide (x = y) = b) : Ts (tTest (tOp rEq ta tb)) σ H b := e ▸ s_test (v_eq ha hb hs)
theorem s_nev (ha : Vl ta σ H x) (hb : Vl tb σ H y) (hs : scal x y = true) (e : (!decide (x = y)) = b) : Ts (tTest (tOp rNe ta tb)) σ H b := e ▸ s_test (v_ne ha hb hs)
theorem s_not (h : Ts c σ H b) : Ts (tNot c) σ H (!b) := fun Q q => h _ q
theorem s_and (h1 : Ts c σ H b1) (h2 : b1 = true → Ts d σ H b2) : Ts (tAnd c d) σ H (b1 && b2) := fun Q q => h1 _ (by
  cases b1 with
  | true => exact iteT (h2 rfl Q q)
  | false => exact iteF q)
theorem s_or (h1 : Ts c σ H b1) (h2 : b1 = false → Ts d σ H b2) : Ts (tOr c d) σ H (b1 || b2) := fun Q q => h1 _ (by
  cases b1 with
  | true => exact iteT q
  | false => exact iteF (h2 rfl Q q))
/-! ### what follows: expressions -/
theorem g_v (h : Vl te σ H v) (q : Q v H) : te σ H Q := h Q q
theorem g_fld (o : At W r a (.ins C dx fs)) (i : HasF K C f) (l : fs.lookup f = some v) (q : Q v W.H) : ∃ a' C dx fs v, V.ref a = .ref a' ∧ W.H a' = some (.ins C dx fs) ∧ Cls K C ∧ NoAttr K C f ∧ fs.lookup f = some v ∧ Q v W.H :=
  ⟨a, C, dx, fs, v, rfl, o.h, i.c, i.n, l, q⟩
theorem g_c (q : Q v H) : tC v σ H Q := q
theorem g_lst {ts : TA} (q : ts σ H fun xs H1 => NewL xs H1 Q) : tLst ts σ H Q := q
theorem g_tup {ts : TA} (q : ts σ H fun xs H1 => NewT xs H1 Q) : tTup ts σ H Q := q
theorem g_nil {R : List V → Hp → Prop} (q : R [] H) : tNil σ H R := q
theorem g_cons {tr : TA} {R : List V → Hp → Prop} (q : ta σ H fun x H1 => tr σ H1 fun xs H2 => R (x :: xs) H2) : tCons ta tr σ H R := q
theorem g_op {r : R2} (q : ta σ H fun x H1 => tb σ H1 fun y H2 => r x y H2 Q) : tOp r ta tb σ H Q := q
theorem g_cb {r : List V → Hp → VK → Prop} {ts : TA} (q : ts σ H fun vs H1 => r vs H1 Q) : tCB r ts σ H Q := q
theorem g_ifE {c : TT} (q : c σ H fun b H1 => if b = true then ta σ H1 Q else tb σ H1 Q) : tIf c ta tb σ H Q := q
theorem g_fldE (q : ta σ H fun x H1 => ∃ a C dx fs v, x = .ref a ∧ H1 a = some (.ins C dx fs) ∧ Cls K C ∧ NoAttr K C f ∧ fs.lookup f = some v ∧ Q v H1) : tFld K ta f σ H Q := q
def BlK (R : Bool → Hp → Prop) : VK := fun x H' => ∃ k, x = .bl k ∧ R k H'
theorem g_test {R : Bool → Hp → Prop} (q : te σ H (BlK R)) : tTest te σ H R := q
theorem g_testB {R : Bool → Hp → Prop} (q : te σ H (BlK R)) : tB te σ H R := q
theorem g_not {R : Bool → Hp → Prop} (q : c σ H fun b H1 => R (!b) H1) : tNot c σ H R := q
theorem g_and {R : Bool → Hp → Prop} (q : c σ H fun b H1 => if b = true then d σ H1 R else R false H1) : tAnd c d σ H R := q
theorem g_or {R : Bool → Hp → Prop} (q : c σ H fun b H1 => if b = true then R true H1 else d σ H1 R) : tOr c d σ H R := q
theorem g_bl {R : Bool → Hp → Prop} (q : R b H) : BlK R (.bl b) H := ⟨b, rfl, q⟩
theorem g_I0 {g : Int → Int → V} {i j : Int} (q : Q (g i j) H) : rI0 g (.int i) (.int j) H Q := ⟨i, j, rfl, rfl, q⟩
theorem g_I {g : Int → Int → V} {D : Int → Int → Prop} {i j : Int} (hc : D i j) (q : Q (g i j) H) : rI D g (.int i) (.int j) H Q := ⟨i, j, rfl, rfl, hc, q⟩
theorem g_eq (hs : scal x y = true) (q : Q (.bl (decide (x = y))) H) : rEq x y H Q := ⟨hs, q⟩
theorem g_ne (hs : scal x y = true) (q : Q (.bl (!decide (x = y))) H) : rNe x y H Q := ⟨hs, q⟩
theorem g_ixL {p : Addr} {xs : List V} {i : Int} (o : At W r p (.lst xs)) (e : atI xs i = some v) (q : Q v W.H) : rIx K (.ref p) (.int i) W.H Q := .inl ⟨p, xs, i, v, rfl, rfl, SqL.of o.h, e, q⟩
theorem g_ixT {p : Addr} {xs : List V} {i : Int} (o : At W r p (.tup xs)) (e : atI xs i = some v) (q : Q v W.H) : rIx K (.ref p) (.int i) W.H Q := .inr (.inl ⟨p, xs, i, v, rfl, rfl, SqT.of o.h, e, q⟩)
theorem g_setL {p : Addr} {xs : List V} {i : Int} {j : Nat} {R : Hp → Prop} (o : At W r p (.lst xs)) (e : ixN xs.length i = some j) (q : ∀ W', At W' r p (.lst (xs.set j v)) → Step (SAt p) W W' → R W'.H) : rSetL (.ref p) (.int i) v W.H R :=
  ⟨p, xs, i, j, rfl, rfl, o.h, e, q (W.put o _) (W.put_at o _) (W.put_step o _)⟩
theorem g_setF {R : Hp → Prop} (o : At W r a (.ins C dx fs)) (i : HasF K C f) (l : Nat.ble (fs.length + 1) 1000 = true) (q : ∀ W', At W' r a (.ins C dx (putF f v fs)) → Step (SAt a) W W' → R W'.H) :
    ∃ a' C dx fs, V.ref a = .ref a' ∧ W.H a' = some (.ins C dx fs) ∧ Cls K C ∧ NoAttr K C f ∧ fs.length < 1000 ∧ R (upd W.H a' (.ins C dx (putF f v fs))) :=
  ⟨a, C, dx, fs, rfl, o.h, i.c, i.n, Nat.le_of_ble_eq_true l, q (W.put o _) (W.put_at o _) (W.put_step o _)⟩
theorem g_append {p : Addr} {xs : List V} (o : At W r p (.lst xs)) (l : xs.length < sizeLine) (q : ∀ W', At W' r p (.lst (xs ++ [y])) → Step (SAt p) W W' → Q .non W'.H) : rAppend (.ref p) [y] W.H Q :=
  ⟨p, xs, y, rfl, rfl, o.h, l, q (W.put o _) (W.put_at o _) (W.put_step o _)⟩
theorem tyl {p : Addr} {xs : List V} (o : At W r p (.lst xs)) : tyV K "list" (.ref p) W.H := .inl ⟨rfl, _, SqL.of o.h⟩
end
/-! ### what follows: statements -/
section
variable {K : PySem.W.Frag} {W : Wd} {σ : L2.St} {H : Hp} {ta tb tc te : TE} {t u : TS} {v x y z : V} {f : Str} {nx : L2.St → Hp → Prop} {rt : VK} {bk ct : L2.St → Hp → Prop} {c : TT} {D : Ends} {b : Bool}
theorem k_seq (q : t ⟨u D, D.rt, D.bk, D.ct⟩ σ H) : tSeq t u D σ H := q
theorem k_next (q : nx σ H) : tNext ⟨nx, rt, bk, ct⟩ σ H := q
theorem k_drop (q : te σ H fun _ H1 => nx σ H1) : tDrop te ⟨nx, rt, bk, ct⟩ σ H := q
theorem k_set {i : Nat} (q : te σ H fun x H1 => nx (σ.set i (some x)) H1) : tAsg te (gName i) ⟨nx, rt, bk, ct⟩ σ H := q
theorem k_asg {g : TG} (q : te σ H fun x H1 => g x σ H1 nx) : tAsg te g ⟨nx, rt, bk, ct⟩ σ H := q
theorem k_ret (q : te σ H rt) : tRet te ⟨nx, rt, bk, ct⟩ σ H := q
theorem k_retN (q : rt .non H) : tRetN ⟨nx, rt, bk, ct⟩ σ H := q
theorem k_fld (q : te σ H fun y H1 => ta σ H1 fun x H2 => ∃ a C dx fs, x = .ref a ∧ H2 a = some (.ins C dx fs) ∧ Cls K C ∧ NoAttr K C f ∧ fs.length < 1000 ∧ nx σ (upd H2 a (.ins C dx (putF f y fs)))) : sFld K ta te f ⟨nx, rt, bk, ct⟩ σ H := q
theorem k_if (q : c σ H fun b H1 => if b = true then t D σ H1 else u D σ H1) : tIfS c t u D σ H := q
theorem k_ifT (h : Ts c σ H b) (h1 : b = true → t D σ H) (h2 : b = false → u D σ H) : tIfS c t u D σ H := h _ (by
  cases b with
  | true => exact iteT (h1 rfl)
  | false => exact iteF (h2 rfl))
theorem k_yes (h : Ts c σ H b) (e : b = true) (h1 : t D σ H) : tIfS c t u D σ H := k_ifT h (fun _ => h1) fun z => by rw [e] at z; cases z
theorem k_no (h : Ts c σ H b) (e : b = false) (h1 : u D σ H) : tIfS c t u D σ H := k_ifT h (fun z => by rw [e] at z; cases z) fun _ => h1
theorem g_sub {to ti : TE} {s : TSet} {R : L2.St → Hp → Prop} (q : to σ H fun o H1 => ti σ H1 fun i H2 => s o i v H2 fun H3 => R σ H3) : gSub to ti s v σ H R := q
end
/-! ### exceptions, calls: what is wished of an exception hangs on the slots -/
def tClW (sp : Sp) (dvs : List V) (W : WX) (t : TA) : TE := fun σ H Q => t σ H fun vs H1 => sp (vs ++ dvs) H1 Q (fun c d H' => W c d σ H')
def tMtW (C : Addr) (m : Str) (sp : Sp) (dvs : List V) (W : WX) (ta : TE) (t : TA) : TE := fun σ H Q => ta σ H fun x H1 => ∃ a dx fs, x = .ref a ∧ H1 a = some (.ins C dx fs) ∧ fs.lookup m = none ∧
  t σ H1 fun vs H2 => sp (x :: (vs ++ dvs)) H2 Q (fun c d H' => W c d σ H')
def tMkW (C : Addr) (sp : Sp) (dvs : List V) (W : WX) (t : TA) : TE := fun σ H Q => t σ H fun vs H1 => ∀ x dx, H1 x = none → H1 dx = none → dx ≠ x →
  sp (.ref x :: (vs ++ dvs)) (upd (upd H1 dx (.own x)) x (.ins C dx [])) (fun v H2 => v = .non ∧ Q (.ref x) H2) (fun c d H' => W c d σ H')
/-- a def that may be called, by its name; a method; a class that is made: sp is __init__'s -/
structure CalX (P : Program) (w : World) (K : PySem.W.Frag) (mg : Str → Option Value) (base : Heap) (k : Nat) (x : Str) (sp : Sp) (dvs : List V) : Prop where
  ex : ∃ (f : Addr) (fd : FuncData) (ps : List Str) (ds : List Value), FnOk P w K mg base (L2.CX P w) k f fd ps sp ∧ mg x = some (.ref f) ∧ PySem.W.keepIn K (.ref f) = true ∧ Binds K fd ps ds ∧ Vals dvs ds
structure MetX (P : Program) (w : World) (K : PySem.W.Frag) (mg : Str → Option Value) (base : Heap) (k : Nat) (C : Addr) (m : Str) (sp : Sp) (dvs : List V) : Prop where
  ex : ∃ (f : Addr) (fd : FuncData) (ps : List Str) (ds : List Value), Cls K C ∧ Meth K C m f ∧ FnOk P w K mg base (L2.CX P w) k f fd ps sp ∧ Binds K fd ps ds ∧ Vals dvs ds
structure MakX (P : Program) (w : World) (K : PySem.W.Frag) (mg : Str → Option Value) (base : Heap) (k : Nat) (x : Str) (C : Addr) (sp : Sp) (dvs : List V) : Prop where
  ex : ∃ (f : Addr) (fd : FuncData) (ps : List Str) (ds : List Value), Mk K C f ∧ FnOk P w K mg base (L2.CX P w) k f fd ps sp ∧ mg x = some (.ref C) ∧ Binds K fd ps ds ∧ Vals dvs ds
section
variable {X : Cx} {k j : Nat} {C : Addr} {x m : Str} {sp : Sp} {dvs : List V} {p pos apos : Pos} {e o : Expr} {es : List Expr} {ta : TE} {t : TA} {W : WX}
theorem pe_cl (c : CalX X.prog X.w X.K X.mg X.base k x sp dvs) (hr : Room j X.A) (hk : k ≤ j) (tk : Takes X W) (hg : Gl X x) (ha : PA X (e :: es) t)
    (hdb : (x == ("__debug__" : Str)) = false := by decide) (he : starEach (e :: es) X.env = (false, eval e X.env) :: starEach es X.env := by rfl) (hpl : (backTo pos (starEach es X.env)).any (·.1) = false := by rfl) :
    PE X (.Call (.Name x p) (e :: es) [] pos) (tClW sp dvs W t) := by
  obtain ⟨f, fd, ps, ds, F, hm, kp, b, d⟩ := c.ex
  exact pe_callSD (E := WE W) F (hr.mono hk) hg hm kp b d (fun σ => passAt tk σ) ha hdb he hpl
theorem pe_mt {pl : Sem Bool} (c : MetX X.prog X.w X.K X.mg X.base k C m sp dvs) (hr : Room j X.A) (hk : k ≤ j) (tk : Takes X W) (he : PE X o ta) (ha : PA X (e :: es) t)
    (hst : starEach (e :: es) X.env = (false, eval e X.env) :: starEach es X.env := by rfl) (hpl : (backTo pos (starEach es X.env)).any (·.1) = false := by rfl)
    (ht : eval (.Call (.Attribute o m apos) (e :: es) [] pos) X.env = (do
      let ov ← eval o X.env
      standAt apos.atName
      let (f, first) ← holding [ov] (getMethod ov m pl)
      callWith pos f first (backTo pos (starEach (e :: es) X.env)) (backToKw pos (keywordEach [] X.env))) := by rfl) :
    PE X (.Call (.Attribute o m apos) (e :: es) [] pos) (tMtW C m sp dvs W ta t) := by
  obtain ⟨f, fd, ps, ds, hc, hm, F, hb, hd⟩ := c.ex
  refine ⟨fun pins s σ H Q I h => ?_⟩
  refine PySem.W.methodCall_KW (pl := pl) (thn (he.run pins s σ H _ I h) fun u s1 ⟨x, H1, I1, rx, a, dx, fs, ex, ea, l, q⟩ => ?_) ht
  subst ex
  obtain rfl : u = Value.ref a := rx
  refine getmeth_ok I1 ea hc hm l ?_
  refine PySem.W.callWith_K (first := [.ref a]) (h₀ := X.base) I.ok.mod.kin hm.kp (thn (ha.run pos pins s1 σ H1 _ I1 q) fun us s2 ⟨vs, H2, I2, r, q2⟩ => ⟨I2.kIn, ?_⟩) hst hpl
  exact run_fnSD (E := WE W) (us := .ref a :: us) (vs := .ref a :: vs) F (hr.mono hk) hb hd (passAt tk σ) I2 (.cons rfl r) q2
theorem pe_mt0 {pl : Sem Bool} (c : MetX X.prog X.w X.K X.mg X.base k C m sp dvs) (hr : Room j X.A) (hk : k ≤ j) (tk : Takes X W) (he : PE X o ta)
    (ht : eval (.Call (.Attribute o m apos) [] [] pos) X.env = (do
      let ov ← eval o X.env
      standAt apos.atName
      let (f, first) ← holding [ov] (getMethod ov m pl)
      callWith pos f first (backTo pos (starEach [] X.env)) (backToKw pos (keywordEach [] X.env))) := by rfl) :
    PE X (.Call (.Attribute o m apos) [] [] pos) (tMtW C m sp dvs W ta tNil) := by
  obtain ⟨f, fd, ps, ds, hc, hm, F, hb, hd⟩ := c.ex
  refine ⟨fun pins s σ H Q I h => ?_⟩
  refine PySem.W.methodCall_KW (pl := pl) (thn (he.run pins s σ H _ I h) fun u s1 ⟨x, H1, I1, rx, a, dx, fs, ex, ea, l, q⟩ => ?_) ht
  subst ex
  obtain rfl : u = Value.ref a := rx
  refine getmeth_ok I1 ea hc hm l ?_
  exact PySem.W.callWith_K0 (first := [.ref a]) I1.kIn hm.kp (run_fnSD (E := WE W) (us := [.ref a]) (vs := [.ref a]) F (hr.mono hk) hb hd (passAt tk σ) I1 (.cons rfl .nil) q)
theorem run_makeW {pins : List (Addr × Obj)} {σ : L2.St} {H : Hp} {s : Shared} {Q : VK} {us : List Value} {vs : List V} (c : MakX X.prog X.w X.K X.mg X.base k x C sp dvs) (hr : Room j X.A) (hk : k + 1 ≤ j) (tk : Takes X W) (I : Inv X pins σ H s) (r : Vals vs us)
    (h : ∀ x dx, H x = none → H dx = none → dx ≠ x → sp (.ref x :: (vs ++ dvs)) (upd (upd H dx (.own x)) x (.ins C dx [])) (fun v H2 => v = .non ∧ Q (.ref x) H2) (fun c d H' => W c d σ H')) :
    wpAny (model X.prog X.w) X.A (call (.ref C) us) (EP X pins σ Q) X.xe s := by
  obtain ⟨f, fd, ps, ds, M, F, hm, hb, hd⟩ := c.ex
  have hq := h (s.heap.objs.size + 1) s.heap.objs.size (I.hok.fresh (Nat.le_succ _)) (I.hok.fresh (Nat.le_refl _)) (Nat.ne_of_lt (Nat.lt_succ_self _))
  have I2 := Inv.made (C := C) I
  have r2 : Vals (V.ref (s.heap.objs.size + 1) :: (vs ++ dvs)) (Value.ref (s.heap.objs.size + 1) :: (us ++ ds)) := .cons rfl (r.append hd)
  have hl : (Value.ref (s.heap.objs.size + 1) :: us ++ ds).length = ps.length := by
    have e := r2.length
    rw [F.len _ _ _ _ hq] at e
    exact e.symm
  refine wpAny_call (make_map (f := f) I.kIn M.makes M.init (beq_iff_eq.mp M.fn) (codeAny_mono (F.run _ X.stack _ _ ⟨Value.ref (s.heap.objs.size + 1) :: us, []⟩ (Value.ref (s.heap.objs.size + 1) :: (us ++ ds)) _ _ _ ((hr.mono hk).make C us [])
    (I2.env0.make C us []) (hb _ (Value.ref (s.heap.objs.size + 1) :: us) I2.kIn hl) r2 hq) fun r s' hq' => ?_))
  cases r with
  | error e => exact passAt tk σ pins _ _ e s' I2 hq'
  | ok fl =>
    cases fl with
    | ret u =>
      obtain ⟨v, H', I3, rv, ev, q3⟩ := I2.after hq'
      subst ev
      exact ⟨rv, ⟨V.ref (s.heap.objs.size + 1), H', I3, rfl, q3⟩⟩
    | next => exact False.elim hq'
    | brk => exact False.elim hq'
    | cont => exact False.elim hq'
theorem pe_mk (c : MakX X.prog X.w X.K X.mg X.base k x C sp dvs) (hr : Room j X.A) (hk : k + 1 ≤ j) (tk : Takes X W) (hg : Gl X x) (ha : PA X (e :: es) t)
    (hdb : (x == ("__debug__" : Str)) = false := by decide) (he : starEach (e :: es) X.env = (false, eval e X.env) :: starEach es X.env := by rfl) (hpl : (backTo pos (starEach es X.env)).any (·.1) = false := by rfl) :
    PE X (.Call (.Name x p) (e :: es) [] pos) (tMkW C sp dvs W t) := by
  have c' := c
  obtain ⟨f, fd, ps, ds, M, F, hm, b, d⟩ := c.ex
  refine ⟨fun pins s σ H Q I h => ?_⟩
  refine wpAny_Call_Name_kw (ld_glob I hg hm ?_ hdb)
  refine PySem.W.callWith_K (h₀ := X.base) I.ok.mod.kin M.kp (thn (ha.run pos pins s σ H _ I h) fun us s1 ⟨vs, H1, I1, r, q⟩ => ⟨I1.kIn, ?_⟩) he hpl
  exact run_makeW c' hr hk tk I1 r q
theorem pe_mk0 (c : MakX X.prog X.w X.K X.mg X.base k x C sp dvs) (hr : Room j X.A) (hk : k + 1 ≤ j) (tk : Takes X W) (hg : Gl X x) (hdb : (x == ("__debug__" : Str)) = false := by decide) : PE X (.Call (.Name x p) [] [] pos) (tMkW C sp dvs W tNil) := by
  have c' := c
  obtain ⟨f, fd, ps, ds, M, F, hm, b, d⟩ := c.ex
  refine ⟨fun pins s σ H Q I h => ?_⟩
  refine wpAny_Call_Name_kw (ld_glob I hg hm ?_ hdb)
  exact PySem.W.callWith_K0 I.kIn M.kp (run_makeW (us := []) c' hr hk tk I .nil h)
end
/-- list(xs) -/
def rListK (K : PySem.W.Frag) : List V → Hp → VK → Prop := fun xs H Q => ∃ p ys, xs = [.ref p] ∧ (SqL K H p ys ∨ SqT K H p ys) ∧ ∀ l, H l = none → Q (.ref l) (upd H l (.lst ys))
theorem call_listK {X : Cx} : CallR X (.type "list") (rListK X.K) := call_list_of
section
variable {K : PySem.W.Frag} {W : Wd} {Q : VK} {σ : L2.St} {H : Hp} {v x y z : V} {r : Option Rl} {a C dx : Addr} {p : Addr}
theorem g_rep (r' : Option Rl) {k : Int} (o : At W r p (.lst [x])) (h1 : 0 ≤ k) (h2 : k ≤ 1000) (q : ∀ l W', W.H l = none → At W' r' l (.lst (List.replicate k.toNat x)) → Step SNone W W' → Q (.ref l) W'.H) : rRep (.ref p) (.int k) W.H Q := by
  refine ⟨p, k, [x], rfl, rfl, o.h, by omega, by omega, ?_, fun l n => ?_⟩
  · have : sizeLine = 16777216 := sizeLine_eq
    show 1 * k.toNat ≤ sizeLine
    omega
  · have e : (List.replicate k.toNat [x]).flatten = List.replicate k.toNat x := by simp
    rw [e]
    exact q l (W.new r' l _) n (W.new_at r' l _) (W.new_step n)
theorem g_cnt {ns : List Int} {k : Int} (o : At W r p (.lst (ns.map V.int))) (q : Q (.int (ns.count k : Nat)) W.H) : rCntI K (.ref p) [.int k] W.H Q := ⟨p, ns, k, rfl, rfl, SqL.of o.h, q⟩
theorem g_listof (r' : Option Rl) {ys : List V} (o : SqL K W.H p ys ∨ SqT K W.H p ys) (q : ∀ l W', W.H l = none → At W' r' l (.lst ys) → Step SNone W W' → Q (.ref l) W'.H) : rListK K [V.ref p] W.H Q := ⟨p, ys, rfl, o, fun l n => q l (W.new r' l _) n (W.new_at r' l _) (W.new_step n)⟩
theorem g_bm {T : String} {rr : V → List V → Hp → VK → Prop} {to : TE} {t : TA} (q : to σ H fun x H1 => tyV K T x H1 ∧ t σ H1 fun xs H2 => rr x xs H2 Q) : tBM K T rr to t σ H Q := q
theorem g_mt {m : Str} {sp : Sp} {dvs : List V} {Wx : WX} {ta : TE} {t : TA} {fs : List (Str × V)} (h : Vl ta σ W.H (.ref a)) (o : At W r a (.ins C dx fs)) (l : fs.lookup m = none) (q : t σ W.H fun vs H2 => sp (.ref a :: (vs ++ dvs)) H2 Q (fun c d H' => Wx c d σ H')) : tMtW C m sp dvs Wx ta t σ W.H Q :=
  h _ ⟨a, dx, fs, rfl, o.h, l, q⟩
theorem g_cl {sp : Sp} {dvs : List V} {Wx : WX} {t : TA} (q : t σ H fun vs H1 => sp (vs ++ dvs) H1 Q (fun c d H' => Wx c d σ H')) : tClW sp dvs Wx t σ H Q := q
theorem g_mk {sp : Sp} {dvs : List V} {Wx : WX} {t : TA} (q : t σ H fun vs H1 => MkN C (fun x H2 => sp (.ref x :: (vs ++ dvs)) H2 (fun v H3 => v = .non ∧ Q (.ref x) H3) (fun c d H' => Wx c d σ H')) H1) : tMkW C sp dvs Wx t σ H Q := q
theorem mk_w {R : Addr → Hp → Prop} (r : Option Rl) (h : ∀ x dx W1, W.H x = none → At W1 r x (.ins C dx []) → Step SNone W W1 → R x W1.H) : MkN C R W.H := fun x dx nx nd ne => by
  have n2 : (W.new none dx (.own x)).H x = none := by
    show upd W.H dx (.own x) x = none
    rw [upd_ne (Ne.symm ne)]; exact nx
  exact h x dx ((W.new none dx (.own x)).new r x (.ins C dx [])) nx (Wd.new_at _ _ _ _) ((W.new_step nd).tr (Wd.new_step _ n2))
end
theorem pe_ci {X : Cx} {x : Str} {pos : Pos} {i : Int} (h : ∃ t, X.mg x = some (.int i t)) (hg : Gl X x := by rfl) (hd : (x == ("__debug__" : Str)) = false := by decide) : PE X (.Name x pos) (tC (.int i)) := let ⟨t, e⟩ := h; pe_glob hg e ⟨t, rfl⟩ hd
theorem pe_gr {X : Cx} {x : Str} {pos : Pos} {a : Addr} (h : X.mg x = some (.ref a)) (hg : Gl X x := by rfl) (hd : (x == ("__debug__" : Str)) = false := by decide) : PE X (.Name x pos) (tC (.ref a)) := pe_glob hg h rfl hd
theorem pe_bty {X : Cx} {x : Str} {pos : Pos} (T : String) (h : X.mg x = none) (hv : bootBuiltins x = some (.type T)) (hg : Gl X x := by rfl) (hn : x ≠ "__name__" := by decide) (hd : (x == ("__debug__" : Str)) = false := by decide) : PE X (.Name x pos) (tC (.ty T)) := pe_bltn (v := .ty T) hg h hv rfl hn hd
theorem pe_cs {X : Cx} {x z : Str} {pos : Pos} (h : ∃ t, X.mg x = some (.str z t)) (hg : Gl X x := by rfl) (hd : (x == ("__debug__" : Str)) = false := by decide) : PE X (.Name x pos) (tC (.str z)) := let ⟨t, e⟩ := h; pe_glob hg e ⟨t, rfl⟩ hd
/-- a statement, then the rest, with a word between them -/
def tCutW (t u : TS) : TS := fun D σ H => ∃ M : L2.St → Wd → Prop, t ⟨fun σ' H' => ∃ W', H' = Wd.H W' ∧ M σ' W', D.rt, D.bk, D.ct⟩ σ H ∧ ∀ σ' W', M σ' W' → u D σ' W'.H
theorem pss_cutW {X : Cx} {st : Stmt} {rest : List Stmt} {t u : TS} (h1 : PS X st t) (h2 : PSs X rest u) : PSs X (st :: rest) (tCutW t u) := by
  refine ⟨fun pins s σ H D I h => ?_⟩
  obtain ⟨M, hm, hu⟩ := h
  refine wpAny_execs_cons (thn (h1.run pins s σ H ⟨_, D.rt, D.bk, D.ct⟩ I hm) fun f s1 q => ?_)
  cases f with
  | next =>
    obtain ⟨σ', H', I', W', e, q⟩ := q
    subst e
    exact h2.run pins s1 σ' W'.H D I' (hu σ' W' q)
  | ret v => exact q
  | brk => exact q
  | cont => exact q
theorem k_cut {t u : TS} {D : Ends} {σ : L2.St} {H : Hp} (M : L2.St → Wd → Prop) (h : t ⟨fun σ' H' => ∃ W', H' = Wd.H W' ∧ M σ' W', D.rt, D.bk, D.ct⟩ σ H) (k : ∀ σ' W', M σ' W' → u D σ' W'.H) : tCutW t u D σ H := ⟨M, h, k⟩
/-! ### loops -/
section
variable {K : PySem.W.Frag} {W : Wd} {σ : L2.St} {tl : TE} {tb : TS} {g : TG} {nx : L2.St → Hp → Prop} {rt : VK} {bk ct : L2.St → Hp → Prop} {r : Option Rl} {a : Addr} {xs : List V}
theorem k_forL (h : Vl tl σ W.H (.ref a)) (o : SqL K W.H a xs) (Pv : Nat → L2.St → Wd → Prop) (h0 : Pv 0 σ W) (hl : ∀ i σ' W', i ≤ xs.length → Pv i σ' W' → SqL K W'.H a xs)
    (hs : ∀ i x σ' W', xs[i]? = some x → Pv i σ' W' → g x σ' W'.H fun σ2 H2 => tb ⟨fun σ3 H3 => ∃ W3, H3 = Wd.H W3 ∧ Pv (i + 1) σ3 W3, rt, nx, fun σ3 H3 => ∃ W3, H3 = Wd.H W3 ∧ Pv (i + 1) σ3 W3⟩ σ2 H2)
    (hd : ∀ σ' W', Pv xs.length σ' W' → nx σ' W'.H) : tFor (iList K tl) g tb ⟨nx, rt, bk, ct⟩ σ W.H :=
  h _ ⟨a, rfl, ⟨xs, o⟩, for_list (D := ⟨nx, rt, bk, ct⟩) (K := K) (a := a) (xs := xs) (fun i σ' H' => ∃ W', H' = Wd.H W' ∧ Pv i σ' W') ⟨W, rfl, h0⟩ (fun i σ' H' hi ⟨W', e, p⟩ => by subst e; exact hl i σ' W' hi p)
    (fun i x σ' H' hx ⟨W', e, p⟩ => by subst e; exact hs i x σ' W' hx p) (fun σ' H' ⟨W', e, p⟩ => by subst e; exact hd σ' W' p)⟩
theorem k_forR1 {ta : TE} {n : Int} (h : Vl ta σ W.H (.int n)) (h1 : -(2 ^ 62) ≤ n) (h2 : n < 2 ^ 62) (Pv : Nat → L2.St → Wd → Prop) (h0 : Pv 0 σ W)
    (hs : ∀ (i : Nat) σ' W', (i : Int) < n → Pv i σ' W' → g (.int (i : Int)) σ' W'.H fun σ2 H2 => tb ⟨fun σ3 H3 => ∃ W3, H3 = Wd.H W3 ∧ Pv (i + 1) σ3 W3, rt, nx, fun σ3 H3 => ∃ W3, H3 = Wd.H W3 ∧ Pv (i + 1) σ3 W3⟩ σ2 H2)
    (hd : ∀ σ' W', Pv n.toNat σ' W' → nx σ' W'.H) : tFor (iRng1 (tCons ta tNil)) g tb ⟨nx, rt, bk, ct⟩ σ W.H :=
  h _ ⟨n, rfl, h1, h2, for_range (D := ⟨nx, rt, bk, ct⟩) (lo := 0) (n := n.toNat) (fun i σ' H' => ∃ W', H' = Wd.H W' ∧ Pv i σ' W') ⟨W, rfl, h0⟩
    (fun i σ' H' hi ⟨W', e, p⟩ => by subst e; rw [Int.zero_add]; exact hs i σ' W' (by omega) p) (fun σ' H' ⟨W', e, p⟩ => by subst e; exact hd σ' W' p)⟩
/-- for a, b, .. in a list of tuples, for x in a list -/
theorem g_tupn {n : Nat} {t : TGs} {p : Addr} {ys : List V} {Q : L2.St → Hp → Prop} (o : SqT K W.H p ys) (e : ys.length = n) (q : t ys σ W.H Q) : gTup K n t (.ref p) σ W.H Q := ⟨p, ys, rfl, o, e, q⟩
theorem g_tcons {t : TG} {u : TGs} {v : V} {ys : List V} {H : Hp} {Q : L2.St → Hp → Prop} (q : t v σ H fun σ' H' => u ys σ' H' Q) : gCons t u (v :: ys) σ H Q := ⟨v, ys, rfl, q⟩
theorem g_tnil {H : Hp} {Q : L2.St → Hp → Prop} (q : Q σ H) : gNil [] σ H Q := ⟨rfl, q⟩
theorem g_tname {i : Nat} {v : V} {H : Hp} {Q : L2.St → Hp → Prop} (q : Q (σ.set i (some v)) H) : gName i v σ H Q := q
/-- while, by a measure; the test is pure -/
theorem k_while {c : TT} (Pv : L2.St → Wd → Prop) (μ : L2.St → Wd → Nat) (h0 : Pv σ W)
    (hs : ∀ σ' W', Pv σ' W' → ∃ b, Ts c σ' W'.H b ∧ (b = true → tb ⟨fun σ3 H3 => ∃ W3, H3 = Wd.H W3 ∧ Pv σ3 W3 ∧ μ σ3 W3 < μ σ' W', rt, nx, fun σ3 H3 => ∃ W3, H3 = Wd.H W3 ∧ Pv σ3 W3 ∧ μ σ3 W3 < μ σ' W'⟩ σ' W'.H) ∧ (b = false → nx σ' W'.H)) :
    tWhile c tb ⟨nx, rt, bk, ct⟩ σ W.H := by
  refine ⟨fun m σ' H' => ∃ W', H' = Wd.H W' ∧ m = μ σ' W' ∧ Pv σ' W', ⟨_, W, rfl, rfl, h0⟩, ?_⟩
  rintro m σ' H' ⟨W', rfl, rfl, p⟩
  obtain ⟨b, ht, h1, h2⟩ := hs σ' W' p
  refine ht _ ?_
  cases b with
  | true => exact ⟨_, fun σ3 H3 ⟨W3, e, p3, l⟩ => ⟨_, l, W3, e, rfl, p3⟩, h1 rfl⟩
  | false => exact h2 rfl
end
/-! ### C.m(..): a def of a class, called by the class's name -/
def clsB (K : PySem.W.Frag) (C : Addr) (m : Str) (f : Addr) : Bool := PySem.W.readsIn K C (.type "type") && (decide (PySem.W.specialIn K (.ref C) "__getattribute__" = some (some (.builtin "type.__getattribute__"))) && (PySem.W.keepIn K (.ref f) && (match PySem.W.findCls K (.ref C) (.type "type") m with
  | some (.val (.ref g)) => decide (g = f)
  | _ => false)))
theorem clsB_ok {K : PySem.W.Frag} {C f : Addr} {m : Str} (h : clsB K C m f = true) : PySem.W.readsIn K C (.type "type") = true ∧ PySem.W.specialIn K (.ref C) "__getattribute__" = some (some (.builtin "type.__getattribute__")) ∧ PySem.W.keepIn K (.ref f) = true ∧ PySem.W.findCls K (.ref C) (.type "type") m = some (.val (.ref f)) := by
  unfold clsB at h
  simp only [Bool.and_eq_true, decide_eq_true_eq] at h
  obtain ⟨h1, h2, h3, h4⟩ := h
  refine ⟨h1, h2, h3, ?_⟩
  split at h4
  · rename_i e
    rw [e, of_decide_eq_true h4]
  · cases h4
structure ClmX (P : Program) (w : World) (K : PySem.W.Frag) (mg : Str → Option Value) (base : Heap) (k : Nat) (C : Addr) (m : Str) (sp : Sp) (dvs : List V) : Prop where
  ex : ∃ (f : Addr) (fd : FuncData) (ps : List Str) (ds : List Value), clsB K C m f = true ∧ FnOk P w K mg base (L2.CX P w) k f fd ps sp ∧ Binds K fd ps ds ∧ Vals dvs ds
theorem pe_clsm {X : Cx} {k j : Nat} {C : Addr} {x m : Str} {sp : Sp} {dvs : List V} {np pos apos : Pos} {e : Expr} {es : List Expr} {t : TA} {W : WX} {pl : Sem Bool} (c : ClmX X.prog X.w X.K X.mg X.base k C m sp dvs) (hr : Room j X.A) (hk : k ≤ j) (tk : Takes X W) (hg : Gl X x) (hm : X.mg x = some (.ref C)) (ha : PA X (e :: es) t)
    (hdb : (x == ("__debug__" : Str)) = false := by decide)
    (hst : starEach (e :: es) X.env = (false, eval e X.env) :: starEach es X.env := by rfl) (hpl : (backTo pos (starEach es X.env)).any (·.1) = false := by rfl)
    (ht : eval (.Call (.Attribute (.Name x np) m apos) (e :: es) [] pos) X.env = (do
      let ov ← eval (.Name x np) X.env
      standAt apos.atName
      let (f, first) ← holding [ov] (getMethod ov m pl)
      callWith pos f first (backTo pos (starEach (e :: es) X.env)) (backToKw pos (keywordEach [] X.env))) := by rfl) :
    PE X (.Call (.Attribute (.Name x np) m apos) (e :: es) [] pos) (tClW sp dvs W t) := by
  obtain ⟨f, fd, ps, ds, cb, F, hb, hd⟩ := c.ex
  obtain ⟨c1, c2, c3, c4⟩ := clsB_ok cb
  refine ⟨fun pins s σ H Q I h => ?_⟩
  refine PySem.W.methodCall_KW (pl := pl) (ld_glob I hg hm ?_ hdb) ht
  refine PySem.W.method_cls I.kIn c2 (PySem.W.cls_value I.kIn c1 c4 (handed_of (v := .ref f) rfl) ?_)
  have I2 : Inv X pins σ H { s with toks := s.toks + 1 } := I.tok _
  refine PySem.W.callWith_K (first := []) (h₀ := X.base) I.ok.mod.kin c3 (thn (ha.run pos pins _ σ H _ I2 h) fun us s2 ⟨vs, H2, I3, r, q2⟩ => ⟨I3.kIn, ?_⟩) hst hpl
  exact run_fnSD (E := WE W) F (hr.mono hk) hb hd (passAt tk σ) I3 r q2
theorem clm_by {P : Program} {w : World} {K : PySem.W.Frag} {mg : Str → Option Value} {base : Heap} {k : Nat} {C f : Addr} {m : Str} {sp : Sp} {dvs : List V} {fd : FuncData} {ps : List Str} (cb : clsB K C m f = true) (F : FnOk P w K mg base (L2.CX P w) k f fd ps sp) (b : ∃ ds, Vals dvs ds ∧ L2.Binds K fd ps ds) :
    ClmX P w K mg base k C m sp dvs := let ⟨ds, r, b⟩ := b; ⟨f, fd, ps, ds, cb, F, b, r⟩
/-! ### isinstance -/
section
variable {K : PySem.W.Frag} {W : Wd} {σ : L2.St} {ta : TE} {a C : Addr} {b : Bool} {n : Int}
theorem v_isiC (h : Vl ta σ W.H (.ref a)) (e : ∃ t, TyX K W.H (.ref a) t ∧ PySem.W.kitOne K t (.ref C) = some b) : Vl (tCB (rIsi K) (tCons ta (tCons (tC (.ref C)) tNil))) σ W.H (.bl b) :=
  fun Q q => let ⟨t, ty, k⟩ := e; h _ ⟨.ref a, .ref C, t, .ref C, b, rfl, .own C, ty, k, q⟩
theorem v_isiI {H : Hp} {T : String} (h : Vl ta σ H (.int n)) (e : kitB "int" T = some b) : Vl (tCB (rIsi K) (tCons ta (tCons (tC (.ty T)) tNil))) σ H (.bl b) :=
  fun Q q => h _ ⟨.int n, .ty T, .type "int", .type T, b, rfl, .ty T, .base (.int n), kit_ty e, q⟩
end
/-! ### comprehensions -/
section
variable {K : PySem.W.Frag} {W : Wd} {σ : L2.St} {Q : VK} {te ta tl : TE} {j : Nat} {a : Addr} {xs : List V}
theorem wipe1 (x : V) : wipe ((wipe σ [j]).set j (some x)) [j] = wipe σ [j] := by
  show ((σ.set j none).set j (some x)).set j none = σ.set j none
  rw [List.set_set, List.set_set]
theorem g_yes {R : Bool → Hp → Prop} {H : Hp} (q : R true H) : tYes σ H R := q
def LcK (rD : Option Rl) (Pv : Addr → Nat → List V → Wd → Prop) (D : Addr) (i : Nat) : VK := fun y H4 => ∃ acc', H4 D = some (.lst acc') ∧ acc'.length < sizeLine ∧ ∃ W5 acc5, upd H4 D (.lst (acc' ++ [y])) = Wd.H W5 ∧ At W5 rD D (.lst acc5) ∧ acc5.length ≤ i + 1 ∧ Pv D (i + 1) acc5 W5
def LcN (rD : Option Rl) (Pv : Addr → Nat → List V → Wd → Prop) (D : Addr) (i : Nat) : Hp → Prop := fun H4 => ∃ W5 acc5, H4 = Wd.H W5 ∧ At W5 rD D (.lst acc5) ∧ acc5.length ≤ i + 1 ∧ Pv D (i + 1) acc5 W5
theorem lcK_of {rD : Option Rl} {Pv : Addr → Nat → List V → Wd → Prop} {D : Addr} {i : Nat} {acc : List V} {y : V} (x : At W rD D (.lst acc)) (h : acc.length ≤ i) (hi : i < 100000) (k : ∀ W5, At W5 rD D (.lst (acc ++ [y])) → Step (SAt D) W W5 → Pv D (i + 1) (acc ++ [y]) W5) : LcK rD Pv D i y W.H :=
  ⟨acc, x.h, by have : sizeLine = 16777216 := sizeLine_eq; omega, W.put x (.lst (acc ++ [y])), acc ++ [y], rfl, Wd.put_at _ _, by simp; omega, k _ (Wd.put_at _ _) (Wd.put_step _ _)⟩
theorem g_lcR {n : Int} (rD : Option Rl) (h : Vl ta σ W.H (.int n)) (hn0 : -(2 ^ 62) ≤ n) (hn : n ≤ 100000) (Pv : Addr → Nat → List V → Wd → Prop) (h0 : ∀ D W1, W.H D = none → At W1 rD D (.lst []) → Step SNone W W1 → Pv D 0 [] W1)
    (hs : ∀ D (i : Nat) acc W1, W.H D = none → (i : Int) < n → At W1 rD D (.lst acc) → acc.length ≤ i → Pv D i acc W1 → te ((wipe σ [j]).set j (some (.int (i : Int)))) W1.H (LcK rD Pv D i))
    (hd : ∀ D acc W1, W.H D = none → At W1 rD D (.lst acc) → Pv D n.toNat acc W1 → Q (.ref D) W1.H) : tLc (iRng1 (tCons ta tNil)) (gName j) tYes te [j] σ W.H Q := by
  refine h _ ⟨n, rfl, hn0, by omega, fun D nD => ?_⟩
  refine lc_range (lo := 0) (n := n.toNat) (fun i H' => ∃ W' acc, H' = Wd.H W' ∧ At W' rD D (.lst acc) ∧ acc.length ≤ i ∧ Pv D i acc W') ⟨W.new rD D (.lst []), [], rfl, Wd.new_at _ _ _ _, Nat.le_refl _, h0 D _ nD (Wd.new_at _ _ _ _) (W.new_step nD)⟩ ?_ ?_
  · rintro i H' hi ⟨W', acc, rfl, at', la, p⟩
    refine ⟨wipe1 _, g_yes (iteT ?_)⟩
    have q := hs D i acc W' nD (by omega) at' la p
    have e0 : (0 : Int) + (i : Int) = (i : Int) := Int.zero_add _
    rw [← e0] at q
    exact q
  · rintro H' ⟨W', acc, rfl, at', la, p⟩
    exact hd D acc W' nD at' p
theorem g_lcL {tt : TT} (rD : Option Rl) (h : Vl tl σ W.H (.ref a)) (o : SqL K W.H a xs) (Pv : Addr → Nat → List V → Wd → Prop) (h0 : ∀ D W1, W.H D = none → At W1 rD D (.lst []) → Step SNone W W1 → Pv D 0 [] W1)
    (hl : ∀ D i acc W1, W.H D = none → At W1 rD D (.lst acc) → Pv D i acc W1 → SqL K W1.H a xs)
    (hs : ∀ D (i : Nat) x acc W1, W.H D = none → xs[i]? = some x → At W1 rD D (.lst acc) → acc.length ≤ i → Pv D i acc W1 → tt ((wipe σ [j]).set j (some x)) W1.H fun b H3 => if b = true then te ((wipe σ [j]).set j (some x)) H3 (LcK rD Pv D i) else LcN rD Pv D i H3)
    (hd : ∀ D acc W1, W.H D = none → At W1 rD D (.lst acc) → Pv D xs.length acc W1 → Q (.ref D) W1.H) : tLc (iList K tl) (gName j) tt te [j] σ W.H Q := by
  refine h _ ⟨a, rfl, ⟨xs, o⟩, fun D nD => ?_⟩
  refine lc_list (K := K) (a := a) (xs := xs) (fun i H' => ∃ W' acc, H' = Wd.H W' ∧ At W' rD D (.lst acc) ∧ acc.length ≤ i ∧ Pv D i acc W') ⟨W.new rD D (.lst []), [], rfl, Wd.new_at _ _ _ _, Nat.le_refl _, h0 D _ nD (Wd.new_at _ _ _ _) (W.new_step nD)⟩ ?_ ?_ ?_
  · rintro i H' hi ⟨W', acc, rfl, at', la, p⟩
    exact hl D i acc W' nD at' p
  · rintro i x H' hx ⟨W', acc, rfl, at', la, p⟩
    exact ⟨wipe1 _, hs D i x acc W' nD hx at' la p⟩
  · rintro H' ⟨W', acc, rfl, at', la, p⟩
    exact hd D acc W' nD at' p
end
/-! ### a def keeps its promise -/
section
variable {P : Program} {w : World} {K : PySem.W.Frag} {mg : Str → Option Value} {base : Heap}
def BodyOk (P : Program) (w : World) (K : PySem.W.Frag) (mg : Str → Option Value) (base : Heap) (k : Nat) (N : List Str) (qual : Str) (scope : Scope) (f : Addr) (body : List Stmt) (sp : Sp) : Prop :=
  ∀ (cdv : Value) (A : Around) (outer : List Env) (s : Shared) (H : Hp) (vs : List V) (Q : VK) (E : XK), Room k (A.deeper (envOfC qual scope s.heap.objs.size f cdv)) →
    Takes (cxOf (L2.CX P w) P w K mg base N qual scope f cdv A outer s H E) (fun c d _ H' => E c d H') →
    PassesOwn (model P w) (A.deeper (envOfC qual scope s.heap.objs.size f cdv)) (cxOf (L2.CX P w) P w K mg base N qual scope f cdv A outer s H E).env (cxOf (L2.CX P w) P w K mg base N qual scope f cdv A outer s H E).xe → sp vs H Q E →
    ∃ t, PSs (cxOf (L2.CX P w) P w K mg base N qual scope f cdv A outer s H E) body t ∧ t { nx := fun _ H' => Q .non H', rt := Q } (start N vs) H
variable {x qual m : Str} {params : Arguments} {body : List Stmt} {scope : Scope} {dvs dv2 : List V} {kws : List (Str × V)} {f C : Addr} {fd : FuncData} {N ps : List Str} {k : Nat} {sp : Sp}
theorem fn_by (F : FunD K x qual params body scope dvs kws f fd) (S : FnScope N ps scope) (len : ∀ vs H Q E, sp vs H Q E → vs.length = ps.length) (h : BodyOk P w K mg base k N qual scope f body sp) : FnOk P w K mg base (L2.CX P w) (k + 1) f fd ps sp :=
  F.ok S len fun cdv A outer s H vs Q E hr hs => h cdv A outer s H vs Q E hr (takes_of rfl rfl rfl rfl) (passes_of rfl) hs
theorem met_by (c : Cls K C) (me : Meth K C m f) (F : FunD K x qual params body scope dvs kws f fd) (b : ∃ ds, Vals dv2 ds ∧ Binds K fd ps ds) (S : FnScope N ps scope) (len : ∀ vs H Q E, sp vs H Q E → vs.length = ps.length) (h : BodyOk P w K mg base k N qual scope f body sp) :
    MetX P w K mg base (k + 1) C m sp dv2 := let ⟨ds, r, b⟩ := b; ⟨f, fd, ps, ds, c, me, fn_by F S len h, b, r⟩
theorem cal_by (gm : mg x = some (.ref f)) (F : FunD K x qual params body scope dvs kws f fd) (b : ∃ ds, Vals dv2 ds ∧ Binds K fd ps ds) (S : FnScope N ps scope) (len : ∀ vs H Q E, sp vs H Q E → vs.length = ps.length) (h : BodyOk P w K mg base k N qual scope f body sp) :
    CalX P w K mg base (k + 1) x sp dv2 := let ⟨ds, r, b⟩ := b; ⟨f, fd, ps, ds, fn_by F S len h, gm, F.kp, b, r⟩
theorem mak_by {cn : Str} (gm : mg cn = some (.ref C)) (M : Mk K C f) (F : FunD K x qual params body scope dvs kws f fd) (b : ∃ ds, Vals dv2 ds ∧ Binds K fd ps ds) (S : FnScope N ps scope) (len : ∀ vs H Q E, sp vs H Q E → vs.length = ps.length) (h : BodyOk P w K mg base k N qual scope f body sp) :
    MakX P w K mg base (k + 1) cn C sp dv2 := let ⟨ds, r, b⟩ := b; ⟨f, fd, ps, ds, M, fn_by F S len h, gm, b, r⟩
end
/-- promises of so many arguments -/
def Sp1 (g : V → Hp → VK → XK → Prop) : Sp := fun vs H Q E => ∃ a, vs = [a] ∧ g a H Q E
def Sp2 (g : V → V → Hp → VK → XK → Prop) : Sp := fun vs H Q E => ∃ a b, vs = [a, b] ∧ g a b H Q E
def Sp3 (g : V → V → V → Hp → VK → XK → Prop) : Sp := fun vs H Q E => ∃ a b c, vs = [a, b, c] ∧ g a b c H Q E
def Sp4 (g : V → V → V → V → Hp → VK → XK → Prop) : Sp := fun vs H Q E => ∃ a b c d, vs = [a, b, c, d] ∧ g a b c d H Q E
def Sp5 (g : V → V → V → V → V → Hp → VK → XK → Prop) : Sp := fun vs H Q E => ∃ a b c d e, vs = [a, b, c, d, e] ∧ g a b c d e H Q E
def Sp6 (g : V → V → V → V → V → V → Hp → VK → XK → Prop) : Sp := fun vs H Q E => ∃ a b c d e f, vs = [a, b, c, d, e, f] ∧ g a b c d e f H Q E
theorem Sp1.len {g : V → Hp → VK → XK → Prop} (vs : List V) (H : Hp) (Q : VK) (E : XK) (h : Sp1 g vs H Q E) : vs.length = 1 := by obtain ⟨a, rfl, _⟩ := h; rfl
theorem Sp2.len {g : V → V → Hp → VK → XK → Prop} (vs : List V) (H : Hp) (Q : VK) (E : XK) (h : Sp2 g vs H Q E) : vs.length = 2 := by obtain ⟨a, b, rfl, _⟩ := h; rfl
theorem Sp3.len {g : V → V → V → Hp → VK → XK → Prop} (vs : List V) (H : Hp) (Q : VK) (E : XK) (h : Sp3 g vs H Q E) : vs.length = 3 := by obtain ⟨a, b, c, rfl, _⟩ := h; rfl
theorem Sp4.len {g : V → V → V → V → Hp → VK → XK → Prop} (vs : List V) (H : Hp) (Q : VK) (E : XK) (h : Sp4 g vs H Q E) : vs.length = 4 := by obtain ⟨a, b, c, d, rfl, _⟩ := h; rfl
theorem Sp5.len {g : V → V → V → V → V → Hp → VK → XK → Prop} (vs : List V) (H : Hp) (Q : VK) (E : XK) (h : Sp5 g vs H Q E) : vs.length = 5 := by obtain ⟨a, b, c, d, e, rfl, _⟩ := h; rfl
theorem Sp6.len {g : V → V → V → V → V → V → Hp → VK → XK → Prop} (vs : List V) (H : Hp) (Q : VK) (E : XK) (h : Sp6 g vs H Q E) : vs.length = 6 := by obtain ⟨a, b, c, d, e, f, rfl, _⟩ := h; rfl
/-- what isinstance asks of an own class -/
def insB (K : PySem.W.Frag) (C : Addr) : Bool := decide (PySem.W.findIn K (.ref C) "__class__" = some (some (.builtin "object.__class__"))) && (decide (PySem.W.specialIn K (.builtin "object.__class__") "__get__" = some (some (.builtin "getset_descriptor.__get__"))) && (decide (PySem.W.takesIn K (.builtin "object.__class__") = some true) && decide (PySem.W.mroIn K C (.type "object") = some true)))
theorem ins_ty {K : PySem.W.Frag} {H : Hp} {a C dx : Addr} {fs : List (Str × V)} (h : insB K C = true) (c : Cls K C) (e : H a = some (.ins C dx fs)) : TyX K H (.ref a) (.ref C) := by
  unfold insB at h
  simp only [Bool.and_eq_true, decide_eq_true_eq] at h
  exact .base (.ins e c h.1 h.2.1 h.2.2.1 h.2.2.2)
end LF

namespace PySem.SeqAt
open AutoSeq1 (wpAny_loadPart')
open MeetsSeq MeetsSeq2 MeetsSeq3 SeqRoads2
section
variable {prog : Program} {w : World}
theorem lf_list_eqNe (l b : Addr) (items items2 : Array Value) (n n2 : Nat) (dd dd2 : Option Addr) (sl sl2 : Array (Option Value)) (hsz : items.size ≠ items2.size) :
    MeetsIn prog w (Builtin.«list.__eq__» ⟨[.ref l, .ref b], []⟩)
      (fun A R s => s.heap.get? l = some { cls := .type "list", dict := dd, data := .seq items n, slots := sl } ∧ s.heap.get? b = some { cls := .type "list", dict := dd2, data := .seq items2 n2, slots := sl2 } ∧
        R (.ok (.ret (.bool false))) s) := by
  intro A R s h
  obtain ⟨hp, g, d, tk, os⟩ := s; obtain ⟨hl, hb, h⟩ := h
  have f3 := AutoSeq1.sub_list_list
  have hne : (items.size != items2.size) = true := by simp [hsz]
  wp_walk using wpAny_loadPart' hl, wpAny_loadPart' hb
  exact h
theorem lf_rc_ne {A : Around} {s : Shared} {l b : Addr} {items items2 : Array Value} (hl : s.heap.IsList l items) (hb : s.heap.IsList b items2) (hsz : items.size ≠ items2.size) (hu : A.units < cLine)
    (E Q : Value → Shared → Prop) (h : Q (.bool false) s) : wpAny (model prog w) A (richCompare .Eq (.ref l) (.ref b)) Q E s := by
  obtain ⟨⟨cls, dd, data, sl⟩, ho, hc, n, hd⟩ := id hl
  obtain ⟨⟨cls2, dd2, data2, sl2⟩, ho2, hc2, n2, hd2⟩ := id hb
  simp only at hc hd hc2 hd2
  subst hc hd hc2 hd2
  have ta : s.TypeIs (.ref l) "list" := ⟨_, ho, rfl⟩
  have tb : s.TypeIs (.ref b) "list" := ⟨_, ho2, rfl⟩
  exact wpAny_richCompare_same_room (op := .Eq) ta tb F.slot_list_eq (call_meetsIn F.slot_list_eq ta F.entry_list_eq (F.args_list_eq_2 _ _) (lf_list_eqNe l b items items2 n n2 dd dd2 sl sl2 hsz)
    ⟨ho, ho2, show Value.bool false ≠ Value.notImplemented ∧ Q (.bool false) s from ⟨(fun x => nomatch x), h⟩⟩) hu
end
end PySem.SeqAt
namespace LF
open PySem PySem.Spec PyProof.Rows L2
section
variable {X : Cx}
/-- a list == an empty list -/
def rEq0 (K : PySem.W.Frag) : R2 := fun x y H Q => ∃ a b xs, x = .ref a ∧ y = .ref b ∧ SqL K H a xs ∧ SqL K H b [] ∧ Q (.bl (decide (xs = []))) H
theorem op_eq0 (hu : X.A.units + 64 < cLine) : OpR X (compareOp .Eq) (rEq0 X.K) := by
  intro pins s σ H x y v u Q I rx ry h
  obtain ⟨a, b, xs, rfl, rfl, ha, hb, q⟩ := h
  obtain rfl : v = Value.ref a := rx
  obtain rfl : u = Value.ref b := ry
  obtain ⟨its, rv, ⟨o, n, e1, e2, e3, e4⟩, hz⟩ := I.list ha
  obtain ⟨its2, rv2, ⟨o2, n2, f1, f2, f3, f4⟩, hz2⟩ := I.list hb
  have hla : s.heap.IsList a its.toArray := ⟨o, e1, e2, n, e4⟩
  have hlb : s.heap.IsList b its2.toArray := ⟨o2, f1, f2, n2, f4⟩
  have z2 : its2 = [] := by
    have := rv2.length
    exact List.eq_nil_of_length_eq_zero (by rw [← this]; rfl)
  subst z2
  have hlen := rv.length
  show wpAny (model X.prog X.w) X.A (richCompare .Eq (.ref a) (.ref b)) _ X.xe s
  by_cases hx : xs = []
  · subst hx
    have z1 : its = [] := List.eq_nil_of_length_eq_zero (by rw [← hlen]; rfl)
    subst z1
    exact SeqAt.rcP_lists (e := fun _ => true) hla hlb rfl (by omega) (fun j h1 _ => absurd h1 (by simp)) _ _ ⟨.bl true, H, I, rfl, by simpa using q⟩
  · refine SeqAt.lf_rc_ne hla hlb ?_ (by omega) _ _ ⟨.bl false, H, I, rfl, by rw [decide_eq_false hx] at q; exact q⟩
    intro e
    apply hx
    have : its.length = 0 := by simpa using e
    exact List.eq_nil_of_length_eq_zero (by omega)
/-- one of two rules -/
def tOrE (a b : TE) : TE := fun σ H Q => a σ H Q ∨ b σ H Q
theorem pe_orE {e : Expr} {t u : TE} (h1 : PE X e t) (h2 : PE X e u) : PE X e (tOrE t u) := ⟨fun pins s σ H Q I h => h.elim (h1.run pins s σ H Q I) (h2.run pins s σ H Q I)⟩
end
section
variable {K : PySem.W.Frag} {W : Wd} {Q : VK} {σ : L2.St} {r r2 : Option Rl} {a b : Addr} {ta tb : TE}
theorem g_inl {H : Hp} (h : ta σ H Q) : tOrE ta tb σ H Q := .inl h
theorem g_inr {H : Hp} (h : tb σ H Q) : tOrE ta tb σ H Q := .inr h
theorem g_eq0 {xs : List V} (ha : At W r a (.lst xs)) (hb : At W r2 b (.lst [])) (q : Q (.bl (decide (xs = []))) W.H) : rEq0 K (.ref a) (.ref b) W.H Q := ⟨a, b, xs, rfl, rfl, SqL.of ha.h, SqL.of hb.h, q⟩
theorem g_unl {n : Nat} {t : TGs} {p : Addr} {ys : List V} {Q : L2.St → Hp → Prop} (o : SqL K W.H p ys) (e : ys.length = n) (q : t ys σ W.H Q) : gUnl K n t (.ref p) σ W.H Q := ⟨p, ys, rfl, o, e, q⟩
theorem g_slL (r' : Option Rl) {xs : List V} {lo hi : Option Int} (o : SqL K W.H a xs) (q : ∀ p W', W.H p = none → At W' r' p (.lst (cutV xs lo hi)) → Step SNone W W' → Q (.ref p) W'.H) : rSlL K (.ref a) lo hi W.H Q :=
  ⟨a, xs, rfl, o, fun p n => q p (W.new r' p _) n (W.new_at r' p _) (W.new_step n)⟩
theorem g_slT {xs : List V} {lo hi : Option Int} (o : At W r a (.tup xs)) (hn : ¬ (HT.sIx xs.length 0 lo = 0 ∧ HT.sIx xs.length xs.length hi = xs.length)) (q : ∀ p W', W.H p = none → At W' none p (.tup (cutV xs lo hi)) → Step SNone W W' → Q (.ref p) W'.H) : rSlT K (.ref a) lo hi W.H Q :=
  ⟨a, xs, rfl, SqT.of o.h, hn, fun p n => q p (W.new none p _) n (W.new_at none p _) (W.new_step n)⟩
theorem g_catT {xs ys : List V} (o : At W r a (.tup xs)) (o2 : At W r2 b (.tup ys)) (h1 : xs ≠ []) (h2 : ys ≠ []) (hl : Nat.ble (xs.length + ys.length) 1000 = true) (q : ∀ p W', W.H p = none → At W' none p (.tup (xs ++ ys)) → Step SNone W W' → Q (.ref p) W'.H) : rCatT K (.ref a) (.ref b) W.H Q :=
  ⟨a, b, xs, ys, rfl, rfl, SqT.of o.h, SqT.of o2.h, h1, Nat.le_trans (Nat.le_of_ble_eq_true hl) (by have : sizeLine = 16777216 := sizeLine_eq; omega), fun e => absurd e h2, fun _ p n => q p (W.new none p _) n (W.new_at none p _) (W.new_step n)⟩
theorem g_popAt {xs : List V} {i : Int} {k : Nat} {y : V} (o : At W r a (.lst xs)) (h1 : -(2 ^ 63) ≤ i) (h2 : i < 2 ^ 63) (hk : seqIndex? i xs.length = some k) (hy : xs[k]? = some y) (q : ∀ W', At W' r a (.lst (xs.eraseIdx k)) → Step (SAt a) W W' → Q y W'.H) : rPopAt (.ref a) [.int i] W.H Q :=
  ⟨a, xs, i, k, y, rfl, rfl, o.h, h1, h2, hk, hy, q (W.put o _) (W.put_at o _) (W.put_step o _)⟩
theorem g_newT (r' : Option Rl) (q : ∀ p W', W.H p = none → At W' r' p (.dT []) → Step SNone W W' → Q (.ref p) W'.H) : tDNewT σ W.H Q := fun p n => q p (W.new r' p _) n (W.new_at r' p _) (W.new_step n)
theorem g_lenT {kvs : List (List L2.Key × V)} (o : At W r a (.dT kvs)) (q : Q (.int (kvs.length : Nat)) W.H) : rLenT [.ref a] W.H Q := ⟨a, kvs, rfl, o.h, q⟩
end
/-- an exception that the clause takes -/
theorem w_only {K : PySem.W.Frag} {c cls : Value} {d : Option Addr} {ts : Addr → Value → Option Addr → TS} {Wout : WX} {D : Ends} {σ : L2.St} {H : Hp} (e : PySem.W.exmOne K cls c = some true) (q : ∀ a, H a = none → ts a cls d D σ H) : wOnly K c ts Wout D cls d σ H :=
  ⟨true, e, fun _ => q, fun z => Bool.noConfusion z⟩
/-! ### deep data -/
theorem dpI {K : PySem.W.Frag} {H : Hp} : ∀ ns : List Int, DpAll K H (ns.map V.int) (ns.map PyData.int)
  | [] => .nil
  | n :: ns => .cons (.int n) (dpI ns)
theorem dpB {K : PySem.W.Frag} {H : Hp} : ∀ ns : List Bool, DpAll K H (ns.map V.bl) (ns.map PyData.bool)
  | [] => .nil
  | n :: ns => .cons (.bl n) (dpB ns)
theorem eqvI : ∀ ns ms : List Int, PyData.eqvAll (ns.map PyData.int) (ms.map PyData.int) = decide (ns = ms)
  | [], [] => rfl
  | [], _ :: _ => rfl
  | _ :: _, [] => rfl
  | n :: ns, m :: ms => by
    show (n == m && PyData.eqvAll (ns.map PyData.int) (ms.map PyData.int)) = _
    rw [eqvI ns ms]
    by_cases h : n = m <;> by_cases h2 : ns = ms <;> simp [h, h2]
theorem eqvB : ∀ ns ms : List Bool, PyData.eqvAll (ns.map PyData.bool) (ms.map PyData.bool) = decide (ns = ms)
  | [], [] => rfl
  | [], _ :: _ => rfl
  | _ :: _, [] => rfl
  | n :: ns, m :: ms => by
    show (n == m && PyData.eqvAll (ns.map PyData.bool) (ms.map PyData.bool)) = _
    rw [eqvB ns ms]
    by_cases h : n = m <;> by_cases h2 : ns = ms <;> simp [h, h2]
theorem lay0 (f : α → PyData) (hf : ∀ x, PyData.canLay0 (f x) = true ∧ PyData.depth (f x) = 0) : ∀ ns : List α, PyData.canLayAll0 (ns.map f) = true ∧ PyData.depthAll (ns.map f) = 0
  | [] => ⟨by simp [PyData.canLayAll0], by simp [PyData.depthAll]⟩
  | n :: ns => by
    obtain ⟨h1, h2⟩ := lay0 f hf ns
    obtain ⟨h3, h4⟩ := hf n
    simp [PyData.canLayAll0, PyData.depthAll, h1, h2, h3, h4]
theorem shapedL (f : α → PyData) (hf : ∀ x, PyData.canLay0 (f x) = true ∧ PyData.depth (f x) = 0) (ns : List α) : SeqAt.shaped (.list (ns.map f)) = true := by
  obtain ⟨h1, h2⟩ := lay0 f hf ns
  unfold SeqAt.shaped
  simp [PyData.canLay0, PyData.depth, h1, h2]
theorem shI (ns : List Int) : SeqAt.shaped (.list (ns.map PyData.int)) = true := shapedL _ (fun x => ⟨by simp [PyData.canLay0], by simp [PyData.depth]⟩) ns
theorem shB (ns : List Bool) : SeqAt.shaped (.list (ns.map PyData.bool)) = true := shapedL _ (fun x => ⟨by simp [PyData.canLay0], by simp [PyData.depth]⟩) ns
section
variable {K : PySem.W.Frag} {W : Wd} {Q : VK} {r r2 : Option Rl} {a b : Addr}
theorem g_eqI {ns ms : List Int} (x : At W r a (.lst (ns.map V.int))) (y : At W r2 b (.lst (ms.map V.int))) (q : Q (.bl (decide (ns = ms))) W.H) : rEqD K (.ref a) (.ref b) W.H Q :=
  ⟨_, _, .lst (SqL.of x.h) (dpI ns), .lst (SqL.of y.h) (dpI ms), shI _, shI _, by show Q (.bl (PyData.eqvAll _ _)) W.H; rw [eqvI]; exact q⟩
theorem g_neI {ns ms : List Int} (x : At W r a (.lst (ns.map V.int))) (y : At W r2 b (.lst (ms.map V.int))) (q : Q (.bl (!decide (ns = ms))) W.H) : rNeD K (.ref a) (.ref b) W.H Q :=
  ⟨_, _, .lst (SqL.of x.h) (dpI ns), .lst (SqL.of y.h) (dpI ms), shI _, shI _, by show Q (.bl (!PyData.eqvAll _ _)) W.H; rw [eqvI]; exact q⟩
theorem g_eqB {ns ms : List Bool} (x : At W r a (.lst (ns.map V.bl))) (y : At W r2 b (.lst (ms.map V.bl))) (q : Q (.bl (decide (ns = ms))) W.H) : rEqD K (.ref a) (.ref b) W.H Q :=
  ⟨_, _, .lst (SqL.of x.h) (dpB ns), .lst (SqL.of y.h) (dpB ms), shB _, shB _, by show Q (.bl (PyData.eqvAll _ _)) W.H; rw [eqvB]; exact q⟩
theorem g_neB {ns ms : List Bool} (x : At W r a (.lst (ns.map V.bl))) (y : At W r2 b (.lst (ms.map V.bl))) (q : Q (.bl (!decide (ns = ms))) W.H) : rNeD K (.ref a) (.ref b) W.H Q :=
  ⟨_, _, .lst (SqL.of x.h) (dpB ns), .lst (SqL.of y.h) (dpB ms), shB _, shB _, by show Q (.bl (!PyData.eqvAll _ _)) W.H; rw [eqvB]; exact q⟩
end
/-! ### sizes of whole numbers -/
abbrev ib (i : Int) : Nat := Builtin.Int.intBits i
theorem mulx {i j : Int} {a b : Nat} (ha : ib i ≤ a) (hb : ib j ≤ b) (h : Nat.ble (a + b) 134217728 = true) : CMulX i j := by
  have h := Nat.le_of_ble_eq_true h
  have h2 : ib i + ib j ≤ 134217728 := by omega
  have h3 : (ib i : Int) + (ib j : Int) ≤ 134217728 := by omega
  exact h3
end LF
namespace L2
open PySem PySem.Spec PyProof.Rows
/-- as walk_ofE, and the script's numbers are of at most 2 ** 20 bits -/
theorem walk_ofEB {l : PySem.W.OpenLaw} {n k : Nat} {q : Program} {loose : List Str} {XP : (Str → Option Value) → Heap → Prop} {YP : World → Heap → Prop} {d : DefRec} {CX : World → CXT} {x : Str}
    (hn : l.most = some n) (hn2 : n ≤ sizeLine) (hdf : d.params.defaults = []) (hr : Room k callerA)
    (F : ∀ (w : World) (mg : Str → Option Value) (fa : Addr) (h : Heap), YP w h → h.Ns mainGlobals mg → mg d.name = some (.ref fa) →
      ∃ (K : PySem.W.Frag) (fd : FuncData) (sp : Sp), K.In h ∧ (∀ (s : Shared) (u : Value), BindsTo s fd ⟨[u], []⟩ [(x, u)]) ∧
        (∀ (H : Hp) (a : Addr) (ns : List Int), ns.length ≤ n → (∀ z ∈ ns, Builtin.Int.intBits z ≤ 1048576) → Only H → SqL K H a (ns.map V.int) → sp [.ref a] H (fun v _ => v = .bl true) fun _ _ _ => False) ∧
        ∀ base : Heap, K.In base → base.Ns mainGlobals mg → FnOk l.prog w K mg base (CX w) k fa fd [x] sp)
    (hCX : ∀ (w : World) (H : Hp) (s : Shared) (e : Value) (s' : Shared), CX w [] H s (fun _ _ _ => False) e s' → False) :
    PySem.W.WalkO q loose XP YP l.row.toRowW d [] (fun f vs => PySem.call f vs) := by
  refine Att.attach_callB hn hdf fun w s₀ s₁ mg mb fa o pm cd doc a vs ns G Y ho hd hcd hmg hobj hints hlen hbits hg => ?_
  obtain ⟨K, fd, sp, KX, hb, hsp, hF⟩ := F w mg fa _ Y G.T.g hmg
  exact law_call KX G.T.g G.T.b G.T.builtins G.T.nolimit hg hobj hints (Nat.le_trans hlen hn2) hr hF hb (fun H hO hS => hsp H a ns hlen hbits hO hS) fun H e s' => hCX w H s₁ e s'
end L2
namespace LF
open PySem PySem.Spec PyProof.Rows L2 He
/-- what the names reach in n steps, and the table that readsIn looks into -/
def asY (g : Addr → Option Obj) (n : Nat) : List Addr := He.asD g n ++ [cStatics]
def obsY (n : Nat) (fa : List Fa) (fn : List DefD) (ex : PySem.W.Frag → Bool) (g : Addr → Option Obj) : AlD × Bool := (obsD fa fn (frG g (asY g n)), ex (frG g (asY g n)))
def hookY (n : Nat) (fa : List Fa) (fn : List DefD) (ex : PySem.W.Frag → Bool) : PySem.W.Hook where
  α := AlD × Bool
  obs := fun s => obsY n fa fn ex s.heap.get?
  val := fun _ => (valD fn, true)
  says := fun _ h => ∃ K : PySem.W.Frag, K.In h ∧ (SaysD fa fn K ∧ ex K = true)
  of := fun _ _ e => ⟨_, frG_in, congrArg (fun z : AlD × Bool => z.1) e, congrArg (fun z : AlD × Bool => z.2) e⟩
  keeps := fun _ _ _ ⟨K, hK, c⟩ k => ⟨K, PySem.W.Frag.In.keeps hK k, c⟩
theorem obsY_eq {n : Nat} {fa : List Fa} {fn : List DefD} {ex : PySem.W.Frag → Bool} {g : Addr → Option Obj} {s : Shared} (h : ∀ a, g a = s.heap.get? a) : obsY n fa fn ex g = (hookY n fa fn ex).obs s := by
  have e : g = s.heap.get? := funext h
  rw [e] <;> rfl
end LF

namespace LF
open PySem PySem.Spec PyProof.Rows L2
def top (i : Nat) : Stmt := PySem.Challenge.pw_leafframe_k29_pool_contents.main.body.getD i (.Pass ⟨0, 0, 0, 0⟩)
abbrev s_Hand___init__ : Stmt := inClass (top 11) 0
theorem sc_Hand___init__ : FnScope ["self", "many"] ["self", "many"] (defScope s_Hand___init__) := ⟨rfl, rfl, rfl, by decide +kernel, rfl, by decide +kernel, by decide +kernel⟩
abbrev s_Hand_mark : Stmt := inClass (top 11) 1
theorem sc_Hand_mark : FnScope ["self", "frame"] ["self", "frame"] (defScope s_Hand_mark) := ⟨rfl, rfl, rfl, by decide +kernel, rfl, by decide +kernel, by decide +kernel⟩
abbrev s_Hand_unmark : Stmt := inClass (top 11) 2
theorem sc_Hand_unmark : FnScope ["self", "frame"] ["self", "frame"] (defScope s_Hand_unmark) := ⟨rfl, rfl, rfl, by decide +kernel, rfl, by decide +kernel, by decide +kernel⟩
abbrev s_Hand_step : Stmt := inClass (top 11) 3
theorem sc_Hand_step : FnScope ["self"] ["self"] (defScope s_Hand_step) := ⟨rfl, rfl, rfl, by decide +kernel, rfl, by decide +kernel, by decide +kernel⟩
abbrev s_Hand_chosen : Stmt := inClass (top 11) 4
theorem sc_Hand_chosen : FnScope ["self", "frame"] ["self"] (defScope s_Hand_chosen) := ⟨rfl, rfl, rfl, by decide +kernel, rfl, by decide +kernel, by decide +kernel⟩
abbrev s_Hand_marks : Stmt := inClass (top 11) 5
theorem sc_Hand_marks : FnScope ["self"] ["self"] (defScope s_Hand_marks) := ⟨rfl, rfl, rfl, by decide +kernel, rfl, by decide +kernel, by decide +kernel⟩
abbrev s_Hand_at : Stmt := inClass (top 11) 6
theorem sc_Hand_at : FnScope ["self"] ["self"] (defScope s_Hand_at) := ⟨rfl, rfl, rfl, by decide +kernel, rfl, by decide +kernel, by decide +kernel⟩
abbrev s_Leaf___init__ : Stmt := inClass (top 15) 0
theorem sc_Leaf___init__ : FnScope ["self", "rights"] ["self", "rights"] (defScope s_Leaf___init__) := ⟨rfl, rfl, rfl, by decide +kernel, rfl, by decide +kernel, by decide +kernel⟩
abbrev s_Held___init__ : Stmt := inClass (top 16) 0
theorem sc_Held___init__ : FnScope ["self", "rights", "frame"] ["self", "rights", "frame"] (defScope s_Held___init__) := ⟨rfl, rfl, rfl, by decide +kernel, rfl, by decide +kernel, by decide +kernel⟩
abbrev s_Held_row : Stmt := inClass (top 16) 1
theorem sc_Held_row : FnScope ["self"] ["self"] (defScope s_Held_row) := ⟨rfl, rfl, rfl, by decide +kernel, rfl, by decide +kernel, by decide +kernel⟩
abbrev s_Out___init__ : Stmt := inClass (top 17) 0
theorem sc_Out___init__ : FnScope ["self", "rights", "slot"] ["self", "rights", "slot"] (defScope s_Out___init__) := ⟨rfl, rfl, rfl, by decide +kernel, rfl, by decide +kernel, by decide +kernel⟩
abbrev s_Out_row : Stmt := inClass (top 17) 1
theorem sc_Out_row : FnScope ["self"] ["self"] (defScope s_Out_row) := ⟨rfl, rfl, rfl, by decide +kernel, rfl, by decide +kernel, by decide +kernel⟩
abbrev s_Counts___init__ : Stmt := inClass (top 20) 0
theorem sc_Counts___init__ : FnScope ["self", "many"] ["self", "many"] (defScope s_Counts___init__) := ⟨rfl, rfl, rfl, by decide +kernel, rfl, by decide +kernel, by decide +kernel⟩
abbrev s_Counts_of : Stmt := inClass (top 20) 1
theorem sc_Counts_of : FnScope ["self", "number"] ["self", "number"] (defScope s_Counts_of) := ⟨rfl, rfl, rfl, by decide +kernel, rfl, by decide +kernel, by decide +kernel⟩
abbrev s_Counts_used : Stmt := inClass (top 20) 2
theorem sc_Counts_used : FnScope ["self", "number", "count"] ["self", "number"] (defScope s_Counts_used) := ⟨rfl, rfl, rfl, by decide +kernel, rfl, by decide +kernel, by decide +kernel⟩
abbrev s_Counts_taken : Stmt := inClass (top 20) 3
theorem sc_Counts_taken : FnScope ["self", "count", "number"] ["self", "count"] (defScope s_Counts_taken) := ⟨rfl, rfl, rfl, by decide +kernel, rfl, by decide +kernel, by decide +kernel⟩
abbrev s_Counts_more : Stmt := inClass (top 20) 4
theorem sc_Counts_more : FnScope ["self", "number"] ["self", "number"] (defScope s_Counts_more) := ⟨rfl, rfl, rfl, by decide +kernel, rfl, by decide +kernel, by decide +kernel⟩
abbrev s_Counts_less : Stmt := inClass (top 20) 5
theorem sc_Counts_less : FnScope ["self", "number"] ["self", "number"] (defScope s_Counts_less) := ⟨rfl, rfl, rfl, by decide +kernel, rfl, by decide +kernel, by decide +kernel⟩
abbrev s_Counts_freed : Stmt := inClass (top 20) 6
theorem sc_Counts_freed : FnScope ["self", "number", "count"] ["self", "number"] (defScope s_Counts_freed) := ⟨rfl, rfl, rfl, by decide +kernel, rfl, by decide +kernel, by decide +kernel⟩
abbrev s_Counts_told : Stmt := inClass (top 20) 7
theorem sc_Counts_told : FnScope ["self"] ["self"] (defScope s_Counts_told) := ⟨rfl, rfl, rfl, by decide +kernel, rfl, by decide +kernel, by decide +kernel⟩
abbrev s_Counts_free : Stmt := inClass (top 20) 8
theorem sc_Counts_free : FnScope ["self"] ["self"] (defScope s_Counts_free) := ⟨rfl, rfl, rfl, by decide +kernel, rfl, by decide +kernel, by decide +kernel⟩
abbrev s_is_word : Stmt := top 23
theorem sc_is_word : FnScope ["thing"] ["thing"] (defScope s_is_word) := ⟨rfl, rfl, rfl, by decide +kernel, rfl, by decide +kernel, by decide +kernel⟩
abbrev s_Store___init__ : Stmt := inClass (top 24) 0
theorem sc_Store___init__ : FnScope ["self", "many", "size", "number"] ["self", "many", "size"] (defScope s_Store___init__) := ⟨rfl, rfl, rfl, by decide +kernel, rfl, by decide +kernel, by decide +kernel⟩
abbrev s_Store_need : Stmt := inClass (top 24) 1
theorem sc_Store_need : FnScope ["self", "number"] ["self", "number"] (defScope s_Store_need) := ⟨rfl, rfl, rfl, by decide +kernel, rfl, by decide +kernel, by decide +kernel⟩
abbrev s_Store_need_place : Stmt := inClass (top 24) 2
theorem sc_Store_need_place : FnScope ["self", "place"] ["self", "place"] (defScope s_Store_need_place) := ⟨rfl, rfl, rfl, by decide +kernel, rfl, by decide +kernel, by decide +kernel⟩
abbrev s_Store_made : Stmt := inClass (top 24) 3
theorem sc_Store_made : FnScope ["self", "words", "count", "word", "number"] ["self", "words", "count"] (defScope s_Store_made) := ⟨rfl, rfl, rfl, by decide +kernel, rfl, by decide +kernel, by decide +kernel⟩
abbrev s_Store_words : Stmt := inClass (top 24) 4
theorem sc_Store_words : FnScope ["self", "number"] ["self", "number"] (defScope s_Store_words) := ⟨rfl, rfl, rfl, by decide +kernel, rfl, by decide +kernel, by decide +kernel⟩
abbrev s_Store_word : Stmt := inClass (top 24) 5
theorem sc_Store_word : FnScope ["self", "number", "place"] ["self", "number", "place"] (defScope s_Store_word) := ⟨rfl, rfl, rfl, by decide +kernel, rfl, by decide +kernel, by decide +kernel⟩
abbrev s_Store_put : Stmt := inClass (top 24) 6
theorem sc_Store_put : FnScope ["self", "number", "place", "word"] ["self", "number", "place", "word"] (defScope s_Store_put) := ⟨rfl, rfl, rfl, by decide +kernel, rfl, by decide +kernel, by decide +kernel⟩
abbrev s_Store_more : Stmt := inClass (top 24) 7
theorem sc_Store_more : FnScope ["self", "number"] ["self", "number"] (defScope s_Store_more) := ⟨rfl, rfl, rfl, by decide +kernel, rfl, by decide +kernel, by decide +kernel⟩
abbrev s_Store_less : Stmt := inClass (top 24) 8
theorem sc_Store_less : FnScope ["self", "number", "left"] ["self", "number"] (defScope s_Store_less) := ⟨rfl, rfl, rfl, by decide +kernel, rfl, by decide +kernel, by decide +kernel⟩
abbrev s_Store_gone : Stmt := inClass (top 24) 9
theorem sc_Store_gone : FnScope ["self", "number", "words"] ["self", "number"] (defScope s_Store_gone) := ⟨rfl, rfl, rfl, by decide +kernel, rfl, by decide +kernel, by decide +kernel⟩
abbrev s_Store_counts : Stmt := inClass (top 24) 10
theorem sc_Store_counts : FnScope ["self"] ["self"] (defScope s_Store_counts) := ⟨rfl, rfl, rfl, by decide +kernel, rfl, by decide +kernel, by decide +kernel⟩
abbrev s_Store_free : Stmt := inClass (top 24) 11
theorem sc_Store_free : FnScope ["self"] ["self"] (defScope s_Store_free) := ⟨rfl, rfl, rfl, by decide +kernel, rfl, by decide +kernel, by decide +kernel⟩
abbrev s_moved_by : Stmt := top 26
theorem sc_moved_by : FnScope ["leaf", "moves", "way", "frame", "slot"] ["leaf", "moves"] (defScope s_moved_by) := ⟨rfl, rfl, rfl, by decide +kernel, rfl, by decide +kernel, by decide +kernel⟩
abbrev s_count_in : Stmt := top 27
theorem sc_count_in : FnScope ["store", "room"] ["store", "room"] (defScope s_count_in) := ⟨rfl, rfl, rfl, by decide +kernel, rfl, by decide +kernel, by decide +kernel⟩
abbrev s_Pool___init__ : Stmt := inClass (top 28) 0
theorem sc_Pool___init__ : FnScope ["self", "frames", "slots", "size"] ["self", "frames", "slots", "size"] (defScope s_Pool___init__) := ⟨rfl, rfl, rfl, by decide +kernel, rfl, by decide +kernel, by decide +kernel⟩
abbrev s_Pool_put_out : Stmt := inClass (top 28) 1
theorem sc_Pool_put_out : FnScope ["self", "frame", "words", "count", "slot"] ["self"] (defScope s_Pool_put_out) := ⟨rfl, rfl, rfl, by decide +kernel, rfl, by decide +kernel, by decide +kernel⟩
abbrev s_Pool_brought : Stmt := inClass (top 28) 2
theorem sc_Pool_brought : FnScope ["self", "words", "count", "moves", "frame"] ["self", "words", "count", "moves"] (defScope s_Pool_brought) := ⟨rfl, rfl, rfl, by decide +kernel, rfl, by decide +kernel, by decide +kernel⟩
abbrev s_Pool_made : Stmt := inClass (top 28) 3
theorem sc_Pool_made : FnScope ["self", "words", "word", "moves", "frame"] ["self", "words"] (defScope s_Pool_made) := ⟨rfl, rfl, rfl, by decide +kernel, rfl, by decide +kernel, by decide +kernel⟩
abbrev s_Pool_fetched : Stmt := inClass (top 28) 4
theorem sc_Pool_fetched : FnScope ["self", "slot", "words", "count", "moves", "frame"] ["self", "slot"] (defScope s_Pool_fetched) := ⟨rfl, rfl, rfl, by decide +kernel, rfl, by decide +kernel, by decide +kernel⟩
abbrev s_Pool_word : Stmt := inClass (top 28) 5
theorem sc_Pool_word : FnScope ["self", "frame", "place", "found"] ["self", "frame", "place"] (defScope s_Pool_word) := ⟨rfl, rfl, rfl, by decide +kernel, rfl, by decide +kernel, by decide +kernel⟩
abbrev s_Pool_put : Stmt := inClass (top 28) 6
theorem sc_Pool_put : FnScope ["self", "frame", "place", "word"] ["self", "frame", "place", "word"] (defScope s_Pool_put) := ⟨rfl, rfl, rfl, by decide +kernel, rfl, by decide +kernel, by decide +kernel⟩
abbrev s_Pool_more : Stmt := inClass (top 28) 7
theorem sc_Pool_more : FnScope ["self", "leaf"] ["self", "leaf"] (defScope s_Pool_more) := ⟨rfl, rfl, rfl, by decide +kernel, rfl, by decide +kernel, by decide +kernel⟩
abbrev s_Pool_less : Stmt := inClass (top 28) 8
theorem sc_Pool_less : FnScope ["self", "leaf"] ["self", "leaf"] (defScope s_Pool_less) := ⟨rfl, rfl, rfl, by decide +kernel, rfl, by decide +kernel, by decide +kernel⟩
abbrev s_Pool_words : Stmt := inClass (top 28) 9
theorem sc_Pool_words : FnScope ["self", "leaf"] ["self", "leaf"] (defScope s_Pool_words) := ⟨rfl, rfl, rfl, by decide +kernel, rfl, by decide +kernel, by decide +kernel⟩
abbrev s_Pool_count : Stmt := inClass (top 28) 10
theorem sc_Pool_count : FnScope ["self", "leaf"] ["self", "leaf"] (defScope s_Pool_count) := ⟨rfl, rfl, rfl, by decide +kernel, rfl, by decide +kernel, by decide +kernel⟩
abbrev s_Pool_frames : Stmt := inClass (top 28) 11
theorem sc_Pool_frames : FnScope ["self"] ["self"] (defScope s_Pool_frames) := ⟨rfl, rfl, rfl, by decide +kernel, rfl, by decide +kernel, by decide +kernel⟩
abbrev s_Pool_slots : Stmt := inClass (top 28) 12
theorem sc_Pool_slots : FnScope ["self"] ["self"] (defScope s_Pool_slots) := ⟨rfl, rfl, rfl, by decide +kernel, rfl, by decide +kernel, by decide +kernel⟩
abbrev s_Pool_marks : Stmt := inClass (top 28) 13
theorem sc_Pool_marks : FnScope ["self"] ["self"] (defScope s_Pool_marks) := ⟨rfl, rfl, rfl, by decide +kernel, rfl, by decide +kernel, by decide +kernel⟩
abbrev s_Pool_room : Stmt := inClass (top 28) 14
theorem sc_Pool_room : FnScope ["self"] ["self"] (defScope s_Pool_room) := ⟨rfl, rfl, rfl, by decide +kernel, rfl, by decide +kernel, by decide +kernel⟩
abbrev s__law_cell_at : Stmt := top 30
theorem sc__law_cell_at : FnScope ["_law_script", "_law_k"] ["_law_script", "_law_k"] (defScope s__law_cell_at) := ⟨rfl, rfl, rfl, by decide +kernel, rfl, by decide +kernel, by decide +kernel⟩
abbrev s__law_words : Stmt := top 31
theorem sc__law_words : FnScope ["_law_cell", "_law_size", "_law_k"] ["_law_cell", "_law_size"] (defScope s__law_words) := ⟨rfl, rfl, rfl, by decide +kernel, rfl, by decide +kernel, by decide +kernel⟩
abbrev s__law_moved : Stmt := top 32
theorem sc__law_moved : FnScope ["_law_kept", "_law_moves", "_law_row"] ["_law_kept", "_law_moves"] (defScope s__law_moved) := ⟨rfl, rfl, rfl, by decide +kernel, rfl, by decide +kernel, by decide +kernel⟩
abbrev s__law_made : Stmt := top 33
theorem sc__law_made : FnScope ["_law_pool", "_law_kept", "_law_words_here", "_law_found", "_law_moves"] ["_law_pool", "_law_kept", "_law_words_here"] (defScope s__law_made) := ⟨rfl, rfl, rfl, by decide +kernel, rfl, by decide +kernel, by decide +kernel⟩
abbrev s__law_fetched : Stmt := top 34
theorem sc__law_fetched : FnScope ["_law_pool", "_law_kept", "_law_row", "_law_found"] ["_law_pool", "_law_kept", "_law_row"] (defScope s__law_fetched) := ⟨rfl, rfl, rfl, by decide +kernel, rfl, by decide +kernel, by decide +kernel⟩
abbrev s__law_put : Stmt := top 35
theorem sc__law_put : FnScope ["_law_pool", "_law_row", "_law_cell", "_law_size", "_law_word"] ["_law_pool", "_law_row", "_law_cell", "_law_size"] (defScope s__law_put) := ⟨rfl, rfl, rfl, by decide +kernel, rfl, by decide +kernel, by decide +kernel⟩
abbrev s__law_done : Stmt := top 36
theorem sc__law_done : FnScope ["_law_pool", "_law_kept", "_law_cell", "_law_size", "_law_way", "_law_at", "_law_row"] ["_law_pool", "_law_kept", "_law_cell", "_law_size"] (defScope s__law_done) := ⟨rfl, rfl, rfl, by decide +kernel, rfl, by decide +kernel, by decide +kernel⟩
abbrev s__law_state : Stmt := top 37
theorem sc__law_state : FnScope ["_law_pool", "_law_kept", "_law_many", "_law_slots", "_law_inner", "_law_outer", "_law_marks", "_law_leaf", "_law_words_here", "_law_count", "_law_named", "_law_row"] ["_law_pool", "_law_kept", "_law_many", "_law_slots"] (defScope s__law_state) := ⟨rfl, rfl, rfl, by decide +kernel, rfl, by decide +kernel, by decide +kernel⟩
abbrev s__law_mixed : Stmt := top 38
theorem sc__law_mixed : FnScope ["_law_raw"] ["_law_raw"] (defScope s__law_mixed) := ⟨rfl, rfl, rfl, by decide +kernel, rfl, by decide +kernel, by decide +kernel⟩
abbrev s_law : Stmt := top 39
theorem sc_law : FnScope ["_law_script", "_law_many", "_law_slots", "_law_size", "_law_pool", "_law_kept", "_law_raw", "_law_cell", "_law_full", "_law_before"] ["_law_script"] (defScope s_law) := ⟨rfl, rfl, rfl, by decide +kernel, rfl, by decide +kernel, by decide +kernel⟩
def d_Hand___init__ : He.DefD := ⟨("Hand", some "__init__"), "__init__", "Hand.__init__", defArgs s_Hand___init__, defBody s_Hand___init__, defScope s_Hand___init__, [], []⟩
def d_Hand_mark : He.DefD := ⟨("Hand", some "mark"), "mark", "Hand.mark", defArgs s_Hand_mark, defBody s_Hand_mark, defScope s_Hand_mark, [], []⟩
def d_Hand_unmark : He.DefD := ⟨("Hand", some "unmark"), "unmark", "Hand.unmark", defArgs s_Hand_unmark, defBody s_Hand_unmark, defScope s_Hand_unmark, [], []⟩
def d_Hand_step : He.DefD := ⟨("Hand", some "step"), "step", "Hand.step", defArgs s_Hand_step, defBody s_Hand_step, defScope s_Hand_step, [], []⟩
def d_Hand_chosen : He.DefD := ⟨("Hand", some "chosen"), "chosen", "Hand.chosen", defArgs s_Hand_chosen, defBody s_Hand_chosen, defScope s_Hand_chosen, [], []⟩
def d_Hand_marks : He.DefD := ⟨("Hand", some "marks"), "marks", "Hand.marks", defArgs s_Hand_marks, defBody s_Hand_marks, defScope s_Hand_marks, [], []⟩
def d_Hand_at : He.DefD := ⟨("Hand", some "at"), "at", "Hand.at", defArgs s_Hand_at, defBody s_Hand_at, defScope s_Hand_at, [], []⟩
def d_Leaf___init__ : He.DefD := ⟨("Leaf", some "__init__"), "__init__", "Leaf.__init__", defArgs s_Leaf___init__, defBody s_Leaf___init__, defScope s_Leaf___init__, [], []⟩
def d_Held___init__ : He.DefD := ⟨("Held", some "__init__"), "__init__", "Held.__init__", defArgs s_Held___init__, defBody s_Held___init__, defScope s_Held___init__, [], []⟩
def d_Held_row : He.DefD := ⟨("Held", some "row"), "row", "Held.row", defArgs s_Held_row, defBody s_Held_row, defScope s_Held_row, [], []⟩
def d_Out___init__ : He.DefD := ⟨("Out", some "__init__"), "__init__", "Out.__init__", defArgs s_Out___init__, defBody s_Out___init__, defScope s_Out___init__, [], []⟩
def d_Out_row : He.DefD := ⟨("Out", some "row"), "row", "Out.row", defArgs s_Out_row, defBody s_Out_row, defScope s_Out_row, [], []⟩
def d_Counts___init__ : He.DefD := ⟨("Counts", some "__init__"), "__init__", "Counts.__init__", defArgs s_Counts___init__, defBody s_Counts___init__, defScope s_Counts___init__, [], []⟩
def d_Counts_of : He.DefD := ⟨("Counts", some "of"), "of", "Counts.of", defArgs s_Counts_of, defBody s_Counts_of, defScope s_Counts_of, [], []⟩
def d_Counts_used : He.DefD := ⟨("Counts", some "used"), "used", "Counts.used", defArgs s_Counts_used, defBody s_Counts_used, defScope s_Counts_used, [], []⟩
def d_Counts_taken : He.DefD := ⟨("Counts", some "taken"), "taken", "Counts.taken", defArgs s_Counts_taken, defBody s_Counts_taken, defScope s_Counts_taken, [.int 1], []⟩
def d_Counts_more : He.DefD := ⟨("Counts", some "more"), "more", "Counts.more", defArgs s_Counts_more, defBody s_Counts_more, defScope s_Counts_more, [], []⟩
def d_Counts_less : He.DefD := ⟨("Counts", some "less"), "less", "Counts.less", defArgs s_Counts_less, defBody s_Counts_less, defScope s_Counts_less, [], []⟩
def d_Counts_freed : He.DefD := ⟨("Counts", some "freed"), "freed", "Counts.freed", defArgs s_Counts_freed, defBody s_Counts_freed, defScope s_Counts_freed, [], []⟩
def d_Counts_told : He.DefD := ⟨("Counts", some "told"), "told", "Counts.told", defArgs s_Counts_told, defBody s_Counts_told, defScope s_Counts_told, [], []⟩
def d_Counts_free : He.DefD := ⟨("Counts", some "free"), "free", "Counts.free", defArgs s_Counts_free, defBody s_Counts_free, defScope s_Counts_free, [], []⟩
def d_is_word : He.DefD := ⟨("is_word", none), "is_word", "is_word", defArgs s_is_word, defBody s_is_word, defScope s_is_word, [], []⟩
def d_Store___init__ : He.DefD := ⟨("Store", some "__init__"), "__init__", "Store.__init__", defArgs s_Store___init__, defBody s_Store___init__, defScope s_Store___init__, [], []⟩
def d_Store_need : He.DefD := ⟨("Store", some "need"), "need", "Store.need", defArgs s_Store_need, defBody s_Store_need, defScope s_Store_need, [], []⟩
def d_Store_need_place : He.DefD := ⟨("Store", some "need_place"), "need_place", "Store.need_place", defArgs s_Store_need_place, defBody s_Store_need_place, defScope s_Store_need_place, [], []⟩
def d_Store_made : He.DefD := ⟨("Store", some "made"), "made", "Store.made", defArgs s_Store_made, defBody s_Store_made, defScope s_Store_made, [.int 1], []⟩
def d_Store_words : He.DefD := ⟨("Store", some "words"), "words", "Store.words", defArgs s_Store_words, defBody s_Store_words, defScope s_Store_words, [], []⟩
def d_Store_word : He.DefD := ⟨("Store", some "word"), "word", "Store.word", defArgs s_Store_word, defBody s_Store_word, defScope s_Store_word, [], []⟩
def d_Store_put : He.DefD := ⟨("Store", some "put"), "put", "Store.put", defArgs s_Store_put, defBody s_Store_put, defScope s_Store_put, [], []⟩
def d_Store_more : He.DefD := ⟨("Store", some "more"), "more", "Store.more", defArgs s_Store_more, defBody s_Store_more, defScope s_Store_more, [], []⟩
def d_Store_less : He.DefD := ⟨("Store", some "less"), "less", "Store.less", defArgs s_Store_less, defBody s_Store_less, defScope s_Store_less, [], []⟩
def d_Store_gone : He.DefD := ⟨("Store", some "gone"), "gone", "Store.gone", defArgs s_Store_gone, defBody s_Store_gone, defScope s_Store_gone, [], []⟩
def d_Store_counts : He.DefD := ⟨("Store", some "counts"), "counts", "Store.counts", defArgs s_Store_counts, defBody s_Store_counts, defScope s_Store_counts, [], []⟩
def d_Store_free : He.DefD := ⟨("Store", some "free"), "free", "Store.free", defArgs s_Store_free, defBody s_Store_free, defScope s_Store_free, [], []⟩
def d_moved_by : He.DefD := ⟨("moved_by", none), "moved_by", "moved_by", defArgs s_moved_by, defBody s_moved_by, defScope s_moved_by, [], []⟩
def d_count_in : He.DefD := ⟨("count_in", none), "count_in", "count_in", defArgs s_count_in, defBody s_count_in, defScope s_count_in, [], []⟩
def d_Pool___init__ : He.DefD := ⟨("Pool", some "__init__"), "__init__", "Pool.__init__", defArgs s_Pool___init__, defBody s_Pool___init__, defScope s_Pool___init__, [], []⟩
def d_Pool_put_out : He.DefD := ⟨("Pool", some "put_out"), "put_out", "Pool.put_out", defArgs s_Pool_put_out, defBody s_Pool_put_out, defScope s_Pool_put_out, [], []⟩
def d_Pool_brought : He.DefD := ⟨("Pool", some "brought"), "brought", "Pool.brought", defArgs s_Pool_brought, defBody s_Pool_brought, defScope s_Pool_brought, [], []⟩
def d_Pool_made : He.DefD := ⟨("Pool", some "made"), "made", "Pool.made", defArgs s_Pool_made, defBody s_Pool_made, defScope s_Pool_made, [], []⟩
def d_Pool_fetched : He.DefD := ⟨("Pool", some "fetched"), "fetched", "Pool.fetched", defArgs s_Pool_fetched, defBody s_Pool_fetched, defScope s_Pool_fetched, [], []⟩
def d_Pool_word : He.DefD := ⟨("Pool", some "word"), "word", "Pool.word", defArgs s_Pool_word, defBody s_Pool_word, defScope s_Pool_word, [], []⟩
def d_Pool_put : He.DefD := ⟨("Pool", some "put"), "put", "Pool.put", defArgs s_Pool_put, defBody s_Pool_put, defScope s_Pool_put, [], []⟩
def d_Pool_more : He.DefD := ⟨("Pool", some "more"), "more", "Pool.more", defArgs s_Pool_more, defBody s_Pool_more, defScope s_Pool_more, [], []⟩
def d_Pool_less : He.DefD := ⟨("Pool", some "less"), "less", "Pool.less", defArgs s_Pool_less, defBody s_Pool_less, defScope s_Pool_less, [], []⟩
def d_Pool_words : He.DefD := ⟨("Pool", some "words"), "words", "Pool.words", defArgs s_Pool_words, defBody s_Pool_words, defScope s_Pool_words, [], []⟩
def d_Pool_count : He.DefD := ⟨("Pool", some "count"), "count", "Pool.count", defArgs s_Pool_count, defBody s_Pool_count, defScope s_Pool_count, [], []⟩
def d_Pool_frames : He.DefD := ⟨("Pool", some "frames"), "frames", "Pool.frames", defArgs s_Pool_frames, defBody s_Pool_frames, defScope s_Pool_frames, [], []⟩
def d_Pool_slots : He.DefD := ⟨("Pool", some "slots"), "slots", "Pool.slots", defArgs s_Pool_slots, defBody s_Pool_slots, defScope s_Pool_slots, [], []⟩
def d_Pool_marks : He.DefD := ⟨("Pool", some "marks"), "marks", "Pool.marks", defArgs s_Pool_marks, defBody s_Pool_marks, defScope s_Pool_marks, [], []⟩
def d_Pool_room : He.DefD := ⟨("Pool", some "room"), "room", "Pool.room", defArgs s_Pool_room, defBody s_Pool_room, defScope s_Pool_room, [], []⟩
def d__law_cell_at : He.DefD := ⟨("_law_cell_at", none), "_law_cell_at", "_law_cell_at", defArgs s__law_cell_at, defBody s__law_cell_at, defScope s__law_cell_at, [], []⟩
def d__law_words : He.DefD := ⟨("_law_words", none), "_law_words", "_law_words", defArgs s__law_words, defBody s__law_words, defScope s__law_words, [], []⟩
def d__law_moved : He.DefD := ⟨("_law_moved", none), "_law_moved", "_law_moved", defArgs s__law_moved, defBody s__law_moved, defScope s__law_moved, [], []⟩
def d__law_made : He.DefD := ⟨("_law_made", none), "_law_made", "_law_made", defArgs s__law_made, defBody s__law_made, defScope s__law_made, [], []⟩
def d__law_fetched : He.DefD := ⟨("_law_fetched", none), "_law_fetched", "_law_fetched", defArgs s__law_fetched, defBody s__law_fetched, defScope s__law_fetched, [], []⟩
def d__law_put : He.DefD := ⟨("_law_put", none), "_law_put", "_law_put", defArgs s__law_put, defBody s__law_put, defScope s__law_put, [], []⟩
def d__law_done : He.DefD := ⟨("_law_done", none), "_law_done", "_law_done", defArgs s__law_done, defBody s__law_done, defScope s__law_done, [], []⟩
def d__law_state : He.DefD := ⟨("_law_state", none), "_law_state", "_law_state", defArgs s__law_state, defBody s__law_state, defScope s__law_state, [], []⟩
def d__law_mixed : He.DefD := ⟨("_law_mixed", none), "_law_mixed", "_law_mixed", defArgs s__law_mixed, defBody s__law_mixed, defScope s__law_mixed, [], []⟩
def d_law : He.DefD := ⟨("law", none), "law", "law", defArgs s_law, defBody s_law, defScope s_law, [], []⟩
def fn0 : List He.DefD := [d_Hand___init__, d_Hand_mark, d_Hand_unmark, d_Hand_step, d_Hand_chosen, d_Hand_marks, d_Hand_at, d_Leaf___init__, d_Held___init__, d_Held_row, d_Out___init__, d_Out_row, d_Counts___init__, d_Counts_of, d_Counts_used, d_Counts_taken, d_Counts_more, d_Counts_less, d_Counts_freed, d_Counts_told, d_Counts_free, d_is_word, d_Store___init__, d_Store_need, d_Store_need_place, d_Store_made, d_Store_words, d_Store_word, d_Store_put, d_Store_more]
def fn1 : List He.DefD := [d_Store_less, d_Store_gone, d_Store_counts, d_Store_free, d_moved_by, d_count_in, d_Pool___init__, d_Pool_put_out, d_Pool_brought, d_Pool_made, d_Pool_fetched, d_Pool_word, d_Pool_put, d_Pool_more, d_Pool_less, d_Pool_words, d_Pool_count, d_Pool_frames, d_Pool_slots, d_Pool_marks, d_Pool_room, d__law_cell_at, d__law_words, d__law_moved, d__law_made, d__law_fetched, d__law_put, d__law_done, d__law_state, d__law_mixed]
def fn2 : List He.DefD := [d_law]
def fn : List He.DefD := fn0 ++ (fn1 ++ (fn2))
def fa0 : List He.Fa := [.glo "LeafError", .glo "NoShape", .glo "NoAddress", .glo "NoNumber", .glo "Full", .glo "NoWord", .glo "NoRights", .glo "Hand", .glo "Leaf", .glo "Held", .glo "Out", .glo "Counts", .glo "is_word", .glo "Store", .glo "moved_by", .glo "count_in", .glo "Pool", .glo "_law_cell_at", .glo "_law_words", .glo "_law_moved", .glo "_law_made", .glo "_law_fetched", .glo "_law_put", .glo "_law_done", .glo "_law_state", .glo "_law_mixed", .glo "law", .int "MOST_FRAMES" 64, .int "READ" 1, .int "WRITE" 2]
def fa1 : List He.Fa := [.int "MOST_NUMBERS" 64, .int "MOST_WORDS" 64, .free "ValueError", .free "all", .free "bool", .free "int", .free "isinstance", .free "len", .free "list", .free "range", .cls "Hand", .noat "Hand" "lit", .noat "Hand" "stands", .mkr "Hand", .meth "Hand" "mark", .meth "Hand" "unmark", .meth "Hand" "step", .meth "Hand" "chosen", .meth "Hand" "marks", .meth "Hand" "at", .cls "Leaf", .noat "Leaf" "rights", .mkr "Leaf", .cls "Held", .noat "Held" "rights", .noat "Held" "frame", .mkr "Held", .meth "Held" "row", .cls "Out", .noat "Out" "rights"]
def fa2 : List He.Fa := [.noat "Out" "slot", .mkr "Out", .meth "Out" "row", .cls "Counts", .noat "Counts" "tally", .mkr "Counts", .meth "Counts" "of", .meth "Counts" "used", .meth "Counts" "taken", .meth "Counts" "more", .meth "Counts" "less", .meth "Counts" "freed", .meth "Counts" "told", .meth "Counts" "free", .cls "Store", .noat "Store" "tally", .noat "Store" "wide", .noat "Store" "lying", .mkr "Store", .meth "Store" "need", .meth "Store" "need_place", .meth "Store" "made", .meth "Store" "words", .meth "Store" "word", .meth "Store" "put", .meth "Store" "more", .meth "Store" "less", .meth "Store" "gone", .meth "Store" "counts", .meth "Store" "free"]
def fa3 : List He.Fa := [.cls "Pool", .noat "Pool" "inner", .noat "Pool" "outer", .noat "Pool" "hand", .noat "Pool" "wide", .mkr "Pool", .meth "Pool" "put_out", .meth "Pool" "brought", .meth "Pool" "made", .meth "Pool" "fetched", .meth "Pool" "word", .meth "Pool" "put", .meth "Pool" "more", .meth "Pool" "less", .meth "Pool" "words", .meth "Pool" "count", .meth "Pool" "frames", .meth "Pool" "slots", .meth "Pool" "marks", .meth "Pool" "room", .exc "LeafError", .exc "NoShape", .exc "NoAddress", .exc "NoNumber", .exc "Full", .exc "NoWord", .exc "NoRights", .exm "LeafError" "Full" false, .exm "NoShape" "Full" false, .exm "NoAddress" "Full" false]
def fa4 : List He.Fa := [.exm "NoNumber" "Full" false, .exm "Full" "Full" true, .exm "NoWord" "Full" false, .exm "NoRights" "Full" false]
def fa : List He.Fa := fa0 ++ (fa1 ++ (fa2 ++ (fa3 ++ (fa4))))
def exs0 : List (PySem.W.Frag → Bool) := [(fun K => insB K (He.ga K "Hand")), (fun K => insB K (He.ga K "Leaf")), (fun K => insB K (He.ga K "Held")), (fun K => insB K (He.ga K "Out")), (fun K => insB K (He.ga K "Counts")), (fun K => insB K (He.ga K "Store")), (fun K => insB K (He.ga K "Pool")), (fun K => clsB K (He.ga K "Leaf") "__init__" (He.ma K (He.ga K "Leaf") "__init__")), (fun K => decide (PySem.W.kitOne K (.ref (He.ga K "Held")) (.ref (He.ga K "Held")) = some true)), (fun K => decide (PySem.W.kitOne K (.ref (He.ga K "Held")) (.ref (He.ga K "Out")) = some false)), (fun K => decide (PySem.W.kitOne K (.ref (He.ga K "Out")) (.ref (He.ga K "Held")) = some false)), (fun K => decide (PySem.W.kitOne K (.ref (He.ga K "Out")) (.ref (He.ga K "Out")) = some true))]
def exs : List (PySem.W.Frag → Bool) := exs0
def exB (K : PySem.W.Frag) : Bool := exs.all fun f => f K
class TK (K : PySem.W.Frag) : Prop where
  says : He.SaysD fa fn K
  ex : exB K = true
theorem TK.exf {K : PySem.W.Frag} (T : TK K) (i : Nat) {f : PySem.W.Frag → Bool} (h : exs[i]? = some f) : f K = true := List.all_eq_true.mp T.ex f (List.mem_of_getElem? h)
structure TX (K : PySem.W.Frag) (mg : Str → Option Value) : Prop where
  tk : TK K
  kin : ∃ h : Heap, K.In h ∧ h.Ns mainGlobals mg
section
variable {K : PySem.W.Frag} {mg : Str → Option Value}
theorem TX.g_LeafError (G : TX K mg) : mg "LeafError" = some (.ref (He.ga K "LeafError")) := let ⟨h, X, N⟩ := G.kin; He.glo_ok X N (G.tk.says.fact 0 (f := .glo "LeafError") rfl)
theorem TX.g_NoShape (G : TX K mg) : mg "NoShape" = some (.ref (He.ga K "NoShape")) := let ⟨h, X, N⟩ := G.kin; He.glo_ok X N (G.tk.says.fact 1 (f := .glo "NoShape") rfl)
theorem TX.g_NoAddress (G : TX K mg) : mg "NoAddress" = some (.ref (He.ga K "NoAddress")) := let ⟨h, X, N⟩ := G.kin; He.glo_ok X N (G.tk.says.fact 2 (f := .glo "NoAddress") rfl)
theorem TX.g_NoNumber (G : TX K mg) : mg "NoNumber" = some (.ref (He.ga K "NoNumber")) := let ⟨h, X, N⟩ := G.kin; He.glo_ok X N (G.tk.says.fact 3 (f := .glo "NoNumber") rfl)
theorem TX.g_Full (G : TX K mg) : mg "Full" = some (.ref (He.ga K "Full")) := let ⟨h, X, N⟩ := G.kin; He.glo_ok X N (G.tk.says.fact 4 (f := .glo "Full") rfl)
theorem TX.g_NoWord (G : TX K mg) : mg "NoWord" = some (.ref (He.ga K "NoWord")) := let ⟨h, X, N⟩ := G.kin; He.glo_ok X N (G.tk.says.fact 5 (f := .glo "NoWord") rfl)
theorem TX.g_NoRights (G : TX K mg) : mg "NoRights" = some (.ref (He.ga K "NoRights")) := let ⟨h, X, N⟩ := G.kin; He.glo_ok X N (G.tk.says.fact 6 (f := .glo "NoRights") rfl)
theorem TX.g_Hand (G : TX K mg) : mg "Hand" = some (.ref (He.ga K "Hand")) := let ⟨h, X, N⟩ := G.kin; He.glo_ok X N (G.tk.says.fact 7 (f := .glo "Hand") rfl)
theorem TX.g_Leaf (G : TX K mg) : mg "Leaf" = some (.ref (He.ga K "Leaf")) := let ⟨h, X, N⟩ := G.kin; He.glo_ok X N (G.tk.says.fact 8 (f := .glo "Leaf") rfl)
theorem TX.g_Held (G : TX K mg) : mg "Held" = some (.ref (He.ga K "Held")) := let ⟨h, X, N⟩ := G.kin; He.glo_ok X N (G.tk.says.fact 9 (f := .glo "Held") rfl)
theorem TX.g_Out (G : TX K mg) : mg "Out" = some (.ref (He.ga K "Out")) := let ⟨h, X, N⟩ := G.kin; He.glo_ok X N (G.tk.says.fact 10 (f := .glo "Out") rfl)
theorem TX.g_Counts (G : TX K mg) : mg "Counts" = some (.ref (He.ga K "Counts")) := let ⟨h, X, N⟩ := G.kin; He.glo_ok X N (G.tk.says.fact 11 (f := .glo "Counts") rfl)
theorem TX.g_is_word (G : TX K mg) : mg "is_word" = some (.ref (He.ga K "is_word")) := let ⟨h, X, N⟩ := G.kin; He.glo_ok X N (G.tk.says.fact 12 (f := .glo "is_word") rfl)
theorem TX.g_Store (G : TX K mg) : mg "Store" = some (.ref (He.ga K "Store")) := let ⟨h, X, N⟩ := G.kin; He.glo_ok X N (G.tk.says.fact 13 (f := .glo "Store") rfl)
theorem TX.g_moved_by (G : TX K mg) : mg "moved_by" = some (.ref (He.ga K "moved_by")) := let ⟨h, X, N⟩ := G.kin; He.glo_ok X N (G.tk.says.fact 14 (f := .glo "moved_by") rfl)
theorem TX.g_count_in (G : TX K mg) : mg "count_in" = some (.ref (He.ga K "count_in")) := let ⟨h, X, N⟩ := G.kin; He.glo_ok X N (G.tk.says.fact 15 (f := .glo "count_in") rfl)
theorem TX.g_Pool (G : TX K mg) : mg "Pool" = some (.ref (He.ga K "Pool")) := let ⟨h, X, N⟩ := G.kin; He.glo_ok X N (G.tk.says.fact 16 (f := .glo "Pool") rfl)
theorem TX.g__law_cell_at (G : TX K mg) : mg "_law_cell_at" = some (.ref (He.ga K "_law_cell_at")) := let ⟨h, X, N⟩ := G.kin; He.glo_ok X N (G.tk.says.fact 17 (f := .glo "_law_cell_at") rfl)
theorem TX.g__law_words (G : TX K mg) : mg "_law_words" = some (.ref (He.ga K "_law_words")) := let ⟨h, X, N⟩ := G.kin; He.glo_ok X N (G.tk.says.fact 18 (f := .glo "_law_words") rfl)
theorem TX.g__law_moved (G : TX K mg) : mg "_law_moved" = some (.ref (He.ga K "_law_moved")) := let ⟨h, X, N⟩ := G.kin; He.glo_ok X N (G.tk.says.fact 19 (f := .glo "_law_moved") rfl)
theorem TX.g__law_made (G : TX K mg) : mg "_law_made" = some (.ref (He.ga K "_law_made")) := let ⟨h, X, N⟩ := G.kin; He.glo_ok X N (G.tk.says.fact 20 (f := .glo "_law_made") rfl)
theorem TX.g__law_fetched (G : TX K mg) : mg "_law_fetched" = some (.ref (He.ga K "_law_fetched")) := let ⟨h, X, N⟩ := G.kin; He.glo_ok X N (G.tk.says.fact 21 (f := .glo "_law_fetched") rfl)
theorem TX.g__law_put (G : TX K mg) : mg "_law_put" = some (.ref (He.ga K "_law_put")) := let ⟨h, X, N⟩ := G.kin; He.glo_ok X N (G.tk.says.fact 22 (f := .glo "_law_put") rfl)
theorem TX.g__law_done (G : TX K mg) : mg "_law_done" = some (.ref (He.ga K "_law_done")) := let ⟨h, X, N⟩ := G.kin; He.glo_ok X N (G.tk.says.fact 23 (f := .glo "_law_done") rfl)
theorem TX.g__law_state (G : TX K mg) : mg "_law_state" = some (.ref (He.ga K "_law_state")) := let ⟨h, X, N⟩ := G.kin; He.glo_ok X N (G.tk.says.fact 24 (f := .glo "_law_state") rfl)
theorem TX.g__law_mixed (G : TX K mg) : mg "_law_mixed" = some (.ref (He.ga K "_law_mixed")) := let ⟨h, X, N⟩ := G.kin; He.glo_ok X N (G.tk.says.fact 25 (f := .glo "_law_mixed") rfl)
theorem TX.g_law (G : TX K mg) : mg "law" = some (.ref (He.ga K "law")) := let ⟨h, X, N⟩ := G.kin; He.glo_ok X N (G.tk.says.fact 26 (f := .glo "law") rfl)
theorem TX.i_MOST_FRAMES (G : TX K mg) : ∃ t, mg "MOST_FRAMES" = some (.int 64 t) := let ⟨h, X, N⟩ := G.kin; He.int_ok X N (G.tk.says.fact 27 (f := .int "MOST_FRAMES" 64) rfl)
theorem TX.i_READ (G : TX K mg) : ∃ t, mg "READ" = some (.int 1 t) := let ⟨h, X, N⟩ := G.kin; He.int_ok X N (G.tk.says.fact 28 (f := .int "READ" 1) rfl)
theorem TX.i_WRITE (G : TX K mg) : ∃ t, mg "WRITE" = some (.int 2 t) := let ⟨h, X, N⟩ := G.kin; He.int_ok X N (G.tk.says.fact 29 (f := .int "WRITE" 2) rfl)
theorem TX.i_MOST_NUMBERS (G : TX K mg) : ∃ t, mg "MOST_NUMBERS" = some (.int 64 t) := let ⟨h, X, N⟩ := G.kin; He.int_ok X N (G.tk.says.fact 30 (f := .int "MOST_NUMBERS" 64) rfl)
theorem TX.i_MOST_WORDS (G : TX K mg) : ∃ t, mg "MOST_WORDS" = some (.int 64 t) := let ⟨h, X, N⟩ := G.kin; He.int_ok X N (G.tk.says.fact 31 (f := .int "MOST_WORDS" 64) rfl)
theorem TX.b_ValueError (G : TX K mg) : mg "ValueError" = none := let ⟨h, X, N⟩ := G.kin; He.free_ok X N (G.tk.says.fact 32 (f := .free "ValueError") rfl)
theorem TX.b_all (G : TX K mg) : mg "all" = none := let ⟨h, X, N⟩ := G.kin; He.free_ok X N (G.tk.says.fact 33 (f := .free "all") rfl)
theorem TX.b_bool (G : TX K mg) : mg "bool" = none := let ⟨h, X, N⟩ := G.kin; He.free_ok X N (G.tk.says.fact 34 (f := .free "bool") rfl)
theorem TX.b_int (G : TX K mg) : mg "int" = none := let ⟨h, X, N⟩ := G.kin; He.free_ok X N (G.tk.says.fact 35 (f := .free "int") rfl)
theorem TX.b_isinstance (G : TX K mg) : mg "isinstance" = none := let ⟨h, X, N⟩ := G.kin; He.free_ok X N (G.tk.says.fact 36 (f := .free "isinstance") rfl)
theorem TX.b_len (G : TX K mg) : mg "len" = none := let ⟨h, X, N⟩ := G.kin; He.free_ok X N (G.tk.says.fact 37 (f := .free "len") rfl)
theorem TX.b_list (G : TX K mg) : mg "list" = none := let ⟨h, X, N⟩ := G.kin; He.free_ok X N (G.tk.says.fact 38 (f := .free "list") rfl)
theorem TX.b_range (G : TX K mg) : mg "range" = none := let ⟨h, X, N⟩ := G.kin; He.free_ok X N (G.tk.says.fact 39 (f := .free "range") rfl)
theorem TX.c_Hand (G : TX K mg) : Cls K (He.ga K "Hand") := He.cls_ok (G.tk.says.fact 40 (f := .cls "Hand") rfl)
theorem TX.n_Hand_lit (G : TX K mg) : NoAttr K (He.ga K "Hand") "lit" := He.noat_ok (G.tk.says.fact 41 (f := .noat "Hand" "lit") rfl)
theorem TX.n_Hand_stands (G : TX K mg) : NoAttr K (He.ga K "Hand") "stands" := He.noat_ok (G.tk.says.fact 42 (f := .noat "Hand" "stands") rfl)
theorem TX.k_Hand (G : TX K mg) : Mk K (He.ga K "Hand") (He.ma K (He.ga K "Hand") "__init__") := He.mkr_ok (G.tk.says.fact 43 (f := .mkr "Hand") rfl)
theorem TX.m_Hand_mark (G : TX K mg) : Meth K (He.ga K "Hand") "mark" (He.ma K (He.ga K "Hand") "mark") := He.meth_ok (G.tk.says.fact 44 (f := .meth "Hand" "mark") rfl)
theorem TX.m_Hand_unmark (G : TX K mg) : Meth K (He.ga K "Hand") "unmark" (He.ma K (He.ga K "Hand") "unmark") := He.meth_ok (G.tk.says.fact 45 (f := .meth "Hand" "unmark") rfl)
theorem TX.m_Hand_step (G : TX K mg) : Meth K (He.ga K "Hand") "step" (He.ma K (He.ga K "Hand") "step") := He.meth_ok (G.tk.says.fact 46 (f := .meth "Hand" "step") rfl)
theorem TX.m_Hand_chosen (G : TX K mg) : Meth K (He.ga K "Hand") "chosen" (He.ma K (He.ga K "Hand") "chosen") := He.meth_ok (G.tk.says.fact 47 (f := .meth "Hand" "chosen") rfl)
theorem TX.m_Hand_marks (G : TX K mg) : Meth K (He.ga K "Hand") "marks" (He.ma K (He.ga K "Hand") "marks") := He.meth_ok (G.tk.says.fact 48 (f := .meth "Hand" "marks") rfl)
theorem TX.m_Hand_at (G : TX K mg) : Meth K (He.ga K "Hand") "at" (He.ma K (He.ga K "Hand") "at") := He.meth_ok (G.tk.says.fact 49 (f := .meth "Hand" "at") rfl)
theorem TX.c_Leaf (G : TX K mg) : Cls K (He.ga K "Leaf") := He.cls_ok (G.tk.says.fact 50 (f := .cls "Leaf") rfl)
theorem TX.n_Leaf_rights (G : TX K mg) : NoAttr K (He.ga K "Leaf") "rights" := He.noat_ok (G.tk.says.fact 51 (f := .noat "Leaf" "rights") rfl)
theorem TX.k_Leaf (G : TX K mg) : Mk K (He.ga K "Leaf") (He.ma K (He.ga K "Leaf") "__init__") := He.mkr_ok (G.tk.says.fact 52 (f := .mkr "Leaf") rfl)
theorem TX.c_Held (G : TX K mg) : Cls K (He.ga K "Held") := He.cls_ok (G.tk.says.fact 53 (f := .cls "Held") rfl)
theorem TX.n_Held_rights (G : TX K mg) : NoAttr K (He.ga K "Held") "rights" := He.noat_ok (G.tk.says.fact 54 (f := .noat "Held" "rights") rfl)
theorem TX.n_Held_frame (G : TX K mg) : NoAttr K (He.ga K "Held") "frame" := He.noat_ok (G.tk.says.fact 55 (f := .noat "Held" "frame") rfl)
theorem TX.k_Held (G : TX K mg) : Mk K (He.ga K "Held") (He.ma K (He.ga K "Held") "__init__") := He.mkr_ok (G.tk.says.fact 56 (f := .mkr "Held") rfl)
theorem TX.m_Held_row (G : TX K mg) : Meth K (He.ga K "Held") "row" (He.ma K (He.ga K "Held") "row") := He.meth_ok (G.tk.says.fact 57 (f := .meth "Held" "row") rfl)
theorem TX.c_Out (G : TX K mg) : Cls K (He.ga K "Out") := He.cls_ok (G.tk.says.fact 58 (f := .cls "Out") rfl)
theorem TX.n_Out_rights (G : TX K mg) : NoAttr K (He.ga K "Out") "rights" := He.noat_ok (G.tk.says.fact 59 (f := .noat "Out" "rights") rfl)
theorem TX.n_Out_slot (G : TX K mg) : NoAttr K (He.ga K "Out") "slot" := He.noat_ok (G.tk.says.fact 60 (f := .noat "Out" "slot") rfl)
theorem TX.k_Out (G : TX K mg) : Mk K (He.ga K "Out") (He.ma K (He.ga K "Out") "__init__") := He.mkr_ok (G.tk.says.fact 61 (f := .mkr "Out") rfl)
theorem TX.m_Out_row (G : TX K mg) : Meth K (He.ga K "Out") "row" (He.ma K (He.ga K "Out") "row") := He.meth_ok (G.tk.says.fact 62 (f := .meth "Out" "row") rfl)
theorem TX.c_Counts (G : TX K mg) : Cls K (He.ga K "Counts") := He.cls_ok (G.tk.says.fact 63 (f := .cls "Counts") rfl)
theorem TX.n_Counts_tally (G : TX K mg) : NoAttr K (He.ga K "Counts") "tally" := He.noat_ok (G.tk.says.fact 64 (f := .noat "Counts" "tally") rfl)
theorem TX.k_Counts (G : TX K mg) : Mk K (He.ga K "Counts") (He.ma K (He.ga K "Counts") "__init__") := He.mkr_ok (G.tk.says.fact 65 (f := .mkr "Counts") rfl)
theorem TX.m_Counts_of (G : TX K mg) : Meth K (He.ga K "Counts") "of" (He.ma K (He.ga K "Counts") "of") := He.meth_ok (G.tk.says.fact 66 (f := .meth "Counts" "of") rfl)
theorem TX.m_Counts_used (G : TX K mg) : Meth K (He.ga K "Counts") "used" (He.ma K (He.ga K "Counts") "used") := He.meth_ok (G.tk.says.fact 67 (f := .meth "Counts" "used") rfl)
theorem TX.m_Counts_taken (G : TX K mg) : Meth K (He.ga K "Counts") "taken" (He.ma K (He.ga K "Counts") "taken") := He.meth_ok (G.tk.says.fact 68 (f := .meth "Counts" "taken") rfl)
theorem TX.m_Counts_more (G : TX K mg) : Meth K (He.ga K "Counts") "more" (He.ma K (He.ga K "Counts") "more") := He.meth_ok (G.tk.says.fact 69 (f := .meth "Counts" "more") rfl)
theorem TX.m_Counts_less (G : TX K mg) : Meth K (He.ga K "Counts") "less" (He.ma K (He.ga K "Counts") "less") := He.meth_ok (G.tk.says.fact 70 (f := .meth "Counts" "less") rfl)
theorem TX.m_Counts_freed (G : TX K mg) : Meth K (He.ga K "Counts") "freed" (He.ma K (He.ga K "Counts") "freed") := He.meth_ok (G.tk.says.fact 71 (f := .meth "Counts" "freed") rfl)
theorem TX.m_Counts_told (G : TX K mg) : Meth K (He.ga K "Counts") "told" (He.ma K (He.ga K "Counts") "told") := He.meth_ok (G.tk.says.fact 72 (f := .meth "Counts" "told") rfl)
theorem TX.m_Counts_free (G : TX K mg) : Meth K (He.ga K "Counts") "free" (He.ma K (He.ga K "Counts") "free") := He.meth_ok (G.tk.says.fact 73 (f := .meth "Counts" "free") rfl)
theorem TX.c_Store (G : TX K mg) : Cls K (He.ga K "Store") := He.cls_ok (G.tk.says.fact 74 (f := .cls "Store") rfl)
theorem TX.n_Store_tally (G : TX K mg) : NoAttr K (He.ga K "Store") "tally" := He.noat_ok (G.tk.says.fact 75 (f := .noat "Store" "tally") rfl)
theorem TX.n_Store_wide (G : TX K mg) : NoAttr K (He.ga K "Store") "wide" := He.noat_ok (G.tk.says.fact 76 (f := .noat "Store" "wide") rfl)
theorem TX.n_Store_lying (G : TX K mg) : NoAttr K (He.ga K "Store") "lying" := He.noat_ok (G.tk.says.fact 77 (f := .noat "Store" "lying") rfl)
theorem TX.k_Store (G : TX K mg) : Mk K (He.ga K "Store") (He.ma K (He.ga K "Store") "__init__") := He.mkr_ok (G.tk.says.fact 78 (f := .mkr "Store") rfl)
theorem TX.m_Store_need (G : TX K mg) : Meth K (He.ga K "Store") "need" (He.ma K (He.ga K "Store") "need") := He.meth_ok (G.tk.says.fact 79 (f := .meth "Store" "need") rfl)
theorem TX.m_Store_need_place (G : TX K mg) : Meth K (He.ga K "Store") "need_place" (He.ma K (He.ga K "Store") "need_place") := He.meth_ok (G.tk.says.fact 80 (f := .meth "Store" "need_place") rfl)
theorem TX.m_Store_made (G : TX K mg) : Meth K (He.ga K "Store") "made" (He.ma K (He.ga K "Store") "made") := He.meth_ok (G.tk.says.fact 81 (f := .meth "Store" "made") rfl)
theorem TX.m_Store_words (G : TX K mg) : Meth K (He.ga K "Store") "words" (He.ma K (He.ga K "Store") "words") := He.meth_ok (G.tk.says.fact 82 (f := .meth "Store" "words") rfl)
theorem TX.m_Store_word (G : TX K mg) : Meth K (He.ga K "Store") "word" (He.ma K (He.ga K "Store") "word") := He.meth_ok (G.tk.says.fact 83 (f := .meth "Store" "word") rfl)
theorem TX.m_Store_put (G : TX K mg) : Meth K (He.ga K "Store") "put" (He.ma K (He.ga K "Store") "put") := He.meth_ok (G.tk.says.fact 84 (f := .meth "Store" "put") rfl)
theorem TX.m_Store_more (G : TX K mg) : Meth K (He.ga K "Store") "more" (He.ma K (He.ga K "Store") "more") := He.meth_ok (G.tk.says.fact 85 (f := .meth "Store" "more") rfl)
theorem TX.m_Store_less (G : TX K mg) : Meth K (He.ga K "Store") "less" (He.ma K (He.ga K "Store") "less") := He.meth_ok (G.tk.says.fact 86 (f := .meth "Store" "less") rfl)
theorem TX.m_Store_gone (G : TX K mg) : Meth K (He.ga K "Store") "gone" (He.ma K (He.ga K "Store") "gone") := He.meth_ok (G.tk.says.fact 87 (f := .meth "Store" "gone") rfl)
theorem TX.m_Store_counts (G : TX K mg) : Meth K (He.ga K "Store") "counts" (He.ma K (He.ga K "Store") "counts") := He.meth_ok (G.tk.says.fact 88 (f := .meth "Store" "counts") rfl)
theorem TX.m_Store_free (G : TX K mg) : Meth K (He.ga K "Store") "free" (He.ma K (He.ga K "Store") "free") := He.meth_ok (G.tk.says.fact 89 (f := .meth "Store" "free") rfl)
theorem TX.c_Pool (G : TX K mg) : Cls K (He.ga K "Pool") := He.cls_ok (G.tk.says.fact 90 (f := .cls "Pool") rfl)
theorem TX.n_Pool_inner (G : TX K mg) : NoAttr K (He.ga K "Pool") "inner" := He.noat_ok (G.tk.says.fact 91 (f := .noat "Pool" "inner") rfl)
theorem TX.n_Pool_outer (G : TX K mg) : NoAttr K (He.ga K "Pool") "outer" := He.noat_ok (G.tk.says.fact 92 (f := .noat "Pool" "outer") rfl)
theorem TX.n_Pool_hand (G : TX K mg) : NoAttr K (He.ga K "Pool") "hand" := He.noat_ok (G.tk.says.fact 93 (f := .noat "Pool" "hand") rfl)
theorem TX.n_Pool_wide (G : TX K mg) : NoAttr K (He.ga K "Pool") "wide" := He.noat_ok (G.tk.says.fact 94 (f := .noat "Pool" "wide") rfl)
theorem TX.k_Pool (G : TX K mg) : Mk K (He.ga K "Pool") (He.ma K (He.ga K "Pool") "__init__") := He.mkr_ok (G.tk.says.fact 95 (f := .mkr "Pool") rfl)
theorem TX.m_Pool_put_out (G : TX K mg) : Meth K (He.ga K "Pool") "put_out" (He.ma K (He.ga K "Pool") "put_out") := He.meth_ok (G.tk.says.fact 96 (f := .meth "Pool" "put_out") rfl)
theorem TX.m_Pool_brought (G : TX K mg) : Meth K (He.ga K "Pool") "brought" (He.ma K (He.ga K "Pool") "brought") := He.meth_ok (G.tk.says.fact 97 (f := .meth "Pool" "brought") rfl)
theorem TX.m_Pool_made (G : TX K mg) : Meth K (He.ga K "Pool") "made" (He.ma K (He.ga K "Pool") "made") := He.meth_ok (G.tk.says.fact 98 (f := .meth "Pool" "made") rfl)
theorem TX.m_Pool_fetched (G : TX K mg) : Meth K (He.ga K "Pool") "fetched" (He.ma K (He.ga K "Pool") "fetched") := He.meth_ok (G.tk.says.fact 99 (f := .meth "Pool" "fetched") rfl)
theorem TX.m_Pool_word (G : TX K mg) : Meth K (He.ga K "Pool") "word" (He.ma K (He.ga K "Pool") "word") := He.meth_ok (G.tk.says.fact 100 (f := .meth "Pool" "word") rfl)
theorem TX.m_Pool_put (G : TX K mg) : Meth K (He.ga K "Pool") "put" (He.ma K (He.ga K "Pool") "put") := He.meth_ok (G.tk.says.fact 101 (f := .meth "Pool" "put") rfl)
theorem TX.m_Pool_more (G : TX K mg) : Meth K (He.ga K "Pool") "more" (He.ma K (He.ga K "Pool") "more") := He.meth_ok (G.tk.says.fact 102 (f := .meth "Pool" "more") rfl)
theorem TX.m_Pool_less (G : TX K mg) : Meth K (He.ga K "Pool") "less" (He.ma K (He.ga K "Pool") "less") := He.meth_ok (G.tk.says.fact 103 (f := .meth "Pool" "less") rfl)
theorem TX.m_Pool_words (G : TX K mg) : Meth K (He.ga K "Pool") "words" (He.ma K (He.ga K "Pool") "words") := He.meth_ok (G.tk.says.fact 104 (f := .meth "Pool" "words") rfl)
theorem TX.m_Pool_count (G : TX K mg) : Meth K (He.ga K "Pool") "count" (He.ma K (He.ga K "Pool") "count") := He.meth_ok (G.tk.says.fact 105 (f := .meth "Pool" "count") rfl)
theorem TX.m_Pool_frames (G : TX K mg) : Meth K (He.ga K "Pool") "frames" (He.ma K (He.ga K "Pool") "frames") := He.meth_ok (G.tk.says.fact 106 (f := .meth "Pool" "frames") rfl)
theorem TX.m_Pool_slots (G : TX K mg) : Meth K (He.ga K "Pool") "slots" (He.ma K (He.ga K "Pool") "slots") := He.meth_ok (G.tk.says.fact 107 (f := .meth "Pool" "slots") rfl)
theorem TX.m_Pool_marks (G : TX K mg) : Meth K (He.ga K "Pool") "marks" (He.ma K (He.ga K "Pool") "marks") := He.meth_ok (G.tk.says.fact 108 (f := .meth "Pool" "marks") rfl)
theorem TX.m_Pool_room (G : TX K mg) : Meth K (He.ga K "Pool") "room" (He.ma K (He.ga K "Pool") "room") := He.meth_ok (G.tk.says.fact 109 (f := .meth "Pool" "room") rfl)
theorem ok_raise_LeafError {X : Cx} {j : Nat} {p p2 pos : Pos} {m : Str} (G : TX X.K X.mg) (hg : Gl X "LeafError" := by rfl) : PMk X (.Call (.Name "LeafError" p) [.Constant (.str m) j p2] [] pos) (fun _ H Q => Q (.ref (He.ga X.K "LeafError")) none H) :=
  let ⟨h1, h2, h3, h4⟩ := He.exc_ok (K := X.K) (G.tk.says.fact 110 (f := .exc "LeafError") rfl); pmk_own PySem.F.excBase_ValueError h1 G.g_LeafError h2 (raises_own h3 h4) hg
theorem ok_raise_NoShape {X : Cx} {j : Nat} {p p2 pos : Pos} {m : Str} (G : TX X.K X.mg) (hg : Gl X "NoShape" := by rfl) : PMk X (.Call (.Name "NoShape" p) [.Constant (.str m) j p2] [] pos) (fun _ H Q => Q (.ref (He.ga X.K "NoShape")) none H) :=
  let ⟨h1, h2, h3, h4⟩ := He.exc_ok (K := X.K) (G.tk.says.fact 111 (f := .exc "NoShape") rfl); pmk_own PySem.F.excBase_ValueError h1 G.g_NoShape h2 (raises_own h3 h4) hg
theorem ok_raise_NoAddress {X : Cx} {j : Nat} {p p2 pos : Pos} {m : Str} (G : TX X.K X.mg) (hg : Gl X "NoAddress" := by rfl) : PMk X (.Call (.Name "NoAddress" p) [.Constant (.str m) j p2] [] pos) (fun _ H Q => Q (.ref (He.ga X.K "NoAddress")) none H) :=
  let ⟨h1, h2, h3, h4⟩ := He.exc_ok (K := X.K) (G.tk.says.fact 112 (f := .exc "NoAddress") rfl); pmk_own PySem.F.excBase_ValueError h1 G.g_NoAddress h2 (raises_own h3 h4) hg
theorem ok_raise_NoNumber {X : Cx} {j : Nat} {p p2 pos : Pos} {m : Str} (G : TX X.K X.mg) (hg : Gl X "NoNumber" := by rfl) : PMk X (.Call (.Name "NoNumber" p) [.Constant (.str m) j p2] [] pos) (fun _ H Q => Q (.ref (He.ga X.K "NoNumber")) none H) :=
  let ⟨h1, h2, h3, h4⟩ := He.exc_ok (K := X.K) (G.tk.says.fact 113 (f := .exc "NoNumber") rfl); pmk_own PySem.F.excBase_ValueError h1 G.g_NoNumber h2 (raises_own h3 h4) hg
theorem ok_raise_Full {X : Cx} {j : Nat} {p p2 pos : Pos} {m : Str} (G : TX X.K X.mg) (hg : Gl X "Full" := by rfl) : PMk X (.Call (.Name "Full" p) [.Constant (.str m) j p2] [] pos) (fun _ H Q => Q (.ref (He.ga X.K "Full")) none H) :=
  let ⟨h1, h2, h3, h4⟩ := He.exc_ok (K := X.K) (G.tk.says.fact 114 (f := .exc "Full") rfl); pmk_own PySem.F.excBase_ValueError h1 G.g_Full h2 (raises_own h3 h4) hg
theorem ok_raise_NoWord {X : Cx} {j : Nat} {p p2 pos : Pos} {m : Str} (G : TX X.K X.mg) (hg : Gl X "NoWord" := by rfl) : PMk X (.Call (.Name "NoWord" p) [.Constant (.str m) j p2] [] pos) (fun _ H Q => Q (.ref (He.ga X.K "NoWord")) none H) :=
  let ⟨h1, h2, h3, h4⟩ := He.exc_ok (K := X.K) (G.tk.says.fact 115 (f := .exc "NoWord") rfl); pmk_own PySem.F.excBase_ValueError h1 G.g_NoWord h2 (raises_own h3 h4) hg
theorem ok_raise_NoRights {X : Cx} {j : Nat} {p p2 pos : Pos} {m : Str} (G : TX X.K X.mg) (hg : Gl X "NoRights" := by rfl) : PMk X (.Call (.Name "NoRights" p) [.Constant (.str m) j p2] [] pos) (fun _ H Q => Q (.ref (He.ga X.K "NoRights")) none H) :=
  let ⟨h1, h2, h3, h4⟩ := He.exc_ok (K := X.K) (G.tk.says.fact 116 (f := .exc "NoRights") rfl); pmk_own PySem.F.excBase_ValueError h1 G.g_NoRights h2 (raises_own h3 h4) hg
theorem TX.x_LeafError_Full (G : TX K mg) : PySem.W.exmOne K (.ref (He.ga K "LeafError")) (.ref (He.ga K "Full")) = some false := He.exm_ok (G.tk.says.fact 117 (f := .exm "LeafError" "Full" false) rfl)
theorem TX.x_NoShape_Full (G : TX K mg) : PySem.W.exmOne K (.ref (He.ga K "NoShape")) (.ref (He.ga K "Full")) = some false := He.exm_ok (G.tk.says.fact 118 (f := .exm "NoShape" "Full" false) rfl)
theorem TX.x_NoAddress_Full (G : TX K mg) : PySem.W.exmOne K (.ref (He.ga K "NoAddress")) (.ref (He.ga K "Full")) = some false := He.exm_ok (G.tk.says.fact 119 (f := .exm "NoAddress" "Full" false) rfl)
theorem TX.x_NoNumber_Full (G : TX K mg) : PySem.W.exmOne K (.ref (He.ga K "NoNumber")) (.ref (He.ga K "Full")) = some false := He.exm_ok (G.tk.says.fact 120 (f := .exm "NoNumber" "Full" false) rfl)
theorem TX.x_Full_Full (G : TX K mg) : PySem.W.exmOne K (.ref (He.ga K "Full")) (.ref (He.ga K "Full")) = some true := He.exm_ok (G.tk.says.fact 121 (f := .exm "Full" "Full" true) rfl)
theorem TX.x_NoWord_Full (G : TX K mg) : PySem.W.exmOne K (.ref (He.ga K "NoWord")) (.ref (He.ga K "Full")) = some false := He.exm_ok (G.tk.says.fact 122 (f := .exm "NoWord" "Full" false) rfl)
theorem TX.x_NoRights_Full (G : TX K mg) : PySem.W.exmOne K (.ref (He.ga K "NoRights")) (.ref (He.ga K "Full")) = some false := He.exm_ok (G.tk.says.fact 123 (f := .exm "NoRights" "Full" false) rfl)
theorem TX.ins_Hand (G : TX K mg) : insB K (He.ga K "Hand") = true := G.tk.exf 0 (f := fun K => insB K (He.ga K "Hand")) rfl
theorem TX.ins_Leaf (G : TX K mg) : insB K (He.ga K "Leaf") = true := G.tk.exf 1 (f := fun K => insB K (He.ga K "Leaf")) rfl
theorem TX.ins_Held (G : TX K mg) : insB K (He.ga K "Held") = true := G.tk.exf 2 (f := fun K => insB K (He.ga K "Held")) rfl
theorem TX.ins_Out (G : TX K mg) : insB K (He.ga K "Out") = true := G.tk.exf 3 (f := fun K => insB K (He.ga K "Out")) rfl
theorem TX.ins_Counts (G : TX K mg) : insB K (He.ga K "Counts") = true := G.tk.exf 4 (f := fun K => insB K (He.ga K "Counts")) rfl
theorem TX.ins_Store (G : TX K mg) : insB K (He.ga K "Store") = true := G.tk.exf 5 (f := fun K => insB K (He.ga K "Store")) rfl
theorem TX.ins_Pool (G : TX K mg) : insB K (He.ga K "Pool") = true := G.tk.exf 6 (f := fun K => insB K (He.ga K "Pool")) rfl
theorem TX.cm_Leaf___init__ (G : TX K mg) : clsB K (He.ga K "Leaf") "__init__" (He.ma K (He.ga K "Leaf") "__init__") = true := G.tk.exf 7 (f := fun K => clsB K (He.ga K "Leaf") "__init__" (He.ma K (He.ga K "Leaf") "__init__")) rfl
theorem TX.kit_Held_Held (G : TX K mg) : PySem.W.kitOne K (.ref (He.ga K "Held")) (.ref (He.ga K "Held")) = some true := of_decide_eq_true (G.tk.exf 8 (f := fun K => decide (PySem.W.kitOne K (.ref (He.ga K "Held")) (.ref (He.ga K "Held")) = some true)) rfl)
theorem TX.kit_Held_Out (G : TX K mg) : PySem.W.kitOne K (.ref (He.ga K "Held")) (.ref (He.ga K "Out")) = some false := of_decide_eq_true (G.tk.exf 9 (f := fun K => decide (PySem.W.kitOne K (.ref (He.ga K "Held")) (.ref (He.ga K "Out")) = some false)) rfl)
theorem TX.kit_Out_Held (G : TX K mg) : PySem.W.kitOne K (.ref (He.ga K "Out")) (.ref (He.ga K "Held")) = some false := of_decide_eq_true (G.tk.exf 10 (f := fun K => decide (PySem.W.kitOne K (.ref (He.ga K "Out")) (.ref (He.ga K "Held")) = some false)) rfl)
theorem TX.kit_Out_Out (G : TX K mg) : PySem.W.kitOne K (.ref (He.ga K "Out")) (.ref (He.ga K "Out")) = some true := of_decide_eq_true (G.tk.exf 11 (f := fun K => decide (PySem.W.kitOne K (.ref (He.ga K "Out")) (.ref (He.ga K "Out")) = some true)) rfl)
instance [T : TK K] : HasF K (He.ga K "Hand") "lit" := ⟨He.cls_ok (T.says.fact 40 (f := .cls "Hand") rfl), He.noat_ok (T.says.fact 41 (f := .noat "Hand" "lit") rfl)⟩
instance [T : TK K] : HasF K (He.ga K "Hand") "stands" := ⟨He.cls_ok (T.says.fact 40 (f := .cls "Hand") rfl), He.noat_ok (T.says.fact 42 (f := .noat "Hand" "stands") rfl)⟩
instance [T : TK K] : HasF K (He.ga K "Leaf") "rights" := ⟨He.cls_ok (T.says.fact 50 (f := .cls "Leaf") rfl), He.noat_ok (T.says.fact 51 (f := .noat "Leaf" "rights") rfl)⟩
instance [T : TK K] : HasF K (He.ga K "Held") "rights" := ⟨He.cls_ok (T.says.fact 53 (f := .cls "Held") rfl), He.noat_ok (T.says.fact 54 (f := .noat "Held" "rights") rfl)⟩
instance [T : TK K] : HasF K (He.ga K "Held") "frame" := ⟨He.cls_ok (T.says.fact 53 (f := .cls "Held") rfl), He.noat_ok (T.says.fact 55 (f := .noat "Held" "frame") rfl)⟩
instance [T : TK K] : HasF K (He.ga K "Out") "rights" := ⟨He.cls_ok (T.says.fact 58 (f := .cls "Out") rfl), He.noat_ok (T.says.fact 59 (f := .noat "Out" "rights") rfl)⟩
instance [T : TK K] : HasF K (He.ga K "Out") "slot" := ⟨He.cls_ok (T.says.fact 58 (f := .cls "Out") rfl), He.noat_ok (T.says.fact 60 (f := .noat "Out" "slot") rfl)⟩
instance [T : TK K] : HasF K (He.ga K "Counts") "tally" := ⟨He.cls_ok (T.says.fact 63 (f := .cls "Counts") rfl), He.noat_ok (T.says.fact 64 (f := .noat "Counts" "tally") rfl)⟩
instance [T : TK K] : HasF K (He.ga K "Store") "tally" := ⟨He.cls_ok (T.says.fact 74 (f := .cls "Store") rfl), He.noat_ok (T.says.fact 75 (f := .noat "Store" "tally") rfl)⟩
instance [T : TK K] : HasF K (He.ga K "Store") "wide" := ⟨He.cls_ok (T.says.fact 74 (f := .cls "Store") rfl), He.noat_ok (T.says.fact 76 (f := .noat "Store" "wide") rfl)⟩
instance [T : TK K] : HasF K (He.ga K "Store") "lying" := ⟨He.cls_ok (T.says.fact 74 (f := .cls "Store") rfl), He.noat_ok (T.says.fact 77 (f := .noat "Store" "lying") rfl)⟩
instance [T : TK K] : HasF K (He.ga K "Pool") "inner" := ⟨He.cls_ok (T.says.fact 90 (f := .cls "Pool") rfl), He.noat_ok (T.says.fact 91 (f := .noat "Pool" "inner") rfl)⟩
instance [T : TK K] : HasF K (He.ga K "Pool") "outer" := ⟨He.cls_ok (T.says.fact 90 (f := .cls "Pool") rfl), He.noat_ok (T.says.fact 92 (f := .noat "Pool" "outer") rfl)⟩
instance [T : TK K] : HasF K (He.ga K "Pool") "hand" := ⟨He.cls_ok (T.says.fact 90 (f := .cls "Pool") rfl), He.noat_ok (T.says.fact 93 (f := .noat "Pool" "hand") rfl)⟩
instance [T : TK K] : HasF K (He.ga K "Pool") "wide" := ⟨He.cls_ok (T.says.fact 90 (f := .cls "Pool") rfl), He.noat_ok (T.says.fact 94 (f := .noat "Pool" "wide") rfl)⟩
theorem TX.F_Hand___init__ (G : TX K mg) : ∃ fd, FunD K "__init__" "Hand.__init__" (defArgs s_Hand___init__) (defBody s_Hand___init__) (defScope s_Hand___init__) [] [] (He.ma K (He.ga K "Hand") "__init__") fd := G.tk.says.def_ 0 (d := d_Hand___init__) rfl
theorem bd_Hand___init__ {f : Addr} {fd : FuncData} (F : FunD K "__init__" "Hand.__init__" (defArgs s_Hand___init__) (defBody s_Hand___init__) (defScope s_Hand___init__) [] [] f fd) : ∃ ds, Vals [] ds ∧ L2.Binds K fd ["self", "many"] ds := ⟨[], .nil, F.bindsN fun _ _ _ _ _ _ us hl => match us, hl with | [_, _], _ => rfl⟩
theorem TX.F_Hand_mark (G : TX K mg) : ∃ fd, FunD K "mark" "Hand.mark" (defArgs s_Hand_mark) (defBody s_Hand_mark) (defScope s_Hand_mark) [] [] (He.ma K (He.ga K "Hand") "mark") fd := G.tk.says.def_ 1 (d := d_Hand_mark) rfl
theorem bd_Hand_mark {f : Addr} {fd : FuncData} (F : FunD K "mark" "Hand.mark" (defArgs s_Hand_mark) (defBody s_Hand_mark) (defScope s_Hand_mark) [] [] f fd) : ∃ ds, Vals [] ds ∧ L2.Binds K fd ["self", "frame"] ds := ⟨[], .nil, F.bindsN fun _ _ _ _ _ _ us hl => match us, hl with | [_, _], _ => rfl⟩
theorem TX.F_Hand_unmark (G : TX K mg) : ∃ fd, FunD K "unmark" "Hand.unmark" (defArgs s_Hand_unmark) (defBody s_Hand_unmark) (defScope s_Hand_unmark) [] [] (He.ma K (He.ga K "Hand") "unmark") fd := G.tk.says.def_ 2 (d := d_Hand_unmark) rfl
theorem bd_Hand_unmark {f : Addr} {fd : FuncData} (F : FunD K "unmark" "Hand.unmark" (defArgs s_Hand_unmark) (defBody s_Hand_unmark) (defScope s_Hand_unmark) [] [] f fd) : ∃ ds, Vals [] ds ∧ L2.Binds K fd ["self", "frame"] ds := ⟨[], .nil, F.bindsN fun _ _ _ _ _ _ us hl => match us, hl with | [_, _], _ => rfl⟩
theorem TX.F_Hand_step (G : TX K mg) : ∃ fd, FunD K "step" "Hand.step" (defArgs s_Hand_step) (defBody s_Hand_step) (defScope s_Hand_step) [] [] (He.ma K (He.ga K "Hand") "step") fd := G.tk.says.def_ 3 (d := d_Hand_step) rfl
theorem bd_Hand_step {f : Addr} {fd : FuncData} (F : FunD K "step" "Hand.step" (defArgs s_Hand_step) (defBody s_Hand_step) (defScope s_Hand_step) [] [] f fd) : ∃ ds, Vals [] ds ∧ L2.Binds K fd ["self"] ds := ⟨[], .nil, F.bindsN fun _ _ _ _ _ _ us hl => match us, hl with | [_], _ => rfl⟩
theorem TX.F_Hand_chosen (G : TX K mg) : ∃ fd, FunD K "chosen" "Hand.chosen" (defArgs s_Hand_chosen) (defBody s_Hand_chosen) (defScope s_Hand_chosen) [] [] (He.ma K (He.ga K "Hand") "chosen") fd := G.tk.says.def_ 4 (d := d_Hand_chosen) rfl
theorem bd_Hand_chosen {f : Addr} {fd : FuncData} (F : FunD K "chosen" "Hand.chosen" (defArgs s_Hand_chosen) (defBody s_Hand_chosen) (defScope s_Hand_chosen) [] [] f fd) : ∃ ds, Vals [] ds ∧ L2.Binds K fd ["self"] ds := ⟨[], .nil, F.bindsN fun _ _ _ _ _ _ us hl => match us, hl with | [_], _ => rfl⟩
theorem TX.F_Hand_marks (G : TX K mg) : ∃ fd, FunD K "marks" "Hand.marks" (defArgs s_Hand_marks) (defBody s_Hand_marks) (defScope s_Hand_marks) [] [] (He.ma K (He.ga K "Hand") "marks") fd := G.tk.says.def_ 5 (d := d_Hand_marks) rfl
theorem bd_Hand_marks {f : Addr} {fd : FuncData} (F : FunD K "marks" "Hand.marks" (defArgs s_Hand_marks) (defBody s_Hand_marks) (defScope s_Hand_marks) [] [] f fd) : ∃ ds, Vals [] ds ∧ L2.Binds K fd ["self"] ds := ⟨[], .nil, F.bindsN fun _ _ _ _ _ _ us hl => match us, hl with | [_], _ => rfl⟩
theorem TX.F_Hand_at (G : TX K mg) : ∃ fd, FunD K "at" "Hand.at" (defArgs s_Hand_at) (defBody s_Hand_at) (defScope s_Hand_at) [] [] (He.ma K (He.ga K "Hand") "at") fd := G.tk.says.def_ 6 (d := d_Hand_at) rfl
theorem bd_Hand_at {f : Addr} {fd : FuncData} (F : FunD K "at" "Hand.at" (defArgs s_Hand_at) (defBody s_Hand_at) (defScope s_Hand_at) [] [] f fd) : ∃ ds, Vals [] ds ∧ L2.Binds K fd ["self"] ds := ⟨[], .nil, F.bindsN fun _ _ _ _ _ _ us hl => match us, hl with | [_], _ => rfl⟩
theorem TX.F_Leaf___init__ (G : TX K mg) : ∃ fd, FunD K "__init__" "Leaf.__init__" (defArgs s_Leaf___init__) (defBody s_Leaf___init__) (defScope s_Leaf___init__) [] [] (He.ma K (He.ga K "Leaf") "__init__") fd := G.tk.says.def_ 7 (d := d_Leaf___init__) rfl
theorem bd_Leaf___init__ {f : Addr} {fd : FuncData} (F : FunD K "__init__" "Leaf.__init__" (defArgs s_Leaf___init__) (defBody s_Leaf___init__) (defScope s_Leaf___init__) [] [] f fd) : ∃ ds, Vals [] ds ∧ L2.Binds K fd ["self", "rights"] ds := ⟨[], .nil, F.bindsN fun _ _ _ _ _ _ us hl => match us, hl with | [_, _], _ => rfl⟩
theorem TX.F_Held___init__ (G : TX K mg) : ∃ fd, FunD K "__init__" "Held.__init__" (defArgs s_Held___init__) (defBody s_Held___init__) (defScope s_Held___init__) [] [] (He.ma K (He.ga K "Held") "__init__") fd := G.tk.says.def_ 8 (d := d_Held___init__) rfl
theorem bd_Held___init__ {f : Addr} {fd : FuncData} (F : FunD K "__init__" "Held.__init__" (defArgs s_Held___init__) (defBody s_Held___init__) (defScope s_Held___init__) [] [] f fd) : ∃ ds, Vals [] ds ∧ L2.Binds K fd ["self", "rights", "frame"] ds := ⟨[], .nil, F.bindsN fun _ _ _ _ _ _ us hl => match us, hl with | [_, _, _], _ => rfl⟩
theorem TX.F_Held_row (G : TX K mg) : ∃ fd, FunD K "row" "Held.row" (defArgs s_Held_row) (defBody s_Held_row) (defScope s_Held_row) [] [] (He.ma K (He.ga K "Held") "row") fd := G.tk.says.def_ 9 (d := d_Held_row) rfl
theorem bd_Held_row {f : Addr} {fd : FuncData} (F : FunD K "row" "Held.row" (defArgs s_Held_row) (defBody s_Held_row) (defScope s_Held_row) [] [] f fd) : ∃ ds, Vals [] ds ∧ L2.Binds K fd ["self"] ds := ⟨[], .nil, F.bindsN fun _ _ _ _ _ _ us hl => match us, hl with | [_], _ => rfl⟩
theorem TX.F_Out___init__ (G : TX K mg) : ∃ fd, FunD K "__init__" "Out.__init__" (defArgs s_Out___init__) (defBody s_Out___init__) (defScope s_Out___init__) [] [] (He.ma K (He.ga K "Out") "__init__") fd := G.tk.says.def_ 10 (d := d_Out___init__) rfl
theorem bd_Out___init__ {f : Addr} {fd : FuncData} (F : FunD K "__init__" "Out.__init__" (defArgs s_Out___init__) (defBody s_Out___init__) (defScope s_Out___init__) [] [] f fd) : ∃ ds, Vals [] ds ∧ L2.Binds K fd ["self", "rights", "slot"] ds := ⟨[], .nil, F.bindsN fun _ _ _ _ _ _ us hl => match us, hl with | [_, _, _], _ => rfl⟩
theorem TX.F_Out_row (G : TX K mg) : ∃ fd, FunD K "row" "Out.row" (defArgs s_Out_row) (defBody s_Out_row) (defScope s_Out_row) [] [] (He.ma K (He.ga K "Out") "row") fd := G.tk.says.def_ 11 (d := d_Out_row) rfl
theorem bd_Out_row {f : Addr} {fd : FuncData} (F : FunD K "row" "Out.row" (defArgs s_Out_row) (defBody s_Out_row) (defScope s_Out_row) [] [] f fd) : ∃ ds, Vals [] ds ∧ L2.Binds K fd ["self"] ds := ⟨[], .nil, F.bindsN fun _ _ _ _ _ _ us hl => match us, hl with | [_], _ => rfl⟩
theorem TX.F_Counts___init__ (G : TX K mg) : ∃ fd, FunD K "__init__" "Counts.__init__" (defArgs s_Counts___init__) (defBody s_Counts___init__) (defScope s_Counts___init__) [] [] (He.ma K (He.ga K "Counts") "__init__") fd := G.tk.says.def_ 12 (d := d_Counts___init__) rfl
theorem bd_Counts___init__ {f : Addr} {fd : FuncData} (F : FunD K "__init__" "Counts.__init__" (defArgs s_Counts___init__) (defBody s_Counts___init__) (defScope s_Counts___init__) [] [] f fd) : ∃ ds, Vals [] ds ∧ L2.Binds K fd ["self", "many"] ds := ⟨[], .nil, F.bindsN fun _ _ _ _ _ _ us hl => match us, hl with | [_, _], _ => rfl⟩
theorem TX.F_Counts_of (G : TX K mg) : ∃ fd, FunD K "of" "Counts.of" (defArgs s_Counts_of) (defBody s_Counts_of) (defScope s_Counts_of) [] [] (He.ma K (He.ga K "Counts") "of") fd := G.tk.says.def_ 13 (d := d_Counts_of) rfl
theorem bd_Counts_of {f : Addr} {fd : FuncData} (F : FunD K "of" "Counts.of" (defArgs s_Counts_of) (defBody s_Counts_of) (defScope s_Counts_of) [] [] f fd) : ∃ ds, Vals [] ds ∧ L2.Binds K fd ["self", "number"] ds := ⟨[], .nil, F.bindsN fun _ _ _ _ _ _ us hl => match us, hl with | [_, _], _ => rfl⟩
theorem TX.F_Counts_used (G : TX K mg) : ∃ fd, FunD K "used" "Counts.used" (defArgs s_Counts_used) (defBody s_Counts_used) (defScope s_Counts_used) [] [] (He.ma K (He.ga K "Counts") "used") fd := G.tk.says.def_ 14 (d := d_Counts_used) rfl
theorem bd_Counts_used {f : Addr} {fd : FuncData} (F : FunD K "used" "Counts.used" (defArgs s_Counts_used) (defBody s_Counts_used) (defScope s_Counts_used) [] [] f fd) : ∃ ds, Vals [] ds ∧ L2.Binds K fd ["self", "number"] ds := ⟨[], .nil, F.bindsN fun _ _ _ _ _ _ us hl => match us, hl with | [_, _], _ => rfl⟩
theorem TX.F_Counts_taken (G : TX K mg) : ∃ fd, FunD K "taken" "Counts.taken" (defArgs s_Counts_taken) (defBody s_Counts_taken) (defScope s_Counts_taken) [.int 1] [] (He.ma K (He.ga K "Counts") "taken") fd := G.tk.says.def_ 15 (d := d_Counts_taken) rfl
theorem bd_Counts_taken {f : Addr} {fd : FuncData} (F : FunD K "taken" "Counts.taken" (defArgs s_Counts_taken) (defBody s_Counts_taken) (defScope s_Counts_taken) [.int 1] [] f fd) : ∃ ds, Vals [] ds ∧ L2.Binds K fd ["self", "count"] ds := F.binds1 2 1 (by simp) rfl fun _ _ _ _ _ _ _ us its hl hi => match us, its, hl, hi with | [_, _], [_], _, _ => ⟨_, rfl, rfl⟩
theorem bd_Counts_taken_d {f : Addr} {fd : FuncData} (F : FunD K "taken" "Counts.taken" (defArgs s_Counts_taken) (defBody s_Counts_taken) (defScope s_Counts_taken) [.int 1] [] f fd) : ∃ ds, Vals [.int 1] ds ∧ L2.Binds K fd ["self", "count"] ds := F.binds1 1 0 (by simp) rfl fun _ _ _ _ _ _ _ us its hl hi => match us, its, hl, hi with | [_], [_], _, _ => ⟨_, rfl, rfl⟩
theorem TX.F_Counts_more (G : TX K mg) : ∃ fd, FunD K "more" "Counts.more" (defArgs s_Counts_more) (defBody s_Counts_more) (defScope s_Counts_more) [] [] (He.ma K (He.ga K "Counts") "more") fd := G.tk.says.def_ 16 (d := d_Counts_more) rfl
theorem bd_Counts_more {f : Addr} {fd : FuncData} (F : FunD K "more" "Counts.more" (defArgs s_Counts_more) (defBody s_Counts_more) (defScope s_Counts_more) [] [] f fd) : ∃ ds, Vals [] ds ∧ L2.Binds K fd ["self", "number"] ds := ⟨[], .nil, F.bindsN fun _ _ _ _ _ _ us hl => match us, hl with | [_, _], _ => rfl⟩
theorem TX.F_Counts_less (G : TX K mg) : ∃ fd, FunD K "less" "Counts.less" (defArgs s_Counts_less) (defBody s_Counts_less) (defScope s_Counts_less) [] [] (He.ma K (He.ga K "Counts") "less") fd := G.tk.says.def_ 17 (d := d_Counts_less) rfl
theorem bd_Counts_less {f : Addr} {fd : FuncData} (F : FunD K "less" "Counts.less" (defArgs s_Counts_less) (defBody s_Counts_less) (defScope s_Counts_less) [] [] f fd) : ∃ ds, Vals [] ds ∧ L2.Binds K fd ["self", "number"] ds := ⟨[], .nil, F.bindsN fun _ _ _ _ _ _ us hl => match us, hl with | [_, _], _ => rfl⟩
theorem TX.F_Counts_freed (G : TX K mg) : ∃ fd, FunD K "freed" "Counts.freed" (defArgs s_Counts_freed) (defBody s_Counts_freed) (defScope s_Counts_freed) [] [] (He.ma K (He.ga K "Counts") "freed") fd := G.tk.says.def_ 18 (d := d_Counts_freed) rfl
theorem bd_Counts_freed {f : Addr} {fd : FuncData} (F : FunD K "freed" "Counts.freed" (defArgs s_Counts_freed) (defBody s_Counts_freed) (defScope s_Counts_freed) [] [] f fd) : ∃ ds, Vals [] ds ∧ L2.Binds K fd ["self", "number"] ds := ⟨[], .nil, F.bindsN fun _ _ _ _ _ _ us hl => match us, hl with | [_, _], _ => rfl⟩
theorem TX.F_Counts_told (G : TX K mg) : ∃ fd, FunD K "told" "Counts.told" (defArgs s_Counts_told) (defBody s_Counts_told) (defScope s_Counts_told) [] [] (He.ma K (He.ga K "Counts") "told") fd := G.tk.says.def_ 19 (d := d_Counts_told) rfl
theorem bd_Counts_told {f : Addr} {fd : FuncData} (F : FunD K "told" "Counts.told" (defArgs s_Counts_told) (defBody s_Counts_told) (defScope s_Counts_told) [] [] f fd) : ∃ ds, Vals [] ds ∧ L2.Binds K fd ["self"] ds := ⟨[], .nil, F.bindsN fun _ _ _ _ _ _ us hl => match us, hl with | [_], _ => rfl⟩
theorem TX.F_Counts_free (G : TX K mg) : ∃ fd, FunD K "free" "Counts.free" (defArgs s_Counts_free) (defBody s_Counts_free) (defScope s_Counts_free) [] [] (He.ma K (He.ga K "Counts") "free") fd := G.tk.says.def_ 20 (d := d_Counts_free) rfl
theorem bd_Counts_free {f : Addr} {fd : FuncData} (F : FunD K "free" "Counts.free" (defArgs s_Counts_free) (defBody s_Counts_free) (defScope s_Counts_free) [] [] f fd) : ∃ ds, Vals [] ds ∧ L2.Binds K fd ["self"] ds := ⟨[], .nil, F.bindsN fun _ _ _ _ _ _ us hl => match us, hl with | [_], _ => rfl⟩
theorem TX.F_is_word (G : TX K mg) : ∃ fd, FunD K "is_word" "is_word" (defArgs s_is_word) (defBody s_is_word) (defScope s_is_word) [] [] (He.ga K "is_word") fd := G.tk.says.def_ 21 (d := d_is_word) rfl
theorem bd_is_word {f : Addr} {fd : FuncData} (F : FunD K "is_word" "is_word" (defArgs s_is_word) (defBody s_is_word) (defScope s_is_word) [] [] f fd) : ∃ ds, Vals [] ds ∧ L2.Binds K fd ["thing"] ds := ⟨[], .nil, F.bindsN fun _ _ _ _ _ _ us hl => match us, hl with | [_], _ => rfl⟩
theorem TX.F_Store___init__ (G : TX K mg) : ∃ fd, FunD K "__init__" "Store.__init__" (defArgs s_Store___init__) (defBody s_Store___init__) (defScope s_Store___init__) [] [] (He.ma K (He.ga K "Store") "__init__") fd := G.tk.says.def_ 22 (d := d_Store___init__) rfl
theorem bd_Store___init__ {f : Addr} {fd : FuncData} (F : FunD K "__init__" "Store.__init__" (defArgs s_Store___init__) (defBody s_Store___init__) (defScope s_Store___init__) [] [] f fd) : ∃ ds, Vals [] ds ∧ L2.Binds K fd ["self", "many", "size"] ds := ⟨[], .nil, F.bindsN fun _ _ _ _ _ _ us hl => match us, hl with | [_, _, _], _ => rfl⟩
theorem TX.F_Store_need (G : TX K mg) : ∃ fd, FunD K "need" "Store.need" (defArgs s_Store_need) (defBody s_Store_need) (defScope s_Store_need) [] [] (He.ma K (He.ga K "Store") "need") fd := G.tk.says.def_ 23 (d := d_Store_need) rfl
theorem bd_Store_need {f : Addr} {fd : FuncData} (F : FunD K "need" "Store.need" (defArgs s_Store_need) (defBody s_Store_need) (defScope s_Store_need) [] [] f fd) : ∃ ds, Vals [] ds ∧ L2.Binds K fd ["self", "number"] ds := ⟨[], .nil, F.bindsN fun _ _ _ _ _ _ us hl => match us, hl with | [_, _], _ => rfl⟩
theorem TX.F_Store_need_place (G : TX K mg) : ∃ fd, FunD K "need_place" "Store.need_place" (defArgs s_Store_need_place) (defBody s_Store_need_place) (defScope s_Store_need_place) [] [] (He.ma K (He.ga K "Store") "need_place") fd := G.tk.says.def_ 24 (d := d_Store_need_place) rfl
theorem bd_Store_need_place {f : Addr} {fd : FuncData} (F : FunD K "need_place" "Store.need_place" (defArgs s_Store_need_place) (defBody s_Store_need_place) (defScope s_Store_need_place) [] [] f fd) : ∃ ds, Vals [] ds ∧ L2.Binds K fd ["self", "place"] ds := ⟨[], .nil, F.bindsN fun _ _ _ _ _ _ us hl => match us, hl with | [_, _], _ => rfl⟩
theorem TX.F_Store_made (G : TX K mg) : ∃ fd, FunD K "made" "Store.made" (defArgs s_Store_made) (defBody s_Store_made) (defScope s_Store_made) [.int 1] [] (He.ma K (He.ga K "Store") "made") fd := G.tk.says.def_ 25 (d := d_Store_made) rfl
theorem bd_Store_made {f : Addr} {fd : FuncData} (F : FunD K "made" "Store.made" (defArgs s_Store_made) (defBody s_Store_made) (defScope s_Store_made) [.int 1] [] f fd) : ∃ ds, Vals [] ds ∧ L2.Binds K fd ["self", "words", "count"] ds := F.binds1 3 1 (by simp) rfl fun _ _ _ _ _ _ _ us its hl hi => match us, its, hl, hi with | [_, _, _], [_], _, _ => ⟨_, rfl, rfl⟩
theorem bd_Store_made_d {f : Addr} {fd : FuncData} (F : FunD K "made" "Store.made" (defArgs s_Store_made) (defBody s_Store_made) (defScope s_Store_made) [.int 1] [] f fd) : ∃ ds, Vals [.int 1] ds ∧ L2.Binds K fd ["self", "words", "count"] ds := F.binds1 2 0 (by simp) rfl fun _ _ _ _ _ _ _ us its hl hi => match us, its, hl, hi with | [_, _], [_], _, _ => ⟨_, rfl, rfl⟩
theorem TX.F_Store_words (G : TX K mg) : ∃ fd, FunD K "words" "Store.words" (defArgs s_Store_words) (defBody s_Store_words) (defScope s_Store_words) [] [] (He.ma K (He.ga K "Store") "words") fd := G.tk.says.def_ 26 (d := d_Store_words) rfl
theorem bd_Store_words {f : Addr} {fd : FuncData} (F : FunD K "words" "Store.words" (defArgs s_Store_words) (defBody s_Store_words) (defScope s_Store_words) [] [] f fd) : ∃ ds, Vals [] ds ∧ L2.Binds K fd ["self", "number"] ds := ⟨[], .nil, F.bindsN fun _ _ _ _ _ _ us hl => match us, hl with | [_, _], _ => rfl⟩
theorem TX.F_Store_word (G : TX K mg) : ∃ fd, FunD K "word" "Store.word" (defArgs s_Store_word) (defBody s_Store_word) (defScope s_Store_word) [] [] (He.ma K (He.ga K "Store") "word") fd := G.tk.says.def_ 27 (d := d_Store_word) rfl
theorem bd_Store_word {f : Addr} {fd : FuncData} (F : FunD K "word" "Store.word" (defArgs s_Store_word) (defBody s_Store_word) (defScope s_Store_word) [] [] f fd) : ∃ ds, Vals [] ds ∧ L2.Binds K fd ["self", "number", "place"] ds := ⟨[], .nil, F.bindsN fun _ _ _ _ _ _ us hl => match us, hl with | [_, _, _], _ => rfl⟩
theorem TX.F_Store_put (G : TX K mg) : ∃ fd, FunD K "put" "Store.put" (defArgs s_Store_put) (defBody s_Store_put) (defScope s_Store_put) [] [] (He.ma K (He.ga K "Store") "put") fd := G.tk.says.def_ 28 (d := d_Store_put) rfl
theorem bd_Store_put {f : Addr} {fd : FuncData} (F : FunD K "put" "Store.put" (defArgs s_Store_put) (defBody s_Store_put) (defScope s_Store_put) [] [] f fd) : ∃ ds, Vals [] ds ∧ L2.Binds K fd ["self", "number", "place", "word"] ds := ⟨[], .nil, F.bindsN fun _ _ _ _ _ _ us hl => match us, hl with | [_, _, _, _], _ => rfl⟩
theorem TX.F_Store_more (G : TX K mg) : ∃ fd, FunD K "more" "Store.more" (defArgs s_Store_more) (defBody s_Store_more) (defScope s_Store_more) [] [] (He.ma K (He.ga K "Store") "more") fd := G.tk.says.def_ 29 (d := d_Store_more) rfl
theorem bd_Store_more {f : Addr} {fd : FuncData} (F : FunD K "more" "Store.more" (defArgs s_Store_more) (defBody s_Store_more) (defScope s_Store_more) [] [] f fd) : ∃ ds, Vals [] ds ∧ L2.Binds K fd ["self", "number"] ds := ⟨[], .nil, F.bindsN fun _ _ _ _ _ _ us hl => match us, hl with | [_, _], _ => rfl⟩
theorem TX.F_Store_less (G : TX K mg) : ∃ fd, FunD K "less" "Store.less" (defArgs s_Store_less) (defBody s_Store_less) (defScope s_Store_less) [] [] (He.ma K (He.ga K "Store") "less") fd := G.tk.says.def_ 30 (d := d_Store_less) rfl
theorem bd_Store_less {f : Addr} {fd : FuncData} (F : FunD K "less" "Store.less" (defArgs s_Store_less) (defBody s_Store_less) (defScope s_Store_less) [] [] f fd) : ∃ ds, Vals [] ds ∧ L2.Binds K fd ["self", "number"] ds := ⟨[], .nil, F.bindsN fun _ _ _ _ _ _ us hl => match us, hl with | [_, _], _ => rfl⟩
theorem TX.F_Store_gone (G : TX K mg) : ∃ fd, FunD K "gone" "Store.gone" (defArgs s_Store_gone) (defBody s_Store_gone) (defScope s_Store_gone) [] [] (He.ma K (He.ga K "Store") "gone") fd := G.tk.says.def_ 31 (d := d_Store_gone) rfl
theorem bd_Store_gone {f : Addr} {fd : FuncData} (F : FunD K "gone" "Store.gone" (defArgs s_Store_gone) (defBody s_Store_gone) (defScope s_Store_gone) [] [] f fd) : ∃ ds, Vals [] ds ∧ L2.Binds K fd ["self", "number"] ds := ⟨[], .nil, F.bindsN fun _ _ _ _ _ _ us hl => match us, hl with | [_, _], _ => rfl⟩
theorem TX.F_Store_counts (G : TX K mg) : ∃ fd, FunD K "counts" "Store.counts" (defArgs s_Store_counts) (defBody s_Store_counts) (defScope s_Store_counts) [] [] (He.ma K (He.ga K "Store") "counts") fd := G.tk.says.def_ 32 (d := d_Store_counts) rfl
theorem bd_Store_counts {f : Addr} {fd : FuncData} (F : FunD K "counts" "Store.counts" (defArgs s_Store_counts) (defBody s_Store_counts) (defScope s_Store_counts) [] [] f fd) : ∃ ds, Vals [] ds ∧ L2.Binds K fd ["self"] ds := ⟨[], .nil, F.bindsN fun _ _ _ _ _ _ us hl => match us, hl with | [_], _ => rfl⟩
theorem TX.F_Store_free (G : TX K mg) : ∃ fd, FunD K "free" "Store.free" (defArgs s_Store_free) (defBody s_Store_free) (defScope s_Store_free) [] [] (He.ma K (He.ga K "Store") "free") fd := G.tk.says.def_ 33 (d := d_Store_free) rfl
theorem bd_Store_free {f : Addr} {fd : FuncData} (F : FunD K "free" "Store.free" (defArgs s_Store_free) (defBody s_Store_free) (defScope s_Store_free) [] [] f fd) : ∃ ds, Vals [] ds ∧ L2.Binds K fd ["self"] ds := ⟨[], .nil, F.bindsN fun _ _ _ _ _ _ us hl => match us, hl with | [_], _ => rfl⟩
theorem TX.F_moved_by (G : TX K mg) : ∃ fd, FunD K "moved_by" "moved_by" (defArgs s_moved_by) (defBody s_moved_by) (defScope s_moved_by) [] [] (He.ga K "moved_by") fd := G.tk.says.def_ 34 (d := d_moved_by) rfl
theorem bd_moved_by {f : Addr} {fd : FuncData} (F : FunD K "moved_by" "moved_by" (defArgs s_moved_by) (defBody s_moved_by) (defScope s_moved_by) [] [] f fd) : ∃ ds, Vals [] ds ∧ L2.Binds K fd ["leaf", "moves"] ds := ⟨[], .nil, F.bindsN fun _ _ _ _ _ _ us hl => match us, hl with | [_, _], _ => rfl⟩
theorem TX.F_count_in (G : TX K mg) : ∃ fd, FunD K "count_in" "count_in" (defArgs s_count_in) (defBody s_count_in) (defScope s_count_in) [] [] (He.ga K "count_in") fd := G.tk.says.def_ 35 (d := d_count_in) rfl
theorem bd_count_in {f : Addr} {fd : FuncData} (F : FunD K "count_in" "count_in" (defArgs s_count_in) (defBody s_count_in) (defScope s_count_in) [] [] f fd) : ∃ ds, Vals [] ds ∧ L2.Binds K fd ["store", "room"] ds := ⟨[], .nil, F.bindsN fun _ _ _ _ _ _ us hl => match us, hl with | [_, _], _ => rfl⟩
theorem TX.F_Pool___init__ (G : TX K mg) : ∃ fd, FunD K "__init__" "Pool.__init__" (defArgs s_Pool___init__) (defBody s_Pool___init__) (defScope s_Pool___init__) [] [] (He.ma K (He.ga K "Pool") "__init__") fd := G.tk.says.def_ 36 (d := d_Pool___init__) rfl
theorem bd_Pool___init__ {f : Addr} {fd : FuncData} (F : FunD K "__init__" "Pool.__init__" (defArgs s_Pool___init__) (defBody s_Pool___init__) (defScope s_Pool___init__) [] [] f fd) : ∃ ds, Vals [] ds ∧ L2.Binds K fd ["self", "frames", "slots", "size"] ds := ⟨[], .nil, F.bindsN fun _ _ _ _ _ _ us hl => match us, hl with | [_, _, _, _], _ => rfl⟩
theorem TX.F_Pool_put_out (G : TX K mg) : ∃ fd, FunD K "put_out" "Pool.put_out" (defArgs s_Pool_put_out) (defBody s_Pool_put_out) (defScope s_Pool_put_out) [] [] (He.ma K (He.ga K "Pool") "put_out") fd := G.tk.says.def_ 37 (d := d_Pool_put_out) rfl
theorem bd_Pool_put_out {f : Addr} {fd : FuncData} (F : FunD K "put_out" "Pool.put_out" (defArgs s_Pool_put_out) (defBody s_Pool_put_out) (defScope s_Pool_put_out) [] [] f fd) : ∃ ds, Vals [] ds ∧ L2.Binds K fd ["self"] ds := ⟨[], .nil, F.bindsN fun _ _ _ _ _ _ us hl => match us, hl with | [_], _ => rfl⟩
theorem TX.F_Pool_brought (G : TX K mg) : ∃ fd, FunD K "brought" "Pool.brought" (defArgs s_Pool_brought) (defBody s_Pool_brought) (defScope s_Pool_brought) [] [] (He.ma K (He.ga K "Pool") "brought") fd := G.tk.says.def_ 38 (d := d_Pool_brought) rfl
theorem bd_Pool_brought {f : Addr} {fd : FuncData} (F : FunD K "brought" "Pool.brought" (defArgs s_Pool_brought) (defBody s_Pool_brought) (defScope s_Pool_brought) [] [] f fd) : ∃ ds, Vals [] ds ∧ L2.Binds K fd ["self", "words", "count", "moves"] ds := ⟨[], .nil, F.bindsN fun _ _ _ _ _ _ us hl => match us, hl with | [_, _, _, _], _ => rfl⟩
theorem TX.F_Pool_made (G : TX K mg) : ∃ fd, FunD K "made" "Pool.made" (defArgs s_Pool_made) (defBody s_Pool_made) (defScope s_Pool_made) [] [] (He.ma K (He.ga K "Pool") "made") fd := G.tk.says.def_ 39 (d := d_Pool_made) rfl
theorem bd_Pool_made {f : Addr} {fd : FuncData} (F : FunD K "made" "Pool.made" (defArgs s_Pool_made) (defBody s_Pool_made) (defScope s_Pool_made) [] [] f fd) : ∃ ds, Vals [] ds ∧ L2.Binds K fd ["self", "words"] ds := ⟨[], .nil, F.bindsN fun _ _ _ _ _ _ us hl => match us, hl with | [_, _], _ => rfl⟩
theorem TX.F_Pool_fetched (G : TX K mg) : ∃ fd, FunD K "fetched" "Pool.fetched" (defArgs s_Pool_fetched) (defBody s_Pool_fetched) (defScope s_Pool_fetched) [] [] (He.ma K (He.ga K "Pool") "fetched") fd := G.tk.says.def_ 40 (d := d_Pool_fetched) rfl
theorem bd_Pool_fetched {f : Addr} {fd : FuncData} (F : FunD K "fetched" "Pool.fetched" (defArgs s_Pool_fetched) (defBody s_Pool_fetched) (defScope s_Pool_fetched) [] [] f fd) : ∃ ds, Vals [] ds ∧ L2.Binds K fd ["self", "slot"] ds := ⟨[], .nil, F.bindsN fun _ _ _ _ _ _ us hl => match us, hl with | [_, _], _ => rfl⟩
theorem TX.F_Pool_word (G : TX K mg) : ∃ fd, FunD K "word" "Pool.word" (defArgs s_Pool_word) (defBody s_Pool_word) (defScope s_Pool_word) [] [] (He.ma K (He.ga K "Pool") "word") fd := G.tk.says.def_ 41 (d := d_Pool_word) rfl
theorem bd_Pool_word {f : Addr} {fd : FuncData} (F : FunD K "word" "Pool.word" (defArgs s_Pool_word) (defBody s_Pool_word) (defScope s_Pool_word) [] [] f fd) : ∃ ds, Vals [] ds ∧ L2.Binds K fd ["self", "frame", "place"] ds := ⟨[], .nil, F.bindsN fun _ _ _ _ _ _ us hl => match us, hl with | [_, _, _], _ => rfl⟩
theorem TX.F_Pool_put (G : TX K mg) : ∃ fd, FunD K "put" "Pool.put" (defArgs s_Pool_put) (defBody s_Pool_put) (defScope s_Pool_put) [] [] (He.ma K (He.ga K "Pool") "put") fd := G.tk.says.def_ 42 (d := d_Pool_put) rfl
theorem bd_Pool_put {f : Addr} {fd : FuncData} (F : FunD K "put" "Pool.put" (defArgs s_Pool_put) (defBody s_Pool_put) (defScope s_Pool_put) [] [] f fd) : ∃ ds, Vals [] ds ∧ L2.Binds K fd ["self", "frame", "place", "word"] ds := ⟨[], .nil, F.bindsN fun _ _ _ _ _ _ us hl => match us, hl with | [_, _, _, _], _ => rfl⟩
theorem TX.F_Pool_more (G : TX K mg) : ∃ fd, FunD K "more" "Pool.more" (defArgs s_Pool_more) (defBody s_Pool_more) (defScope s_Pool_more) [] [] (He.ma K (He.ga K "Pool") "more") fd := G.tk.says.def_ 43 (d := d_Pool_more) rfl
theorem bd_Pool_more {f : Addr} {fd : FuncData} (F : FunD K "more" "Pool.more" (defArgs s_Pool_more) (defBody s_Pool_more) (defScope s_Pool_more) [] [] f fd) : ∃ ds, Vals [] ds ∧ L2.Binds K fd ["self", "leaf"] ds := ⟨[], .nil, F.bindsN fun _ _ _ _ _ _ us hl => match us, hl with | [_, _], _ => rfl⟩
theorem TX.F_Pool_less (G : TX K mg) : ∃ fd, FunD K "less" "Pool.less" (defArgs s_Pool_less) (defBody s_Pool_less) (defScope s_Pool_less) [] [] (He.ma K (He.ga K "Pool") "less") fd := G.tk.says.def_ 44 (d := d_Pool_less) rfl
theorem bd_Pool_less {f : Addr} {fd : FuncData} (F : FunD K "less" "Pool.less" (defArgs s_Pool_less) (defBody s_Pool_less) (defScope s_Pool_less) [] [] f fd) : ∃ ds, Vals [] ds ∧ L2.Binds K fd ["self", "leaf"] ds := ⟨[], .nil, F.bindsN fun _ _ _ _ _ _ us hl => match us, hl with | [_, _], _ => rfl⟩
theorem TX.F_Pool_words (G : TX K mg) : ∃ fd, FunD K "words" "Pool.words" (defArgs s_Pool_words) (defBody s_Pool_words) (defScope s_Pool_words) [] [] (He.ma K (He.ga K "Pool") "words") fd := G.tk.says.def_ 45 (d := d_Pool_words) rfl
theorem bd_Pool_words {f : Addr} {fd : FuncData} (F : FunD K "words" "Pool.words" (defArgs s_Pool_words) (defBody s_Pool_words) (defScope s_Pool_words) [] [] f fd) : ∃ ds, Vals [] ds ∧ L2.Binds K fd ["self", "leaf"] ds := ⟨[], .nil, F.bindsN fun _ _ _ _ _ _ us hl => match us, hl with | [_, _], _ => rfl⟩
theorem TX.F_Pool_count (G : TX K mg) : ∃ fd, FunD K "count" "Pool.count" (defArgs s_Pool_count) (defBody s_Pool_count) (defScope s_Pool_count) [] [] (He.ma K (He.ga K "Pool") "count") fd := G.tk.says.def_ 46 (d := d_Pool_count) rfl
theorem bd_Pool_count {f : Addr} {fd : FuncData} (F : FunD K "count" "Pool.count" (defArgs s_Pool_count) (defBody s_Pool_count) (defScope s_Pool_count) [] [] f fd) : ∃ ds, Vals [] ds ∧ L2.Binds K fd ["self", "leaf"] ds := ⟨[], .nil, F.bindsN fun _ _ _ _ _ _ us hl => match us, hl with | [_, _], _ => rfl⟩
theorem TX.F_Pool_frames (G : TX K mg) : ∃ fd, FunD K "frames" "Pool.frames" (defArgs s_Pool_frames) (defBody s_Pool_frames) (defScope s_Pool_frames) [] [] (He.ma K (He.ga K "Pool") "frames") fd := G.tk.says.def_ 47 (d := d_Pool_frames) rfl
theorem bd_Pool_frames {f : Addr} {fd : FuncData} (F : FunD K "frames" "Pool.frames" (defArgs s_Pool_frames) (defBody s_Pool_frames) (defScope s_Pool_frames) [] [] f fd) : ∃ ds, Vals [] ds ∧ L2.Binds K fd ["self"] ds := ⟨[], .nil, F.bindsN fun _ _ _ _ _ _ us hl => match us, hl with | [_], _ => rfl⟩
theorem TX.F_Pool_slots (G : TX K mg) : ∃ fd, FunD K "slots" "Pool.slots" (defArgs s_Pool_slots) (defBody s_Pool_slots) (defScope s_Pool_slots) [] [] (He.ma K (He.ga K "Pool") "slots") fd := G.tk.says.def_ 48 (d := d_Pool_slots) rfl
theorem bd_Pool_slots {f : Addr} {fd : FuncData} (F : FunD K "slots" "Pool.slots" (defArgs s_Pool_slots) (defBody s_Pool_slots) (defScope s_Pool_slots) [] [] f fd) : ∃ ds, Vals [] ds ∧ L2.Binds K fd ["self"] ds := ⟨[], .nil, F.bindsN fun _ _ _ _ _ _ us hl => match us, hl with | [_], _ => rfl⟩
theorem TX.F_Pool_marks (G : TX K mg) : ∃ fd, FunD K "marks" "Pool.marks" (defArgs s_Pool_marks) (defBody s_Pool_marks) (defScope s_Pool_marks) [] [] (He.ma K (He.ga K "Pool") "marks") fd := G.tk.says.def_ 49 (d := d_Pool_marks) rfl
theorem bd_Pool_marks {f : Addr} {fd : FuncData} (F : FunD K "marks" "Pool.marks" (defArgs s_Pool_marks) (defBody s_Pool_marks) (defScope s_Pool_marks) [] [] f fd) : ∃ ds, Vals [] ds ∧ L2.Binds K fd ["self"] ds := ⟨[], .nil, F.bindsN fun _ _ _ _ _ _ us hl => match us, hl with | [_], _ => rfl⟩
theorem TX.F_Pool_room (G : TX K mg) : ∃ fd, FunD K "room" "Pool.room" (defArgs s_Pool_room) (defBody s_Pool_room) (defScope s_Pool_room) [] [] (He.ma K (He.ga K "Pool") "room") fd := G.tk.says.def_ 50 (d := d_Pool_room) rfl
theorem bd_Pool_room {f : Addr} {fd : FuncData} (F : FunD K "room" "Pool.room" (defArgs s_Pool_room) (defBody s_Pool_room) (defScope s_Pool_room) [] [] f fd) : ∃ ds, Vals [] ds ∧ L2.Binds K fd ["self"] ds := ⟨[], .nil, F.bindsN fun _ _ _ _ _ _ us hl => match us, hl with | [_], _ => rfl⟩
theorem TX.F__law_cell_at (G : TX K mg) : ∃ fd, FunD K "_law_cell_at" "_law_cell_at" (defArgs s__law_cell_at) (defBody s__law_cell_at) (defScope s__law_cell_at) [] [] (He.ga K "_law_cell_at") fd := G.tk.says.def_ 51 (d := d__law_cell_at) rfl
theorem bd__law_cell_at {f : Addr} {fd : FuncData} (F : FunD K "_law_cell_at" "_law_cell_at" (defArgs s__law_cell_at) (defBody s__law_cell_at) (defScope s__law_cell_at) [] [] f fd) : ∃ ds, Vals [] ds ∧ L2.Binds K fd ["_law_script", "_law_k"] ds := ⟨[], .nil, F.bindsN fun _ _ _ _ _ _ us hl => match us, hl with | [_, _], _ => rfl⟩
theorem TX.F__law_words (G : TX K mg) : ∃ fd, FunD K "_law_words" "_law_words" (defArgs s__law_words) (defBody s__law_words) (defScope s__law_words) [] [] (He.ga K "_law_words") fd := G.tk.says.def_ 52 (d := d__law_words) rfl
theorem bd__law_words {f : Addr} {fd : FuncData} (F : FunD K "_law_words" "_law_words" (defArgs s__law_words) (defBody s__law_words) (defScope s__law_words) [] [] f fd) : ∃ ds, Vals [] ds ∧ L2.Binds K fd ["_law_cell", "_law_size"] ds := ⟨[], .nil, F.bindsN fun _ _ _ _ _ _ us hl => match us, hl with | [_, _], _ => rfl⟩
theorem TX.F__law_moved (G : TX K mg) : ∃ fd, FunD K "_law_moved" "_law_moved" (defArgs s__law_moved) (defBody s__law_moved) (defScope s__law_moved) [] [] (He.ga K "_law_moved") fd := G.tk.says.def_ 53 (d := d__law_moved) rfl
theorem bd__law_moved {f : Addr} {fd : FuncData} (F : FunD K "_law_moved" "_law_moved" (defArgs s__law_moved) (defBody s__law_moved) (defScope s__law_moved) [] [] f fd) : ∃ ds, Vals [] ds ∧ L2.Binds K fd ["_law_kept", "_law_moves"] ds := ⟨[], .nil, F.bindsN fun _ _ _ _ _ _ us hl => match us, hl with | [_, _], _ => rfl⟩
theorem TX.F__law_made (G : TX K mg) : ∃ fd, FunD K "_law_made" "_law_made" (defArgs s__law_made) (defBody s__law_made) (defScope s__law_made) [] [] (He.ga K "_law_made") fd := G.tk.says.def_ 54 (d := d__law_made) rfl
theorem bd__law_made {f : Addr} {fd : FuncData} (F : FunD K "_law_made" "_law_made" (defArgs s__law_made) (defBody s__law_made) (defScope s__law_made) [] [] f fd) : ∃ ds, Vals [] ds ∧ L2.Binds K fd ["_law_pool", "_law_kept", "_law_words_here"] ds := ⟨[], .nil, F.bindsN fun _ _ _ _ _ _ us hl => match us, hl with | [_, _, _], _ => rfl⟩
theorem TX.F__law_fetched (G : TX K mg) : ∃ fd, FunD K "_law_fetched" "_law_fetched" (defArgs s__law_fetched) (defBody s__law_fetched) (defScope s__law_fetched) [] [] (He.ga K "_law_fetched") fd := G.tk.says.def_ 55 (d := d__law_fetched) rfl
theorem bd__law_fetched {f : Addr} {fd : FuncData} (F : FunD K "_law_fetched" "_law_fetched" (defArgs s__law_fetched) (defBody s__law_fetched) (defScope s__law_fetched) [] [] f fd) : ∃ ds, Vals [] ds ∧ L2.Binds K fd ["_law_pool", "_law_kept", "_law_row"] ds := ⟨[], .nil, F.bindsN fun _ _ _ _ _ _ us hl => match us, hl with | [_, _, _], _ => rfl⟩
theorem TX.F__law_put (G : TX K mg) : ∃ fd, FunD K "_law_put" "_law_put" (defArgs s__law_put) (defBody s__law_put) (defScope s__law_put) [] [] (He.ga K "_law_put") fd := G.tk.says.def_ 56 (d := d__law_put) rfl
theorem bd__law_put {f : Addr} {fd : FuncData} (F : FunD K "_law_put" "_law_put" (defArgs s__law_put) (defBody s__law_put) (defScope s__law_put) [] [] f fd) : ∃ ds, Vals [] ds ∧ L2.Binds K fd ["_law_pool", "_law_row", "_law_cell", "_law_size"] ds := ⟨[], .nil, F.bindsN fun _ _ _ _ _ _ us hl => match us, hl with | [_, _, _, _], _ => rfl⟩
theorem TX.F__law_done (G : TX K mg) : ∃ fd, FunD K "_law_done" "_law_done" (defArgs s__law_done) (defBody s__law_done) (defScope s__law_done) [] [] (He.ga K "_law_done") fd := G.tk.says.def_ 57 (d := d__law_done) rfl
theorem bd__law_done {f : Addr} {fd : FuncData} (F : FunD K "_law_done" "_law_done" (defArgs s__law_done) (defBody s__law_done) (defScope s__law_done) [] [] f fd) : ∃ ds, Vals [] ds ∧ L2.Binds K fd ["_law_pool", "_law_kept", "_law_cell", "_law_size"] ds := ⟨[], .nil, F.bindsN fun _ _ _ _ _ _ us hl => match us, hl with | [_, _, _, _], _ => rfl⟩
theorem TX.F__law_state (G : TX K mg) : ∃ fd, FunD K "_law_state" "_law_state" (defArgs s__law_state) (defBody s__law_state) (defScope s__law_state) [] [] (He.ga K "_law_state") fd := G.tk.says.def_ 58 (d := d__law_state) rfl
theorem bd__law_state {f : Addr} {fd : FuncData} (F : FunD K "_law_state" "_law_state" (defArgs s__law_state) (defBody s__law_state) (defScope s__law_state) [] [] f fd) : ∃ ds, Vals [] ds ∧ L2.Binds K fd ["_law_pool", "_law_kept", "_law_many", "_law_slots"] ds := ⟨[], .nil, F.bindsN fun _ _ _ _ _ _ us hl => match us, hl with | [_, _, _, _], _ => rfl⟩
theorem TX.F__law_mixed (G : TX K mg) : ∃ fd, FunD K "_law_mixed" "_law_mixed" (defArgs s__law_mixed) (defBody s__law_mixed) (defScope s__law_mixed) [] [] (He.ga K "_law_mixed") fd := G.tk.says.def_ 59 (d := d__law_mixed) rfl
theorem bd__law_mixed {f : Addr} {fd : FuncData} (F : FunD K "_law_mixed" "_law_mixed" (defArgs s__law_mixed) (defBody s__law_mixed) (defScope s__law_mixed) [] [] f fd) : ∃ ds, Vals [] ds ∧ L2.Binds K fd ["_law_raw"] ds := ⟨[], .nil, F.bindsN fun _ _ _ _ _ _ us hl => match us, hl with | [_], _ => rfl⟩
theorem TX.F_law (G : TX K mg) : ∃ fd, FunD K "law" "law" (defArgs s_law) (defBody s_law) (defScope s_law) [] [] (He.ga K "law") fd := G.tk.says.def_ 60 (d := d_law) rfl
theorem bd_law {f : Addr} {fd : FuncData} (F : FunD K "law" "law" (defArgs s_law) (defBody s_law) (defScope s_law) [] [] f fd) : ∃ ds, Vals [] ds ∧ L2.Binds K fd ["_law_script"] ds := ⟨[], .nil, F.bindsN fun _ _ _ _ _ _ us hl => match us, hl with | [_], _ => rfl⟩
end
/-! ### leaves -/
inductive Lf where
  | fresh (r : Int) | held (r f : Int) | out (r s : Int) | named (r : Int) (n : Str) (p : Int)
  deriving DecidableEq
abbrev Lf.cls : Lf → Str
  | .fresh _ => "Fresh" | .held _ _ => "Held" | .out _ _ => "Out" | .named _ _ _ => "Named"
abbrev Lf.fs : Lf → List (Str × V)
  | .fresh r => [("rights", .int r)] | .held r f => [("rights", .int r), ("frame", .int f)] | .out r s => [("rights", .int r), ("slot", .int s)] | .named r n p => [("rights", .int r), ("name", .str n), ("part", .int p)]
def Lf.rights : Lf → Int
  | .fresh r => r | .held r _ => r | .out r _ => r | .named r _ _ => r
/-- the kinds that this text has -/
def kindOk : Lf → Bool
  | .fresh _ => false
  | .held _ _ => true
  | .out _ _ => true
  | .named _ _ _ => false
structure LeafAt (K : PySem.W.Frag) (W : Wd) (a : Addr) (lf : Lf) : Prop where
  k : kindOk lf = true
  o : ∃ dx, At W none a (.ins (He.ga K lf.cls) dx lf.fs)
theorem LeafAt.step {K : PySem.W.Frag} {W W' : Wd} {a : Addr} {lf : Lf} {S : Addr → Option Rl → Prop} (c : LeafAt K W a lf) (s : Step S W W') (h : ¬ S a none) : LeafAt K W' a lf := ⟨c.k, let ⟨dx, o⟩ := c.o; ⟨dx, o.step s h⟩⟩
def Lf.isHeld : Lf → Bool
  | .fresh _ => false
  | .held _ _ => true
  | .out _ _ => false
  | .named _ _ _ => false
theorem lf_isHeld' {K : PySem.W.Frag} {mg : Str → Option Value} (G : TX K mg) {W : Wd} {a : Addr} : ∀ (lf : Lf) (k : kindOk lf = true) (dx : Addr) (o : At W none a (.ins (He.ga K lf.cls) dx lf.fs)), ∃ t, TyX K W.H (.ref a) t ∧ PySem.W.kitOne K t (.ref (He.ga K "Held")) = some lf.isHeld
  | .fresh _, k, _, _ => Bool.noConfusion (show false = true from k)
  | .held _ _, _, dx, o => ⟨_, ins_ty G.ins_Held G.c_Held o.h, G.kit_Held_Held⟩
  | .out _ _, _, dx, o => ⟨_, ins_ty G.ins_Out G.c_Out o.h, G.kit_Out_Held⟩
  | .named _ _ _, k, _, _ => Bool.noConfusion (show false = true from k)
theorem lf_isHeld {K : PySem.W.Frag} {mg : Str → Option Value} (G : TX K mg) {W : Wd} {a : Addr} {lf : Lf} (h : LeafAt K W a lf) : ∃ t, TyX K W.H (.ref a) t ∧ PySem.W.kitOne K t (.ref (He.ga K "Held")) = some lf.isHeld := let ⟨dx, o⟩ := h.o; lf_isHeld' G lf h.k dx o
def Lf.isOut : Lf → Bool
  | .fresh _ => false
  | .held _ _ => false
  | .out _ _ => true
  | .named _ _ _ => false
theorem lf_isOut' {K : PySem.W.Frag} {mg : Str → Option Value} (G : TX K mg) {W : Wd} {a : Addr} : ∀ (lf : Lf) (k : kindOk lf = true) (dx : Addr) (o : At W none a (.ins (He.ga K lf.cls) dx lf.fs)), ∃ t, TyX K W.H (.ref a) t ∧ PySem.W.kitOne K t (.ref (He.ga K "Out")) = some lf.isOut
  | .fresh _, k, _, _ => Bool.noConfusion (show false = true from k)
  | .held _ _, _, dx, o => ⟨_, ins_ty G.ins_Held G.c_Held o.h, G.kit_Held_Out⟩
  | .out _ _, _, dx, o => ⟨_, ins_ty G.ins_Out G.c_Out o.h, G.kit_Out_Out⟩
  | .named _ _ _, k, _, _ => Bool.noConfusion (show false = true from k)
theorem lf_isOut {K : PySem.W.Frag} {mg : Str → Option Value} (G : TX K mg) {W : Wd} {a : Addr} {lf : Lf} (h : LeafAt K W a lf) : ∃ t, TyX K W.H (.ref a) t ∧ PySem.W.kitOne K t (.ref (He.ga K "Out")) = some lf.isOut := let ⟨dx, o⟩ := h.o; lf_isOut' G lf h.k dx o
abbrev xc (K : PySem.W.Frag) (n : Str) : Value := .ref (He.ga K n)
abbrev cc (K : PySem.W.Frag) (n : Str) : Addr := He.ga K n
theorem cxOf_K {CX : CXT} {P : Program} {w : World} {K : PySem.W.Frag} {mg : Str → Option Value} {base : Heap} {N : List Str} {qual : Str} {scope : Scope} {f : Addr} {cd : Value} {A : Around} {outer : List Env} {s : Shared} {H : Hp} {E : XK} : (cxOf CX P w K mg base N qual scope f cd A outer s H E).K = K := rfl
/-- only objects of the role r -/
abbrev SR (r : Option Rl) : Addr → Option Rl → Prop := fun _ x => x = r
def Res {α : Type} (o : Option α) (f : α → Prop) (g : Prop) : Prop := (∀ x, o = some x → f x) ∧ (o = none → g)
theorem SR.of {W W' : Wd} {r : Option Rl} {a : Addr} {o : HO} (x : At W r a o) (s : Step (SAt a) W W') : Step (SR r) W W' := s.mono fun b r' _ e h => by
  subst h; rw [x.g] at e; exact e.symm
/-- the item at a place, if there is one -/
def atZ {α : Type} (ts : List α) (n : Int) : Option α := if 0 ≤ n ∧ n < ts.length then ts[n.toNat]? else none
theorem atZ_atI {α : Type} {ts : List α} {n : Int} {c : α} (h : atZ ts n = some c) : atI ts n = some c := by
  unfold atZ at h
  split at h
  · rename_i hh
    unfold atI ixN
    rw [if_pos hh.1, if_pos hh.2]
    exact h
  · cases h
theorem atZ_map {α β : Type} (f : α → β) (ts : List α) (n : Int) : atZ (ts.map f) n = (atZ ts n).map f := by
  unfold atZ
  rw [List.length_map]
  split
  · rw [List.getElem?_map]
  · rfl
theorem atZ_none {α : Type} {ts : List α} {n : Int} : atZ ts n = none ↔ ¬ (0 ≤ n ∧ n < ts.length) := by
  unfold atZ
  constructor
  · intro h hh
    rw [if_pos hh, List.getElem?_eq_none_iff] at h
    omega
  · intro h
    rw [if_neg h]
theorem atZ_some {α : Type} {ts : List α} {n : Int} {c : α} (h : atZ ts n = some c) : 0 ≤ n ∧ n < ts.length ∧ ts[n.toNat]? = some c := by
  unfold atZ at h
  split at h
  · rename_i hh; exact ⟨hh.1, hh.2, h⟩
  · cases h
theorem atZ_mapV {α : Type} {f : α → V} {ts : List α} {n : Int} {c : α} (h : atZ ts n = some c) : atI (ts.map f) n = some (f c) := atZ_atI (by rw [atZ_map, h]; rfl)
theorem atZ_ix {α : Type} {ts : List α} {n : Int} {c : α} (h : atZ ts n = some c) : ixN ts.length n = some n.toNat := by
  obtain ⟨h1, h2, _⟩ := atZ_some h
  unfold ixN
  rw [if_pos h1, if_pos h2]
theorem atZ_ixM {α : Type} {f : α → V} {ts : List α} {n : Int} {c : α} (h : atZ ts n = some c) : ixN (ts.map f).length n = some n.toNat := by
  rw [List.length_map]; exact atZ_ix h
theorem pow64 : (2 : Int) ^ (64 : Int).toNat = 18446744073709551616 := by decide
theorem Step.n1 {S : Addr → Option Rl → Prop} {W W1 W2 : Wd} (a : Step SNone W W1) (b : Step S W1 W2) : Step S W W2 := Step.comp a b (fun _ _ _ _ (z : False) => z.elim) fun _ _ _ _ q => q
theorem Step.n2 {S : Addr → Option Rl → Prop} {W W1 W2 : Wd} (a : Step S W W1) (b : Step SNone W1 W2) : Step S W W2 := Step.comp a b (fun _ _ _ _ q => q) fun _ _ _ _ (z : False) => z.elim

local macro_rules | `(tactic| walk_at "no") => `(tactic| first | (intro h; exact h) | (intro h; exact absurd h Bool.false_ne_true) | (intro h; cases h; done) | (intro h; simp at h; done) | assumption)
local macro_rules | `(tactic| walk_at "at") => `(tactic| first | assumption | (refine At.step ?_ (by assumption) ?_; (walk_at "at"); (walk_at "no")))
local macro_rules | `(tactic| walk_at "sq") => `(tactic| first | exact SqL.of (At.h (by walk_at "at")) | exact SqT.of (At.h (by walk_at "at")) | assumption)
local macro_rules | `(tactic| walk_at "ev") => `(tactic| first
  | exact v_c
  | exact v_var rfl
  | (apply v_fld; (walk_at "ev"); (walk_at "at"); exact inferInstance; rfl)
  | (apply v_I0; (walk_at "ev"); (walk_at "ev"))
  | (apply v_eq; (walk_at "ev"); (walk_at "ev"); rfl)
  | (apply v_ne; (walk_at "ev"); (walk_at "ev"); rfl)
  | (apply v_len; (walk_at "ev"); exact len_l (by walk_at "at"))
  | (apply v_chain; (walk_at "ev"); (walk_at "ev"); (walk_at "ev"))
  | (apply v_ixL; (walk_at "ev"); (walk_at "ev"); (walk_at "at"); first | assumption | rfl)
  | (apply v_ixT; (walk_at "ev"); (walk_at "ev"); (walk_at "at"); first | assumption | rfl)
  | (apply v_isN; (walk_at "ev"))
  | (apply v_notN; (walk_at "ev"))
  | (apply v_isiI; (walk_at "ev"); (first | decide +kernel | rfl))
  | (apply v_I; (walk_at "ev"); (walk_at "ev"); first | assumption | decide | omega | exact ⟨by decide, by decide, by decide⟩))
local macro_rules | `(tactic| walk_at "ts") => `(tactic| first
  | (apply s_test; (walk_at "ev"))
  | (apply s_not; (walk_at "ts"))
  | (apply s_B; (walk_at "ev"))
  | (apply s_and; (walk_at "ts"); (intro _; (walk_at "ts")))
  | (apply s_or; (walk_at "ts"); (intro _; (walk_at "ts"))))
/-- one statement, or one step into it -/
local macro_rules | `(tactic| walk_at "go1") => `(tactic| first
  | refine k_seq ?_
  | refine k_next ?_
  | refine k_retN ?_
  | (refine k_ret (g_v (by walk_at "ev") ?_))
  | (refine k_set (g_v (by walk_at "ev") ?_))
  | refine k_ret ?_
  | refine k_set ?_
  | refine k_drop ?_
  | refine g_lst ?_
  | refine g_tup ?_
  | (refine g_cons (g_v (by walk_at "ev") ?_))
  | refine g_cons ?_
  | refine g_nil ?_)
local macro_rules | `(tactic| walk_at "go") => `(tactic| repeat (walk_at "go1"))

/-! ### Counts -/
structure CountsAt (K : PySem.W.Frag) (W : Wd) (r : Option Rl) (p l : Addr) (ts : List Int) : Prop where
  o : ∃ dx, At W none p (.ins (cc K "Counts") dx [("tally", .ref l)])
  t : At W r l (.lst (ts.map V.int))
  n : ts.length ≤ 64
theorem CountsAt.step {K : PySem.W.Frag} {W W' : Wd} {r : Option Rl} {p l : Addr} {ts : List Int} {S : Addr → Option Rl → Prop} (c : CountsAt K W r p l ts) (s : Step S W W') (h1 : ¬ S p none) (h2 : ¬ S l r) : CountsAt K W' r p l ts :=
  ⟨let ⟨dx, o⟩ := c.o; ⟨dx, o.step s h1⟩, c.t.step s h2, c.n⟩
/-- another tally -/
theorem CountsAt.put {K : PySem.W.Frag} {W W' : Wd} {r : Option Rl} {p l : Addr} {ts ts' : List Int} (c : CountsAt K W r p l ts) (hr : r ≠ none) (s : Step (SAt l) W W') (a : At W' r l (.lst (ts'.map V.int))) (n : ts'.length ≤ 64) : CountsAt K W' r p l ts' :=
  ⟨let ⟨dx, o⟩ := c.o; ⟨dx, o.step s fun e => by
    have := c.t.ne o hr
    exact this e.symm⟩, a, n⟩
def usedZ (ts : List Int) (n : Int) : Option Int := (atZ ts n).bind fun c => if c = 0 then none else some c
theorem usedZ_some {ts : List Int} {n c : Int} (h : usedZ ts n = some c) : atZ ts n = some c ∧ c ≠ 0 := by
  unfold usedZ at h
  cases e : atZ ts n with
  | none => rw [e] at h; cases h
  | some d =>
    rw [e] at h
    have h' : (if d = 0 then none else some d) = some c := h
    split at h'
    · cases h'
    · rename_i hd
      cases h'
      exact ⟨rfl, hd⟩
theorem usedZ_none {ts : List Int} {n : Int} (h : usedZ ts n = none) : atZ ts n = none ∨ atZ ts n = some 0 := by
  unfold usedZ at h
  cases e : atZ ts n with
  | none => exact .inl rfl
  | some d =>
    rw [e] at h
    have h' : (if d = 0 then none else some d) = none := h
    split at h'
    · rename_i hd; rw [hd]; exact .inr rfl
    · cases h'
theorem usedZ_of {ts : List Int} {n c : Int} (h : atZ ts n = some c) (hc : c ≠ 0) : usedZ ts n = some c := by
  unfold usedZ; rw [h]; exact if_neg hc
theorem usedZ_no {ts : List Int} {n : Int} (h : atZ ts n = some 0) : usedZ ts n = none := by
  unfold usedZ; rw [h]; rfl
theorem usedZ_no0 {ts : List Int} {n : Int} (h : atZ ts n = none) : usedZ ts n = none := by
  unfold usedZ; rw [h]; rfl
def firstZ (ts : List Int) : Option Nat := ts.findIdx? (· == 0)
theorem map_set' {α β : Type} (f : α → β) (ts : List α) (i : Nat) (c : α) : (ts.map f).set i (f c) = (ts.set i c).map f := by
  rw [List.map_set]
def sp_Counts___init__ (K : PySem.W.Frag) : Sp := Sp2 fun a b H Q E => ∃ W r p dx n, r ≠ none ∧ H = Wd.H W ∧ a = .ref p ∧ b = .int n ∧ At W none p (.ins (cc K "Counts") dx []) ∧
  (¬ (0 ≤ n ∧ n ≤ 64) → E (xc K "NoShape") none W.H) ∧ (0 ≤ n ∧ n ≤ 64 → ∀ W' l, W.H l = none → Step (SAt p) W W' → CountsAt K W' r p l (List.replicate n.toNat 0) → Q .non W'.H)
section
variable {P : Program} {w : World} {K : PySem.W.Frag} {mg : Str → Option Value} {base : Heap}
theorem body_Counts___init__ (G : TX K mg) {fd : FuncData} {f : Addr} : BodyOk P w K mg base 0 ["self", "many"] "Counts.__init__" (defScope s_Counts___init__) f (defBody s_Counts___init__) (sp_Counts___init__ K) := by
  have iT : TK K := G.tk
  rintro cdv A outer s H vs Q E hr tk po ⟨_, _, rfl, W, r, p, dx, n, hr0, rfl, rfl, rfl, o, kE, kQ⟩
  have hu := hu_of hr
  refine ⟨_, (pss_cons (ps_if (pt_not (pt_chain op_le op_le pe_int (pv 1) (pe_ci G.i_MOST_NUMBERS))) (pss_one (ps_raise rfl tk (ok_raise_NoShape G))) pss_nil)
        (pss_one (ps_fld (pv 0) (pe_op op_rep (pe_lst (pa_cons pe_int pa_nil)) (pv 1)) rfl))), ?_⟩
  try simp only [cxOf_K]
  refine k_seq (k_ifT (by walk_at "ts") (fun h => ?_) (fun h => ?_))
  · refine kE ?_
    simp at h
    omega
  · simp at h
    refine k_next (k_fld (g_op (g_lst (g_cons (g_c (g_nil (new_l rfl fun l0 W1 n1 a1 s1 => ?_)))))))
    refine g_v (by walk_at "ev") (g_rep r a1 h.1 (by omega) fun l W2 n2 a2 s2 => ?_)
    refine g_v (by walk_at "ev") (g_setF (r := none) (by walk_at "at") inferInstance rfl fun W3 a3 s3 => ?_)
    have nl : W.H l = none := s1.live _ n2
    have a4 := a2.step s3 fun e => (a2.ne (At.step (At.step o s1 (by walk_at "no")) s2 (by walk_at "no")) hr0) e
    refine kQ h W3 l nl (s1.n1 (s2.n1 s3)) ⟨⟨dx, a3⟩, ?_, by simp; omega⟩
    rw [List.map_replicate]
    exact a4
theorem ok_Counts_make (G : TX K mg) : MakX P w K mg base 1 "Counts" (cc K "Counts") (sp_Counts___init__ K) [] := let ⟨fd, F⟩ := G.F_Counts___init__; mak_by G.g_Counts G.k_Counts F (bd_Counts___init__ F) sc_Counts___init__ Sp2.len (body_Counts___init__ G (fd := fd))
end

def sp_Counts_of (K : PySem.W.Frag) : Sp := Sp2 fun a b H Q E => ∃ W r p l ts n, H = Wd.H W ∧ a = .ref p ∧ b = .int n ∧ CountsAt K W r p l ts ∧
  Res (atZ ts n) (fun c => Q (.int c) W.H) (E (xc K "NoNumber") none W.H)
section
variable {P : Program} {w : World} {K : PySem.W.Frag} {mg : Str → Option Value} {base : Heap}
theorem body_Counts_of (G : TX K mg) {fd : FuncData} {f : Addr} : BodyOk P w K mg base 0 ["self", "number"] "Counts.of" (defScope s_Counts_of) f (defBody s_Counts_of) (sp_Counts_of K) := by
  have iT : TK K := G.tk
  rintro cdv A outer s H vs Q E hr tk po ⟨_, _, rfl, W, r, p, l, ts, n, rfl, rfl, rfl, ⟨⟨dx, o⟩, t, hn⟩, kQ, kE⟩
  have hu := hu_of hr
  refine ⟨_, (pss_cons (ps_if (pt_not (pt_chain op_le op_lt pe_int (pv 1) (pe_callB call_len (by rfl) G.b_len (by decide +kernel) (pa_cons (pe_fld (pv 0) rfl) pa_nil)))) (pss_one (ps_raise rfl tk (ok_raise_NoNumber G))) pss_nil)
        (pss_one (ps_ret (pe_ix ix_seq (pe_fld (pv 0) rfl) (pv 1) (fun _ _ => rfl))))), ?_⟩
  try simp only [cxOf_K]
  refine k_seq (k_ifT (by walk_at "ts") (fun h => ?_) (fun h => ?_))
  · refine kE ?_
    rw [atZ_none]
    simp at h ⊢
    omega
  · obtain ⟨c, hc⟩ : ∃ c, atZ ts n = some c := by
      cases e : atZ ts n with
      | some c => exact ⟨c, rfl⟩
      | none =>
        rw [atZ_none] at e
        simp at h
        omega
    have hx := atZ_mapV (f := V.int) hc
    exact k_next (k_ret (g_v (by walk_at "ev") (kQ c hc)))
theorem ok_Counts_of (G : TX K mg) : MetX P w K mg base 1 (cc K "Counts") "of" (sp_Counts_of K) [] := let ⟨fd, F⟩ := G.F_Counts_of; met_by G.c_Counts G.m_Counts_of F (bd_Counts_of F) sc_Counts_of Sp2.len (body_Counts_of G (fd := fd))
end

def sp_Counts_used (K : PySem.W.Frag) : Sp := Sp2 fun a b H Q E => ∃ W r p l ts n, H = Wd.H W ∧ a = .ref p ∧ b = .int n ∧ CountsAt K W r p l ts ∧
  Res (usedZ ts n) (fun c => Q (.int c) W.H) (E (xc K "NoNumber") none W.H)
section
variable {P : Program} {w : World} {K : PySem.W.Frag} {mg : Str → Option Value} {base : Heap}
theorem body_Counts_used (G : TX K mg) {fd : FuncData} {f : Addr} : BodyOk P w K mg base 1 ["self", "number", "count"] "Counts.used" (defScope s_Counts_used) f (defBody s_Counts_used) (sp_Counts_used K) := by
  have iT : TK K := G.tk
  rintro cdv A outer s H vs Q E hr tk po ⟨_, _, rfl, W, r, p, l, ts, n, rfl, rfl, rfl, C, kQ, kE⟩
  have hu := hu_of hr
  refine ⟨_, (pss_cons (ps_set (i := 2) sc_Counts_used.nd rfl (Or.inl rfl) (pe_mt (ok_Counts_of G) hr (by decide) tk (pv 0) (pa_cons (pv 1) pa_nil)))
        (pss_cons (ps_if (pt_cmpR op_eq (pv 2) pe_int (nomark _)) (pss_one (ps_raise rfl tk (ok_raise_NoNumber G))) pss_nil)
        (pss_one (ps_ret (pv 2))))), ?_⟩
  try simp only [cxOf_K]
  obtain ⟨dx, o⟩ := C.o
  refine k_seq (k_set (g_mt (v_var rfl) o rfl (g_cons (g_v (v_var rfl) (g_nil ?_)))))
  refine ⟨_, _, rfl, W, r, p, l, ts, n, rfl, rfl, rfl, C, fun c hc => ?_, fun e => kE (usedZ_no0 e)⟩
  refine k_seq (k_ifT (by walk_at "ts") (fun h => ?_) (fun h => ?_))
  · simp at h
    subst h
    exact kE (usedZ_no hc)
  · simp at h
    exact k_next (k_ret (g_v (by walk_at "ev") (kQ c (usedZ_of hc h))))
theorem ok_Counts_used (G : TX K mg) : MetX P w K mg base 2 (cc K "Counts") "used" (sp_Counts_used K) [] := let ⟨fd, F⟩ := G.F_Counts_used; met_by G.c_Counts G.m_Counts_used F (bd_Counts_used F) sc_Counts_used Sp2.len (body_Counts_used G (fd := fd))
end

def sp_Counts_taken (K : PySem.W.Frag) : Sp := Sp2 fun a b H Q E => ∃ W r p l ts n, r ≠ none ∧ H = Wd.H W ∧ a = .ref p ∧ b = .int n ∧ CountsAt K W r p l ts ∧
  Res (firstZ ts) (fun i => ∀ W', Step (SR r) W W' → CountsAt K W' r p l (ts.set i n) → Q (.int (i : Nat)) W'.H) (E (xc K "Full") none W.H)
section
variable {P : Program} {w : World} {K : PySem.W.Frag} {mg : Str → Option Value} {base : Heap}
theorem body_Counts_taken (G : TX K mg) {fd : FuncData} {f : Addr} : BodyOk P w K mg base 0 ["self", "count", "number"] "Counts.taken" (defScope s_Counts_taken) f (defBody s_Counts_taken) (sp_Counts_taken K) := by
  have iT : TK K := G.tk
  rintro cdv A outer s H vs Q E hr tk po ⟨_, _, rfl, W, r, p, l, ts, n, hr0, rfl, rfl, rfl, C, kQ, kE⟩
  have hu := hu_of hr
  refine ⟨_, (pss_cons (ps_for po rfl (pi_range1 rfl G.b_range (pa_cons (pe_callB call_len (by rfl) G.b_len (by decide +kernel) (pa_cons (pe_fld (pv 0) rfl) pa_nil)) pa_nil)) (pg_name (i := 2) sc_Counts_taken.nd rfl (Or.inl rfl))
        (pss_one (ps_if (pt_cmpR op_eq (pe_ix ix_seq (pe_fld (pv 0) rfl) (pv 2) (fun _ _ => rfl)) pe_int (nomark _)) (pss_cons (ps_asg (pv 1) (pg_sub (pe_fld (pv 0) rfl) (pv 2) set_list (fun _ => rfl)))
        (pss_one (ps_ret (pv 2)))) pss_nil)))
        (pss_one (ps_raise rfl tk (ok_raise_Full G)))), ?_⟩
  try simp only [cxOf_K]
  obtain ⟨dx, o⟩ := C.o
  have t := C.t
  have hlen := C.n
  refine k_seq (k_forR1 (n := ((ts.map V.int).length : Int)) (by walk_at "ev") (by rw [List.length_map]; omega) (by rw [List.length_map]; omega)
    (fun i σ' W' => W' = W ∧ (∃ v, σ' = [some (.ref p), some (.int n), v]) ∧ ∀ j c, j < i → ts[j]? = some c → c ≠ 0) ⟨rfl, ⟨none, rfl⟩, fun j c h => by omega⟩ ?_ ?_)
  · rintro i σ' W' hi ⟨rfl, ⟨v, rfl⟩, hz⟩
    have hi' : i < ts.length := by simp at hi; omega
    obtain ⟨c, hc⟩ : ∃ c, ts[i]? = some c := ⟨ts[i], List.getElem?_eq_getElem hi'⟩
    have hx : atI (ts.map V.int) (i : Int) = some (.int c) := atI_nat (by rw [List.getElem?_map, hc]; rfl)
    refine g_tname (k_ifT (by walk_at "ts") (fun h => ?_) (fun h => ?_))
    · simp at h
      subst h
      have hf : firstZ ts = some i := by
        unfold firstZ
        rw [List.findIdx?_eq_some_iff_getElem]
        refine ⟨hi', ?_, fun j hj => ?_⟩
        · rw [List.getElem?_eq_getElem hi'] at hc
          rw [Option.some.inj hc]; rfl
        · have := hz j _ hj (List.getElem?_eq_getElem (by omega))
          simpa using this
      refine k_seq (k_asg (g_v (v_var rfl) (g_sub (g_v (v_fld (v_var rfl) o inferInstance rfl) (g_v (v_var rfl) (g_setL t (j := i) ?_ fun W1 a1 s1 => ?_))))))
      · unfold ixN
        rw [List.length_map, if_pos (by omega), if_pos (by omega)]; rfl
      · refine k_ret (g_v (v_var rfl) (kQ i hf W1 (SR.of t s1) (C.put hr0 s1 ?_ (by rw [List.length_set]; exact hlen))))
        rw [← map_set']
        exact a1
    · simp at h
      refine k_next ⟨W', rfl, rfl, ⟨_, rfl⟩, fun j d hj hd => ?_⟩
      by_cases hji : j = i
      · subst hji
        rw [hc] at hd
        cases hd
        exact h
      · exact hz j d (by omega) hd
  · rintro σ' W' ⟨rfl, ⟨v, rfl⟩, hz⟩
    refine kE ?_
    unfold firstZ
    rw [List.findIdx?_eq_none_iff]
    intro x hx
    obtain ⟨j, hj, e⟩ := List.mem_iff_getElem.mp hx
    have := hz j x (by simp; omega) (by rw [List.getElem?_eq_getElem hj, e])
    simpa using this
theorem ok_Counts_taken (G : TX K mg) : MetX P w K mg base 1 (cc K "Counts") "taken" (sp_Counts_taken K) [] := let ⟨fd, F⟩ := G.F_Counts_taken; met_by G.c_Counts G.m_Counts_taken F (bd_Counts_taken F) sc_Counts_taken Sp2.len (body_Counts_taken G (fd := fd))
end

def sp_Counts_more (K : PySem.W.Frag) : Sp := Sp2 fun a b H Q E => ∃ W r p l ts n, r ≠ none ∧ H = Wd.H W ∧ a = .ref p ∧ b = .int n ∧ CountsAt K W r p l ts ∧
  Res (usedZ ts n) (fun c => ∀ W', Step (SR r) W W' → CountsAt K W' r p l (ts.set n.toNat (c + 1)) → Q (.int (c + 1)) W'.H) (E (xc K "NoNumber") none W.H)
section
variable {P : Program} {w : World} {K : PySem.W.Frag} {mg : Str → Option Value} {base : Heap}
theorem body_Counts_more (G : TX K mg) {fd : FuncData} {f : Addr} : BodyOk P w K mg base 2 ["self", "number"] "Counts.more" (defScope s_Counts_more) f (defBody s_Counts_more) (sp_Counts_more K) := by
  have iT : TK K := G.tk
  rintro cdv A outer s H vs Q E hr tk po ⟨_, _, rfl, W, r, p, l, ts, n, hr0, rfl, rfl, rfl, C, kQ, kE⟩
  have hu := hu_of hr
  refine ⟨_, (pss_cons (ps_asg (pe_op op_add (pe_mt (ok_Counts_used G) hr (by decide) tk (pv 0) (pa_cons (pv 1) pa_nil)) pe_int) (pg_sub (pe_fld (pv 0) rfl) (pv 1) set_list (fun _ => rfl)))
        (pss_one (ps_ret (pe_ix ix_seq (pe_fld (pv 0) rfl) (pv 1) (fun _ _ => rfl))))), ?_⟩
  try simp only [cxOf_K]
  obtain ⟨dx, o⟩ := C.o
  have t := C.t
  refine k_seq (k_asg (g_op (g_mt (v_var rfl) o rfl (g_cons (g_v (v_var rfl) (g_nil ?_))))))
  refine ⟨_, _, rfl, W, r, p, l, ts, n, rfl, rfl, rfl, C, fun c hc => ?_, fun e => kE e⟩
  have hz := (usedZ_some hc).1
  refine g_v v_c (g_I0 (g_sub (g_v (v_fld (v_var rfl) o inferInstance rfl) (g_v (v_var rfl) (g_setL t (j := n.toNat) (atZ_ixM hz) fun W1 a1 s1 => ?_)))))
  rw [map_set'] at a1
  have hx : atI ((ts.set n.toNat (c + 1)).map V.int) n = some (.int (c + 1)) := by
    obtain ⟨h1, h2, h3⟩ := atZ_some hz
    refine atZ_mapV (f := V.int) ?_
    unfold atZ
    rw [List.length_set, if_pos ⟨h1, h2⟩, List.getElem?_set_self (by omega)]
  have s1' := SR.of t s1
  have o1 := o.step s1' (by intro e; exact hr0 e.symm)
  exact k_ret (g_v (by walk_at "ev") (kQ c hc W1 s1' (C.put hr0 s1 a1 (by rw [List.length_set]; exact C.n))))
theorem ok_Counts_more (G : TX K mg) : MetX P w K mg base 3 (cc K "Counts") "more" (sp_Counts_more K) [] := let ⟨fd, F⟩ := G.F_Counts_more; met_by G.c_Counts G.m_Counts_more F (bd_Counts_more F) sc_Counts_more Sp2.len (body_Counts_more G (fd := fd))
end

def sp_Counts_less (K : PySem.W.Frag) : Sp := Sp2 fun a b H Q E => ∃ W r p l ts n, r ≠ none ∧ H = Wd.H W ∧ a = .ref p ∧ b = .int n ∧ CountsAt K W r p l ts ∧
  Res (usedZ ts n) (fun c => ∀ W', Step (SR r) W W' → CountsAt K W' r p l (ts.set n.toNat (c - 1)) → Q (.int (c - 1)) W'.H) (E (xc K "NoNumber") none W.H)
section
variable {P : Program} {w : World} {K : PySem.W.Frag} {mg : Str → Option Value} {base : Heap}
theorem body_Counts_less (G : TX K mg) {fd : FuncData} {f : Addr} : BodyOk P w K mg base 2 ["self", "number"] "Counts.less" (defScope s_Counts_less) f (defBody s_Counts_less) (sp_Counts_less K) := by
  have iT : TK K := G.tk
  rintro cdv A outer s H vs Q E hr tk po ⟨_, _, rfl, W, r, p, l, ts, n, hr0, rfl, rfl, rfl, C, kQ, kE⟩
  have hu := hu_of hr
  refine ⟨_, (pss_cons (ps_asg (pe_op op_sub (pe_mt (ok_Counts_used G) hr (by decide) tk (pv 0) (pa_cons (pv 1) pa_nil)) pe_int) (pg_sub (pe_fld (pv 0) rfl) (pv 1) set_list (fun _ => rfl)))
        (pss_one (ps_ret (pe_ix ix_seq (pe_fld (pv 0) rfl) (pv 1) (fun _ _ => rfl))))), ?_⟩
  try simp only [cxOf_K]
  obtain ⟨dx, o⟩ := C.o
  have t := C.t
  refine k_seq (k_asg (g_op (g_mt (v_var rfl) o rfl (g_cons (g_v (v_var rfl) (g_nil ?_))))))
  refine ⟨_, _, rfl, W, r, p, l, ts, n, rfl, rfl, rfl, C, fun c hc => ?_, fun e => kE e⟩
  have hz := (usedZ_some hc).1
  refine g_v v_c (g_I0 (g_sub (g_v (v_fld (v_var rfl) o inferInstance rfl) (g_v (v_var rfl) (g_setL t (j := n.toNat) (atZ_ixM hz) fun W1 a1 s1 => ?_)))))
  rw [map_set'] at a1
  have hx : atI ((ts.set n.toNat (c - 1)).map V.int) n = some (.int (c - 1)) := by
    obtain ⟨h1, h2, h3⟩ := atZ_some hz
    refine atZ_mapV (f := V.int) ?_
    unfold atZ
    rw [List.length_set, if_pos ⟨h1, h2⟩, List.getElem?_set_self (by omega)]
  have s1' := SR.of t s1
  have o1 := o.step s1' (by intro e; exact hr0 e.symm)
  exact k_ret (g_v (by walk_at "ev") (kQ c hc W1 s1' (C.put hr0 s1 a1 (by rw [List.length_set]; exact C.n))))
theorem ok_Counts_less (G : TX K mg) : MetX P w K mg base 3 (cc K "Counts") "less" (sp_Counts_less K) [] := let ⟨fd, F⟩ := G.F_Counts_less; met_by G.c_Counts G.m_Counts_less F (bd_Counts_less F) sc_Counts_less Sp2.len (body_Counts_less G (fd := fd))
end

def sp_Counts_freed (K : PySem.W.Frag) : Sp := Sp2 fun a b H Q E => ∃ W r p l ts n, r ≠ none ∧ H = Wd.H W ∧ a = .ref p ∧ b = .int n ∧ CountsAt K W r p l ts ∧
  Res (usedZ ts n) (fun c => ∀ W', Step (SR r) W W' → CountsAt K W' r p l (ts.set n.toNat 0) → Q (.int c) W'.H) (E (xc K "NoNumber") none W.H)
section
variable {P : Program} {w : World} {K : PySem.W.Frag} {mg : Str → Option Value} {base : Heap}
theorem body_Counts_freed (G : TX K mg) {fd : FuncData} {f : Addr} : BodyOk P w K mg base 2 ["self", "number", "count"] "Counts.freed" (defScope s_Counts_freed) f (defBody s_Counts_freed) (sp_Counts_freed K) := by
  have iT : TK K := G.tk
  rintro cdv A outer s H vs Q E hr tk po ⟨_, _, rfl, W, r, p, l, ts, n, hr0, rfl, rfl, rfl, C, kQ, kE⟩
  have hu := hu_of hr
  refine ⟨_, (pss_cons (ps_set (i := 2) sc_Counts_freed.nd rfl (Or.inl rfl) (pe_mt (ok_Counts_used G) hr (by decide) tk (pv 0) (pa_cons (pv 1) pa_nil)))
        (pss_cons (ps_asg pe_int (pg_sub (pe_fld (pv 0) rfl) (pv 1) set_list (fun _ => rfl)))
        (pss_one (ps_ret (pv 2))))), ?_⟩
  try simp only [cxOf_K]
  obtain ⟨dx, o⟩ := C.o
  have t := C.t
  refine k_seq (k_set (g_mt (v_var rfl) o rfl (g_cons (g_v (v_var rfl) (g_nil ?_)))))
  refine ⟨_, _, rfl, W, r, p, l, ts, n, rfl, rfl, rfl, C, fun c hc => ?_, fun e => kE e⟩
  have hz := (usedZ_some hc).1
  refine k_seq (k_asg (g_v v_c (g_sub (g_v (v_fld (v_var rfl) o inferInstance rfl) (g_v (v_var rfl) (g_setL t (j := n.toNat) (atZ_ixM hz) fun W1 a1 s1 => ?_))))))
  rw [map_set'] at a1
  exact k_ret (g_v (v_var rfl) (kQ c hc W1 (SR.of t s1) (C.put hr0 s1 a1 (by rw [List.length_set]; exact C.n))))
theorem ok_Counts_freed (G : TX K mg) : MetX P w K mg base 3 (cc K "Counts") "freed" (sp_Counts_freed K) [] := let ⟨fd, F⟩ := G.F_Counts_freed; met_by G.c_Counts G.m_Counts_freed F (bd_Counts_freed F) sc_Counts_freed Sp2.len (body_Counts_freed G (fd := fd))
end

def sp_Counts_told (K : PySem.W.Frag) : Sp := Sp1 fun a H Q E => ∃ W r p l ts, H = Wd.H W ∧ a = .ref p ∧ CountsAt K W r p l ts ∧
  ∀ W' q, W.H q = none → Step SNone W W' → At W' none q (.lst (ts.map V.int)) → Q (.ref q) W'.H
section
variable {P : Program} {w : World} {K : PySem.W.Frag} {mg : Str → Option Value} {base : Heap}
theorem body_Counts_told (G : TX K mg) {fd : FuncData} {f : Addr} : BodyOk P w K mg base 0 ["self"] "Counts.told" (defScope s_Counts_told) f (defBody s_Counts_told) (sp_Counts_told K) := by
  have iT : TK K := G.tk
  rintro cdv A outer s H vs Q E hr tk po ⟨_, rfl, W, r, p, l, ts, rfl, rfl, C, kQ⟩
  have hu := hu_of hr
  refine ⟨_, (pss_one (ps_ret (pe_callTy call_listK (by rfl) G.b_list (by decide +kernel) (pa_cons (pe_fld (pv 0) rfl) pa_nil)))), ?_⟩
  try simp only [cxOf_K]
  obtain ⟨dx, o⟩ := C.o
  have t := C.t
  exact k_ret (g_cb (g_cons (g_v (by walk_at "ev") (g_nil (g_listof none (.inl (SqL.of t.h)) fun q W' n a s => kQ W' q n s a)))))
theorem ok_Counts_told (G : TX K mg) : MetX P w K mg base 1 (cc K "Counts") "told" (sp_Counts_told K) [] := let ⟨fd, F⟩ := G.F_Counts_told; met_by G.c_Counts G.m_Counts_told F (bd_Counts_told F) sc_Counts_told Sp1.len (body_Counts_told G (fd := fd))
end

def sp_Counts_free (K : PySem.W.Frag) : Sp := Sp1 fun a H Q E => ∃ W r p l ts, H = Wd.H W ∧ a = .ref p ∧ CountsAt K W r p l ts ∧ Q (.int (ts.count 0 : Nat)) W.H
section
variable {P : Program} {w : World} {K : PySem.W.Frag} {mg : Str → Option Value} {base : Heap}
theorem body_Counts_free (G : TX K mg) {fd : FuncData} {f : Addr} : BodyOk P w K mg base 0 ["self"] "Counts.free" (defScope s_Counts_free) f (defBody s_Counts_free) (sp_Counts_free K) := by
  have iT : TK K := G.tk
  rintro cdv A outer s H vs Q E hr tk po ⟨_, rfl, W, r, p, l, ts, rfl, rfl, C, kQ⟩
  have hu := hu_of hr
  refine ⟨_, (pss_one (ps_ret (pe_bm PySem.F.plainAttrs_list PySem.F.slot_list_count PySem.F.type_list_count mt_lcount (pe_fld (pv 0) rfl) (pa_cons pe_int pa_nil)))), ?_⟩
  try simp only [cxOf_K]
  obtain ⟨dx, o⟩ := C.o
  have t := C.t
  exact k_ret (g_bm (g_v (by walk_at "ev") ⟨tyl t, g_cons (g_v v_c (g_nil (g_cnt t kQ)))⟩))
theorem ok_Counts_free (G : TX K mg) : MetX P w K mg base 1 (cc K "Counts") "free" (sp_Counts_free K) [] := let ⟨fd, F⟩ := G.F_Counts_free; met_by G.c_Counts G.m_Counts_free F (bd_Counts_free F) sc_Counts_free Sp1.len (body_Counts_free G (fd := fd))
end

/-! ### Hand -/
structure HandAt (K : PySem.W.Frag) (W : Wd) (m : Nat) (p l : Addr) (lit : List Bool) (st : Nat) : Prop where
  o : ∃ dx, At W (some (.hand m)) p (.ins (cc K "Hand") dx [("lit", .ref l), ("stands", .int (st : Nat))])
  t : At W (some (.lit m)) l (.lst (lit.map V.bl))
  b : st < lit.length
  n : lit.length ≤ 64
theorem HandAt.step {K : PySem.W.Frag} {W W' : Wd} {m : Nat} {p l : Addr} {lit : List Bool} {st : Nat} {S : Addr → Option Rl → Prop} (c : HandAt K W m p l lit st) (s : Step S W W') (h1 : ¬ S p (some (.hand m))) (h2 : ¬ S l (some (.lit m))) : HandAt K W' m p l lit st :=
  ⟨let ⟨dx, o⟩ := c.o; ⟨dx, o.step s h1⟩, c.t.step s h2, c.b, c.n⟩
def isHand (m : Nat) : Option Rl → Bool
  | some (.hand m') => m' == m
  | some (.lit m') => m' == m
  | _ => false
abbrev SHand (m : Nat) : Addr → Option Rl → Prop := fun _ x => isHand m x = true
theorem sHand1 {m : Nat} {W W' : Wd} (s : Step (SR (some (.hand m))) W W') : Step (SHand m) W W' := s.mono fun _ r _ _ h => by
  have h' : r = some (.hand m) := h
  subst h'; exact beq_self_eq_true m
theorem sHand2 {m : Nat} {W W' : Wd} (s : Step (SR (some (.lit m))) W W') : Step (SHand m) W W' := s.mono fun _ r _ _ h => by
  have h' : r = some (.lit m) := h
  subst h'; exact beq_self_eq_true m
/-- the hand goes round: where it ends, the marks that are left -/
def chooseF : Nat → List Bool → Nat → Nat × List Bool
  | 0, lit, st => (st, lit)
  | k + 1, lit, st => if lit.getD st false = true then chooseF k (lit.set st false) ((st + 1) % lit.length) else (st, lit)
def choose (lit : List Bool) (st : Nat) : Nat × List Bool := chooseF (lit.count true) lit st
theorem count_set {lit : List Bool} {st : Nat} (h : lit[st]? = some true) : (lit.set st false).count true + 1 = lit.count true := by
  induction lit generalizing st with
  | nil => simp at h
  | cons a l ih =>
    cases st with
    | zero =>
      have e : a = true := by simpa using h
      subst e
      simp
    | succ st =>
      have := ih (st := st) (by simpa using h)
      simp only [List.set_cons_succ, List.count_cons]
      omega
theorem choose_yes {lit : List Bool} {st : Nat} (h : lit[st]? = some true) : choose lit st = choose (lit.set st false) ((st + 1) % lit.length) := by
  unfold choose
  rw [← count_set h]
  show (if lit.getD st false = true then _ else _) = _
  rw [if_pos (by rw [List.getD_eq_getElem?_getD, h]; rfl)]
theorem choose_no {lit : List Bool} {st : Nat} (h : lit[st]? = some false) : choose lit st = (st, lit) := by
  unfold choose
  cases lit.count true with
  | zero => rfl
  | succ k =>
    show (if lit.getD st false = true then _ else _) = _
    rw [if_neg (by rw [List.getD_eq_getElem?_getD, h]; simp)]
theorem choose_lt (lit : List Bool) (st : Nat) (h : st < lit.length) : (choose lit st).1 < lit.length ∧ (choose lit st).2.length = lit.length := by
  have key : ∀ k lit st, st < lit.length → (chooseF k lit st).1 < lit.length ∧ (chooseF k lit st).2.length = lit.length := by
    intro k
    induction k with
    | zero => intro lit st h; exact ⟨h, rfl⟩
    | succ k ih =>
      intro lit st h
      show (if lit.getD st false = true then _ else _ : Nat × List Bool).1 < _ ∧ (if lit.getD st false = true then _ else _ : Nat × List Bool).2.length = _
      split
      · have := ih (lit.set st false) ((st + 1) % lit.length) (by rw [List.length_set]; exact Nat.mod_lt _ (by omega))
        rw [List.length_set] at this
        exact this
      · exact ⟨h, rfl⟩
  exact key _ _ _ h
def sp_Hand___init__ (K : PySem.W.Frag) : Sp := Sp2 fun a b H Q E => ∃ W m p dx n, H = Wd.H W ∧ a = .ref p ∧ b = .int n ∧ At W (some (.hand m)) p (.ins (cc K "Hand") dx []) ∧
  (¬ (1 ≤ n ∧ n ≤ 64) → E (xc K "NoShape") none W.H) ∧ (1 ≤ n ∧ n ≤ 64 → ∀ W' l, W.H l = none → Step (SAt p) W W' → HandAt K W' m p l (List.replicate n.toNat false) 0 → Q .non W'.H)
section
variable {P : Program} {w : World} {K : PySem.W.Frag} {mg : Str → Option Value} {base : Heap}
theorem body_Hand___init__ (G : TX K mg) {fd : FuncData} {f : Addr} : BodyOk P w K mg base 0 ["self", "many"] "Hand.__init__" (defScope s_Hand___init__) f (defBody s_Hand___init__) (sp_Hand___init__ K) := by
  have iT : TK K := G.tk
  rintro cdv A outer s H vs Q E hr tk po ⟨_, _, rfl, W, m, p, dx, n, rfl, rfl, rfl, o, kE, kQ⟩
  have hu := hu_of hr
  refine ⟨_, (pss_cons (ps_if (pt_not (pt_chain op_le op_le pe_int (pv 1) (pe_ci G.i_MOST_FRAMES))) (pss_one (ps_raise rfl tk (ok_raise_NoShape G))) pss_nil)
        (pss_cons (ps_fld (pv 0) (pe_op op_rep (pe_lst (pa_cons pe_bl pa_nil)) (pv 1)) rfl)
        (pss_one (ps_fld (pv 0) pe_int rfl)))), ?_⟩
  try simp only [cxOf_K]
  refine k_seq (k_ifT (by walk_at "ts") (fun h => ?_) (fun h => ?_))
  · refine kE ?_
    simp at h
    omega
  · simp at h
    refine k_next (k_seq (k_fld (g_op (g_lst (g_cons (g_c (g_nil (new_l rfl fun l0 W1 n1 a1 s1 => ?_))))))))
    refine g_v (by walk_at "ev") (g_rep (some (.lit m)) a1 (by omega) (by omega) fun l W2 n2 a2 s2 => ?_)
    refine g_v (by walk_at "ev") (g_setF (r := some (.hand m)) (by walk_at "at") inferInstance rfl fun W3 a3 s3 => ?_)
    refine k_fld (g_v v_c (g_v (v_var rfl) (g_setF a3 inferInstance rfl fun W4 a4 s4 => ?_)))
    have nl : W.H l = none := s1.live _ n2
    have o2 := At.step (At.step o s1 (by walk_at "no")) s2 (by walk_at "no")
    have ne := a2.ne o2 (by simp)
    refine kQ h W4 l nl (s1.n1 (s2.n1 (s3.tr s4))) ⟨⟨dx, a4⟩, ?_, by simp; omega, by simp; omega⟩
    rw [List.map_replicate]
    exact (a2.step s3 (fun e => ne e)).step s4 (fun e => ne e)
theorem ok_Hand_make (G : TX K mg) : MakX P w K mg base 1 "Hand" (cc K "Hand") (sp_Hand___init__ K) [] := let ⟨fd, F⟩ := G.F_Hand___init__; mak_by G.g_Hand G.k_Hand F (bd_Hand___init__ F) sc_Hand___init__ Sp2.len (body_Hand___init__ G (fd := fd))
end

def sp_Hand_mark (K : PySem.W.Frag) : Sp := Sp2 fun a b H Q E => ∃ W m p l lit st n, H = Wd.H W ∧ a = .ref p ∧ b = .int (n : Nat) ∧ HandAt K W m p l lit st ∧ n < lit.length ∧
  ∀ W', Step (SR (some (.lit m))) W W' → HandAt K W' m p l (lit.set n true) st → Q .non W'.H
section
variable {P : Program} {w : World} {K : PySem.W.Frag} {mg : Str → Option Value} {base : Heap}
theorem body_Hand_mark (G : TX K mg) {fd : FuncData} {f : Addr} : BodyOk P w K mg base 0 ["self", "frame"] "Hand.mark" (defScope s_Hand_mark) f (defBody s_Hand_mark) (sp_Hand_mark K) := by
  have iT : TK K := G.tk
  rintro cdv A outer s H vs Q E hr tk po ⟨_, _, rfl, W, m, p, l, lit, st, n, rfl, rfl, rfl, C, hn, kQ⟩
  have hu := hu_of hr
  refine ⟨_, (pss_one (ps_asg pe_bl (pg_sub (pe_fld (pv 0) rfl) (pv 1) set_list (fun _ => rfl)))), ?_⟩
  try simp only [cxOf_K]
  obtain ⟨dx, o⟩ := C.o
  have t := C.t
  refine k_asg (g_v v_c (g_sub (g_v (by walk_at "ev") (g_v (v_var rfl) (g_setL t (j := n) ?_ fun W1 a1 s1 => ?_)))))
  · unfold ixN; rw [List.length_map, if_pos (by omega), if_pos (by omega)]; rfl
  · rw [map_set'] at a1
    have s1' := SR.of t s1
    exact kQ W1 s1' ⟨⟨dx, o.step s1' (by walk_at "no")⟩, a1, by rw [List.length_set]; exact C.b, by rw [List.length_set]; exact C.n⟩
theorem ok_Hand_mark (G : TX K mg) : MetX P w K mg base 1 (cc K "Hand") "mark" (sp_Hand_mark K) [] := let ⟨fd, F⟩ := G.F_Hand_mark; met_by G.c_Hand G.m_Hand_mark F (bd_Hand_mark F) sc_Hand_mark Sp2.len (body_Hand_mark G (fd := fd))
end

def sp_Hand_unmark (K : PySem.W.Frag) : Sp := Sp2 fun a b H Q E => ∃ W m p l lit st n, H = Wd.H W ∧ a = .ref p ∧ b = .int (n : Nat) ∧ HandAt K W m p l lit st ∧ n < lit.length ∧
  ∀ W', Step (SR (some (.lit m))) W W' → HandAt K W' m p l (lit.set n false) st → Q .non W'.H
section
variable {P : Program} {w : World} {K : PySem.W.Frag} {mg : Str → Option Value} {base : Heap}
theorem body_Hand_unmark (G : TX K mg) {fd : FuncData} {f : Addr} : BodyOk P w K mg base 0 ["self", "frame"] "Hand.unmark" (defScope s_Hand_unmark) f (defBody s_Hand_unmark) (sp_Hand_unmark K) := by
  have iT : TK K := G.tk
  rintro cdv A outer s H vs Q E hr tk po ⟨_, _, rfl, W, m, p, l, lit, st, n, rfl, rfl, rfl, C, hn, kQ⟩
  have hu := hu_of hr
  refine ⟨_, (pss_one (ps_asg pe_bl (pg_sub (pe_fld (pv 0) rfl) (pv 1) set_list (fun _ => rfl)))), ?_⟩
  try simp only [cxOf_K]
  obtain ⟨dx, o⟩ := C.o
  have t := C.t
  refine k_asg (g_v v_c (g_sub (g_v (by walk_at "ev") (g_v (v_var rfl) (g_setL t (j := n) ?_ fun W1 a1 s1 => ?_)))))
  · unfold ixN; rw [List.length_map, if_pos (by omega), if_pos (by omega)]; rfl
  · rw [map_set'] at a1
    have s1' := SR.of t s1
    exact kQ W1 s1' ⟨⟨dx, o.step s1' (by walk_at "no")⟩, a1, by rw [List.length_set]; exact C.b, by rw [List.length_set]; exact C.n⟩
theorem ok_Hand_unmark (G : TX K mg) : MetX P w K mg base 1 (cc K "Hand") "unmark" (sp_Hand_unmark K) [] := let ⟨fd, F⟩ := G.F_Hand_unmark; met_by G.c_Hand G.m_Hand_unmark F (bd_Hand_unmark F) sc_Hand_unmark Sp2.len (body_Hand_unmark G (fd := fd))
end

def sp_Hand_step (K : PySem.W.Frag) : Sp := Sp1 fun a H Q E => ∃ W m p l lit st, H = Wd.H W ∧ a = .ref p ∧ HandAt K W m p l lit st ∧
  ∀ W', Step (SR (some (.hand m))) W W' → HandAt K W' m p l lit ((st + 1) % lit.length) → Q .non W'.H
section
variable {P : Program} {w : World} {K : PySem.W.Frag} {mg : Str → Option Value} {base : Heap}
theorem body_Hand_step (G : TX K mg) {fd : FuncData} {f : Addr} : BodyOk P w K mg base 0 ["self"] "Hand.step" (defScope s_Hand_step) f (defBody s_Hand_step) (sp_Hand_step K) := by
  have iT : TK K := G.tk
  rintro cdv A outer s H vs Q E hr tk po ⟨_, rfl, W, m, p, l, lit, st, rfl, rfl, C, kQ⟩
  have hu := hu_of hr
  refine ⟨_, (pss_one (ps_fld (pv 0) (pe_op op_mod (pe_op op_add (pe_fld (pv 0) rfl) pe_int) (pe_callB call_len (by rfl) G.b_len (by decide +kernel) (pa_cons (pe_fld (pv 0) rfl) pa_nil))) rfl)), ?_⟩
  try simp only [cxOf_K]
  obtain ⟨dx, o⟩ := C.o
  have t := C.t
  have hb := C.b
  have hm : (0 : Int) < ((lit.map V.bl).length : Int) := by rw [List.length_map]; omega
  refine k_fld (g_v (by walk_at "ev") (g_v (v_var rfl) (g_setF o inferInstance rfl fun W1 a1 s1 => ?_)))
  have s1' := SR.of o s1
  refine kQ W1 s1' ⟨⟨dx, ?_⟩, t.step s1' (by walk_at "no"), Nat.mod_lt _ (by omega), C.n⟩
  have e : ((st : Int) + 1) % ((lit.map V.bl).length : Int) = (((st + 1) % lit.length : Nat) : Int) := by rw [List.length_map]; simp
  rw [e] at a1
  exact a1
theorem ok_Hand_step (G : TX K mg) : MetX P w K mg base 1 (cc K "Hand") "step" (sp_Hand_step K) [] := let ⟨fd, F⟩ := G.F_Hand_step; met_by G.c_Hand G.m_Hand_step F (bd_Hand_step F) sc_Hand_step Sp1.len (body_Hand_step G (fd := fd))
end

def sp_Hand_chosen (K : PySem.W.Frag) : Sp := Sp1 fun a H Q E => ∃ W m p l lit st, H = Wd.H W ∧ a = .ref p ∧ HandAt K W m p l lit st ∧
  ∀ W', Step (SHand m) W W' → HandAt K W' m p l (choose lit st).2 (((choose lit st).1 + 1) % lit.length) → Q (.int ((choose lit st).1 : Nat)) W'.H
section
variable {P : Program} {w : World} {K : PySem.W.Frag} {mg : Str → Option Value} {base : Heap}
theorem body_Hand_chosen (G : TX K mg) {fd : FuncData} {f : Addr} : BodyOk P w K mg base 1 ["self", "frame"] "Hand.chosen" (defScope s_Hand_chosen) f (defBody s_Hand_chosen) (sp_Hand_chosen K) := by
  have iT : TK K := G.tk
  rintro cdv A outer s H vs Q E hr tk po ⟨_, rfl, W, m, p, l, lit, st, rfl, rfl, C, kQ⟩
  have hu := hu_of hr
  refine ⟨_, (pss_cons (ps_while po (pt_val (pe_ix ix_seq (pe_fld (pv 0) rfl) (pe_fld (pv 0) rfl) (fun _ _ => rfl))) (pss_cons (ps_asg pe_bl (pg_sub (pe_fld (pv 0) rfl) (pe_fld (pv 0) rfl) set_list (fun _ => rfl)))
        (pss_one (ps_expr (pe_mt0 (ok_Hand_step G) hr (by decide) tk (pv 0))))))
        (pss_cons (ps_set (i := 1) sc_Hand_chosen.nd rfl (Or.inl rfl) (pe_fld (pv 0) rfl))
        (pss_cons (ps_expr (pe_mt0 (ok_Hand_step G) hr (by decide) tk (pv 0)))
        (pss_one (ps_ret (pv 1)))))), ?_⟩
  try simp only [cxOf_K]
  refine k_seq (k_while (fun σ' W' => σ' = [some (.ref p), none] ∧ Step (SHand m) W W' ∧ ∃ lit' st', HandAt K W' m p l lit' st' ∧ lit'.length = lit.length ∧ choose lit' st' = choose lit st)
    (fun σ' W' => (match W'.H l with | some (.lst xs) => xs.count (.bl true) | _ => 0)) ⟨rfl, Step.refl W, lit, st, C, rfl, rfl⟩ ?_)
  rintro σ' W' ⟨rfl, sW, lit', st', C', hl, he⟩
  obtain ⟨dx, o⟩ := C'.o
  have t := C'.t
  have hb := C'.b
  have hx : atI (lit'.map V.bl) (st' : Int) = some (.bl lit'[st']) := atI_nat (by rw [List.getElem?_map, List.getElem?_eq_getElem hb]; rfl)
  refine ⟨lit'[st'], by walk_at "ts", fun h => ?_, fun h => ?_⟩
  · have hsome : lit'[st']? = some true := by rw [List.getElem?_eq_getElem hb, h]
    refine k_seq (k_asg (g_v v_c (g_sub (g_v (by walk_at "ev") (g_v (by walk_at "ev") (g_setL t (j := st') ?_ fun W1 a1 s1 => ?_))))))
    · unfold ixN; rw [List.length_map, if_pos (by omega), if_pos (by omega)]; rfl
    · rw [map_set'] at a1
      have s1' := SR.of t s1
      have o1 := o.step s1' (by walk_at "no")
      have C1 : HandAt K W1 m p l (lit'.set st' false) st' := ⟨⟨dx, o1⟩, a1, by rw [List.length_set]; exact C'.b, by rw [List.length_set]; exact C'.n⟩
      refine k_drop (g_mt (v_var rfl) o1 rfl (g_nil ?_))
      refine ⟨_, rfl, W1, m, p, l, _, _, rfl, rfl, C1, fun W2 s2 C2 => ?_⟩
      refine ⟨W2, rfl, ⟨rfl, sW.tr ((sHand2 s1').tr (sHand1 s2)), _, _, C2, by rw [List.length_set]; exact hl, ?_⟩, ?_⟩
      · rw [List.length_set, ← choose_yes hsome]; exact he
      · have e1 : W2.H l = some (.lst ((lit'.set st' false).map V.bl)) := C2.t.h
        have e2 : W'.H l = some (.lst (lit'.map V.bl)) := t.h
        rw [e1, e2]
        show ((lit'.set st' false).map V.bl).count (V.bl true) < (lit'.map V.bl).count (V.bl true)
        have q := count_set hsome
        have c : ∀ x : List Bool, (x.map V.bl).count (V.bl true) = x.count true := by
          intro x
          induction x with
          | nil => rfl
          | cons b x ih => cases b <;> simp [ih, List.count_cons]
        rw [c, c]; omega
  · have hsome : lit'[st']? = some false := by rw [List.getElem?_eq_getElem hb, h]
    rw [choose_no hsome] at he
    refine k_seq (k_set (g_v (by walk_at "ev") ?_))
    refine k_seq (k_drop (g_mt (v_var rfl) o rfl (g_nil ?_)))
    refine ⟨_, rfl, W', m, p, l, _, _, rfl, rfl, C', fun W2 s2 C2 => ?_⟩
    refine k_ret (g_v (v_var rfl) ?_)
    have q := kQ W2 (sW.tr (sHand1 s2))
    rw [← he] at q
    refine q ?_
    rw [← hl]
    exact C2
theorem ok_Hand_chosen (G : TX K mg) : MetX P w K mg base 2 (cc K "Hand") "chosen" (sp_Hand_chosen K) [] := let ⟨fd, F⟩ := G.F_Hand_chosen; met_by G.c_Hand G.m_Hand_chosen F (bd_Hand_chosen F) sc_Hand_chosen Sp1.len (body_Hand_chosen G (fd := fd))
end

def sp_Hand_marks (K : PySem.W.Frag) : Sp := Sp1 fun a H Q E => ∃ W m p l lit st, H = Wd.H W ∧ a = .ref p ∧ HandAt K W m p l lit st ∧
  ∀ W' q, W.H q = none → Step SNone W W' → At W' none q (.lst (lit.map V.bl)) → Q (.ref q) W'.H
section
variable {P : Program} {w : World} {K : PySem.W.Frag} {mg : Str → Option Value} {base : Heap}
theorem body_Hand_marks (G : TX K mg) {fd : FuncData} {f : Addr} : BodyOk P w K mg base 0 ["self"] "Hand.marks" (defScope s_Hand_marks) f (defBody s_Hand_marks) (sp_Hand_marks K) := by
  have iT : TK K := G.tk
  rintro cdv A outer s H vs Q E hr tk po ⟨_, rfl, W, m, p, l, lit, st, rfl, rfl, C, kQ⟩
  have hu := hu_of hr
  refine ⟨_, (pss_one (ps_ret (pe_callTy call_listK (by rfl) G.b_list (by decide +kernel) (pa_cons (pe_fld (pv 0) rfl) pa_nil)))), ?_⟩
  try simp only [cxOf_K]
  obtain ⟨dx, o⟩ := C.o
  have t := C.t
  exact k_ret (g_cb (g_cons (g_v (by walk_at "ev") (g_nil (g_listof none (.inl (SqL.of t.h)) fun q W' n a s => kQ W' q n s a)))))
theorem ok_Hand_marks (G : TX K mg) : MetX P w K mg base 1 (cc K "Hand") "marks" (sp_Hand_marks K) [] := let ⟨fd, F⟩ := G.F_Hand_marks; met_by G.c_Hand G.m_Hand_marks F (bd_Hand_marks F) sc_Hand_marks Sp1.len (body_Hand_marks G (fd := fd))
end

def isW (n : Int) : Bool := decide (0 ≤ n) && decide (n < 18446744073709551616)
theorem bitOr12 : Builtin.bitOr 1 2 = 3 := by decide
def sp_is_word (K : PySem.W.Frag) : Sp := Sp1 fun a H Q E => ∃ n, a = .int n ∧ Q (.bl (isW n)) H
section
variable {P : Program} {w : World} {K : PySem.W.Frag} {mg : Str → Option Value} {base : Heap}
theorem body_is_word (G : TX K mg) {fd : FuncData} {f : Addr} : BodyOk P w K mg base 0 ["thing"] "is_word" (defScope s_is_word) f (defBody s_is_word) (sp_is_word K) := by
  have iT : TK K := G.tk
  rintro cdv A outer s H vs Q E hr tk po ⟨_, rfl, n, rfl, kQ⟩
  have hu := hu_of hr
  refine ⟨_, (pss_cons (ps_if (pw_or (pt_not (pt_val (pe_callB call_isi (by rfl) G.b_isinstance (by decide +kernel) (pa_cons (pv 0) (pa_cons (pe_bty "int" G.b_int (by decide +kernel)) pa_nil))))) (pw_or1 (pt_val (pe_callB call_isi (by rfl) G.b_isinstance (by decide +kernel) (pa_cons (pv 0) (pa_cons (pe_bty "bool" G.b_bool (by decide +kernel)) pa_nil)))))).pt (pss_one (ps_ret pe_bl)) pss_nil)
        (pss_one (ps_ret (pe_chain op_le op_lt pe_int (pv 0) (pe_op op_pow pe_int pe_int))))), ?_⟩
  try simp only [cxOf_K]
  refine k_seq (k_no (b := false) (s_or (b1 := false) (s_not (b := true) (by walk_at "ts")) fun _ => (by walk_at "ts")) rfl ?_)
  refine k_next (k_ret (g_v (by walk_at "ev") ?_))
  rw [pow64]
  exact kQ
theorem ok_is_word (G : TX K mg) : CalX P w K mg base 1 "is_word" (sp_is_word K) [] := let ⟨fd, F⟩ := G.F_is_word; cal_by G.g_is_word F (bd_is_word F) sc_is_word Sp1.len (body_is_word G (fd := fd))
end

/-! ### Store -/
structure StA where
  p : Addr
  cp : Addr
  l : Addr
  ll : Addr
structure StoreAt (K : PySem.W.Frag) (W : Wd) (m : Nat) (s : Bool) (A : StA) (ts : List Int) (ws : List (List Int)) (wide : Int) : Prop where
  o : ∃ dx, At W none A.p (.ins (cc K "Store") dx [("tally", .ref A.cp), ("wide", .int wide), ("lying", .ref A.ll)])
  c : CountsAt K W (some (.tally m s)) A.cp A.l ts
  n : ws.length = ts.length
  w : 1 ≤ wide ∧ wide ≤ 64
  ll : ∃ rows : List Addr, At W (some (.lying m s)) A.ll (.lst (rows.map V.ref)) ∧ rows.length = ts.length ∧ ∀ (i : Nat) a w, rows[i]? = some a → ws[i]? = some w → At W (some (.row m s i)) a (.lst (w.map V.int))
def isStore (m : Nat) (s : Bool) : Option Rl → Bool
  | some (.tally m' s') => m' == m && s' == s
  | some (.lying m' s') => m' == m && s' == s
  | some (.row m' s' _) => m' == m && s' == s
  | _ => false
abbrev SStore (m : Nat) (s : Bool) : Addr → Option Rl → Prop := fun _ x => isStore m s x = true
theorem StoreAt.step {K : PySem.W.Frag} {W W' : Wd} {m : Nat} {s : Bool} {A : StA} {ts : List Int} {ws : List (List Int)} {wide : Int} {S : Addr → Option Rl → Prop} (c : StoreAt K W m s A ts ws wide) (st : Step S W W') (h : ∀ a r, r = none ∨ isStore m s r = true → ¬ S a r) : StoreAt K W' m s A ts ws wide where
  o := let ⟨dx, o⟩ := c.o; ⟨dx, o.step st (h _ _ (.inl rfl))⟩
  c := c.c.step st (h _ _ (.inl rfl)) (h _ _ (.inr (by simp [isStore])))
  n := c.n
  w := c.w
  ll := let ⟨rows, h1, h2, h3⟩ := c.ll; ⟨rows, h1.step st (h _ _ (.inr (by simp [isStore]))), h2, fun i a w e1 e2 => (h3 i a w e1 e2).step st (h _ _ (.inr (by simp [isStore])))⟩
theorem StoreAt.stepA {K : PySem.W.Frag} {W W' : Wd} {m : Nat} {s : Bool} {A : StA} {ts : List Int} {ws : List (List Int)} {wide : Int} {S : Addr → Option Rl → Prop} (c : StoreAt K W m s A ts ws wide) (st : Step S W W') (h1 : ¬ S A.p none) (h2 : ¬ S A.cp none) (h : ∀ a r, isStore m s r = true → ¬ S a r) : StoreAt K W' m s A ts ws wide where
  o := let ⟨dx, o⟩ := c.o; ⟨dx, o.step st h1⟩
  c := c.c.step st h2 (h _ _ (by simp [isStore]))
  n := c.n
  w := c.w
  ll := let ⟨rows, h1, h2, h3⟩ := c.ll; ⟨rows, h1.step st (h _ _ (by simp [isStore])), h2, fun i a w e1 e2 => (h3 i a w e1 e2).step st (h _ _ (by simp [isStore]))⟩
theorem sStore1 {m : Nat} {s : Bool} {W W' : Wd} (st : Step (SR (some (.tally m s))) W W') : Step (SStore m s) W W' := st.mono fun _ r _ _ h => by
  have h' : r = some (.tally m s) := h
  subst h'; show isStore m s _ = true; simp [isStore]
theorem sStore2 {m : Nat} {s : Bool} {W W' : Wd} (st : Step (SR (some (.lying m s))) W W') : Step (SStore m s) W W' := st.mono fun _ r _ _ h => by
  have h' : r = some (.lying m s) := h
  subst h'; show isStore m s _ = true; simp [isStore]
theorem sStore3 {m : Nat} {s : Bool} {i : Nat} {W W' : Wd} (st : Step (SR (some (.row m s i))) W W') : Step (SStore m s) W W' := st.mono fun _ r _ _ h => by
  have h' : r = some (.row m s i) := h
  subst h'; show isStore m s _ = true; simp [isStore]
/-- another tally alone -/
theorem StoreAt.tally {K : PySem.W.Frag} {W W' : Wd} {m : Nat} {s : Bool} {A : StA} {ts ts' : List Int} {ws : List (List Int)} {wide : Int} (c : StoreAt K W m s A ts ws wide) (st : Step (SR (some (.tally m s))) W W') (c' : CountsAt K W' (some (.tally m s)) A.cp A.l ts') (hl : ts'.length = ts.length) : StoreAt K W' m s A ts' ws wide where
  o := let ⟨dx, o⟩ := c.o; ⟨dx, o.step st (by walk_at "no")⟩
  c := c'
  n := by rw [c.n, hl]
  w := c.w
  ll := let ⟨rows, h1, h2, h3⟩ := c.ll; ⟨rows, h1.step st (by walk_at "no"), by rw [h2, hl], fun i a w e1 e2 => (h3 i a w e1 e2).step st (by walk_at "no")⟩
/-- another row of words -/
theorem StoreAt.row {K : PySem.W.Frag} {W W1 W2 : Wd} {m : Nat} {s : Bool} {A : StA} {ts : List Int} {ws : List (List Int)} {wide : Int} {i : Nat} {q : Addr} {w : List Int} {rows : List Addr} (c : StoreAt K W m s A ts ws wide) (st : Step SNone W W1) (hr : At W (some (.lying m s)) A.ll (.lst (rows.map V.ref))) (hq : At W1 (some (.row m s i)) q (.lst (w.map V.int)))
    (s2 : Step (SR (some (.lying m s))) W1 W2) (a2 : At W2 (some (.lying m s)) A.ll (.lst ((rows.set i q).map V.ref))) : StoreAt K W2 m s A ts (ws.set i w) wide where
  o := let ⟨dx, o⟩ := c.o; ⟨dx, (o.step st (by walk_at "no")).step s2 (by walk_at "no")⟩
  c := (c.c.step st (by walk_at "no") (by walk_at "no")).step s2 (by walk_at "no") (by walk_at "no")
  n := by rw [List.length_set, c.n]
  w := c.w
  ll := by
    obtain ⟨rows', h1, h2, h3⟩ := c.ll
    have e := h1.inj hr
    injection e with e
    have e' : rows' = rows := by
      have := List.map_inj_right (f := V.ref) (fun _ _ h => by injection h) |>.mp e
      exact this
    subst e'
    refine ⟨_, a2, by rw [List.length_set, h2], fun j a v e1 e2 => ?_⟩
    by_cases hj : j = i
    · subst hj
      have hlt : j < rows'.length := by
        have := (List.getElem?_eq_some_iff.mp e1).1
        rw [List.length_set] at this; exact this
      have hlt2 : j < ws.length := by rw [c.n, ← h2]; exact hlt
      rw [List.getElem?_set_self hlt] at e1
      rw [List.getElem?_set_self hlt2] at e2
      cases e1; cases e2
      exact hq.step s2 (by walk_at "no")
    · rw [List.getElem?_set_ne (fun e => hj e.symm)] at e1 e2
      exact ((h3 j a v e1 e2).step st (by walk_at "no")).step s2 (by walk_at "no")
def sp_Store___init__ (K : PySem.W.Frag) : Sp := Sp3 fun a b c H Q E => ∃ W m s p dx n k, H = Wd.H W ∧ a = .ref p ∧ b = .int n ∧ c = .int k ∧ At W none p (.ins (cc K "Store") dx []) ∧
  (¬ (1 ≤ k ∧ k ≤ 64 ∧ 0 ≤ n ∧ n ≤ 64) → ∀ W', Step SNone W W' → E (xc K "NoShape") none W'.H) ∧
  (1 ≤ k ∧ k ≤ 64 ∧ 0 ≤ n ∧ n ≤ 64 → ∀ W' A, Step (SAt p) W W' → A.p = p → W.H A.cp = none → StoreAt K W' m s A (List.replicate n.toNat 0) (List.replicate n.toNat []) k → Q .non W'.H)
section
variable {P : Program} {w : World} {K : PySem.W.Frag} {mg : Str → Option Value} {base : Heap}
theorem body_Store___init__ (G : TX K mg) {fd : FuncData} {f : Addr} : BodyOk P w K mg base 2 ["self", "many", "size", "number"] "Store.__init__" (defScope s_Store___init__) f (defBody s_Store___init__) (sp_Store___init__ K) := by
  have iT : TK K := G.tk
  rintro cdv A outer s H vs Q E hr tk po ⟨_, _, _, rfl, W, m, s', p, dx, n, k, rfl, rfl, rfl, rfl, o, kE, kQ⟩
  have hu := hu_of hr
  refine ⟨_, (pss_cons (ps_if (pt_not (pt_chain op_le op_le pe_int (pv 2) (pe_ci G.i_MOST_WORDS))) (pss_one (ps_raise rfl tk (ok_raise_NoShape G))) pss_nil)
        (pss_cons (ps_fld (pv 0) (pe_mk (ok_Counts_make G) hr (by decide) tk (by rfl) (pa_cons (pv 1) pa_nil)) rfl)
        (pss_cons (ps_fld (pv 0) (pv 2) rfl)
        (pss_one (ps_fld (pv 0) (pe_lc (own := [("number", 3)]) rfl sc_Store___init__.nd (pi_range1 rfl G.b_range (pa_cons (pv 1) pa_nil)) (blkOk_by (own := [("number", 3)]) (N := ["self", "many", "size", "number"]) (sc := defScope s_Store___init__) (by decide +kernel)) (fun _ _ _ _ _ => (pg_name (i := 3) sc_Store___init__.nd rfl (Or.inl rfl))) (fun _ _ _ _ _ => pts_nil) (fun _ _ _ _ _ => (pe_lst pa_nil))) rfl))))), ?_⟩
  try simp only [cxOf_K]
  refine k_seq (k_ifT (by walk_at "ts") (fun h => ?_) (fun h => ?_))
  · refine kE ?_ W (Step.refl W)
    simp at h
    omega
  · simp at h
    refine k_next (k_seq (k_fld (g_mk (g_cons (g_v (v_var rfl) (g_nil (mk_w none fun cp dc W1 n1 a1 s1 => ?_)))))))
    refine ⟨_, _, rfl, W1, some (.tally m s'), cp, dc, n, by simp, rfl, rfl, rfl, a1, fun hn => kE (by omega) W1 s1, fun hn W2 l nl s2 C2 => ⟨rfl, ?_⟩⟩
    have o1 := o.step s1 (by walk_at "no")
    have npc : p ≠ cp := o.neN n1
    have o2 := o1.step s2 (fun e => npc e)
    refine g_v (v_var rfl) (g_setF o2 inferInstance rfl fun W3 a3 s3 => ?_)
    have cne : cp ≠ p := fun e => npc e.symm
    have nlp : l ≠ p := fun e => (o1.neN nl) e.symm
    have C3 := C2.step s3 (fun e => cne e) (fun e => nlp e)
    refine k_seq (k_fld (g_v (v_var rfl) (g_v (v_var rfl) (g_setF a3 inferInstance rfl fun W4 a4 s4 => ?_))))
    have C4 := C3.step s4 (fun e => cne e) (fun e => nlp e)
    have sW : Step (SAt p) W W4 := ((s1.n1 (Step.refl (S := SAt p) W1)).fresh n1 s2).tr (s3.tr s4)
    refine k_fld (g_lcR (some (.lying m s')) (v_var rfl) (by omega) (by omega) (fun D i acc W' => Step SNone W4 W' ∧ ∃ rows : List Addr, acc = rows.map V.ref ∧ rows.length = i ∧ ∀ (j : Nat) a, rows[j]? = some a → At W' (some (.row m s' j)) a (.lst [])) (fun D W5 n5 a5 s5 => ⟨s5, [], rfl, rfl, fun j a e => by simp at e⟩) ?_ ?_)
    · rintro D i acc W5 nD hi aD la ⟨s5, rows, rfl, rl, hrow⟩
      refine g_lst (g_nil (new_lr (some (.row m s' i)) rfl fun q W6 n6 a6 s6 => ?_))
      have aD6 := aD.step s6 (by walk_at "no")
      refine lcK_of aD6 la (by omega) fun W7 a7 s7 => ⟨(s5.tr s6).fresh nD s7, rows ++ [q], by simp, by simp [rl], fun j a e => ?_⟩
      rw [List.getElem?_append] at e
      split at e
      · have x := (hrow j a e).step s6 (by walk_at "no")
        exact x.step s7 (x.ne aD6 (by simp))
      · have hj : j - rows.length = 0 := by
          cases hh : j - rows.length with
          | zero => rfl
          | succ k => rw [hh] at e; simp at e
        rw [hj] at e
        have ea : q = a := by simpa using e
        have ej : j = i := by omega
        subst ea ej
        exact a6.step s7 (a6.ne aD6 (by simp))
    · rintro D acc W5 nD aD ⟨s5, rows, rfl, rl, hrow⟩
      have a5 := a4.step s5 (by walk_at "no")
      refine g_v (v_var rfl) (g_setF a5 inferInstance rfl fun W6 a6 s6 => ?_)
      have C5 := (C4.step s5 (by walk_at "no") (by walk_at "no")).step s6 (fun e => cne e) (fun e => nlp e)
      refine kQ (by omega) W6 ⟨p, cp, l, D⟩ (sW.tr ((s5.n1 (Step.refl (S := SAt p) W5)).tr s6)) rfl n1 ⟨⟨dx, a6⟩, C5, by simp, by omega, rows, aD.step s6 (aD.ne a5 (by simp)), by simp [rl], fun i a w e1 e2 => ?_⟩
      have x := hrow i a e1
      have ew : w = [] := by
        rw [List.getElem?_replicate] at e2
        split at e2
        · exact (Option.some.inj e2).symm
        · cases e2
      subst ew
      exact x.step s6 (x.ne a5 (by simp))
theorem ok_Store_make (G : TX K mg) : MakX P w K mg base 3 "Store" (cc K "Store") (sp_Store___init__ K) [] := let ⟨fd, F⟩ := G.F_Store___init__; mak_by G.g_Store G.k_Store F (bd_Store___init__ F) sc_Store___init__ Sp3.len (body_Store___init__ G (fd := fd))
end

def sp_Store_need (K : PySem.W.Frag) : Sp := Sp2 fun a b H Q E => ∃ W m s A ts ws wide n, H = Wd.H W ∧ a = .ref (StA.p A) ∧ b = .int n ∧ StoreAt K W m s A ts ws wide ∧
  Res (usedZ ts n) (fun _ => Q .non W.H) (E (xc K "NoNumber") none W.H)
section
variable {P : Program} {w : World} {K : PySem.W.Frag} {mg : Str → Option Value} {base : Heap}
theorem body_Store_need (G : TX K mg) {fd : FuncData} {f : Addr} : BodyOk P w K mg base 1 ["self", "number"] "Store.need" (defScope s_Store_need) f (defBody s_Store_need) (sp_Store_need K) := by
  have iT : TK K := G.tk
  rintro cdv A outer s H vs Q E hr tk po ⟨_, _, rfl, W, m, s', A', ts, ws, wide, n, rfl, rfl, rfl, C, kQ, kE⟩
  have hu := hu_of hr
  refine ⟨_, (pss_one (ps_if (pt_cmpR op_eq (pe_mt (ok_Counts_of G) hr (by decide) tk (pe_fld (pv 0) rfl) (pa_cons (pv 1) pa_nil)) pe_int (nomark _)) (pss_one (ps_raise rfl tk (ok_raise_NoNumber G))) pss_nil)), ?_⟩
  try simp only [cxOf_K]
  obtain ⟨dx, o⟩ := C.o
  obtain ⟨dc, oc⟩ := C.c.o
  refine k_if (g_test (g_op (g_mt (by walk_at "ev") oc rfl (g_cons (g_v (v_var rfl) (g_nil ?_))))))
  refine ⟨_, _, rfl, W, _, _, _, ts, n, rfl, rfl, rfl, C.c, fun c hc => ?_, fun e => kE (usedZ_no0 e)⟩
  refine g_v v_c (g_eq rfl (g_bl ?_))
  refine ite2 (fun h => ?_) (fun h => ?_)
  · simp at h
    subst h
    exact kE (usedZ_no hc)
  · simp at h
    exact k_next (kQ c (usedZ_of hc h))
theorem ok_Store_need (G : TX K mg) : MetX P w K mg base 2 (cc K "Store") "need" (sp_Store_need K) [] := let ⟨fd, F⟩ := G.F_Store_need; met_by G.c_Store G.m_Store_need F (bd_Store_need F) sc_Store_need Sp2.len (body_Store_need G (fd := fd))
end

def sp_Store_need_place (K : PySem.W.Frag) : Sp := Sp2 fun a b H Q E => ∃ W p dx l1 wide l2 n, H = Wd.H W ∧ a = .ref p ∧ b = .int n ∧ At W none p (.ins (cc K "Store") dx [("tally", .ref l1), ("wide", .int wide), ("lying", .ref l2)]) ∧
  (0 ≤ n ∧ n < wide → Q .non W.H) ∧ (¬ (0 ≤ n ∧ n < wide) → E (xc K "NoAddress") none W.H)
section
variable {P : Program} {w : World} {K : PySem.W.Frag} {mg : Str → Option Value} {base : Heap}
theorem body_Store_need_place (G : TX K mg) {fd : FuncData} {f : Addr} : BodyOk P w K mg base 0 ["self", "place"] "Store.need_place" (defScope s_Store_need_place) f (defBody s_Store_need_place) (sp_Store_need_place K) := by
  have iT : TK K := G.tk
  rintro cdv A outer s H vs Q E hr tk po ⟨_, _, rfl, W, p, dx, l1, wide, l2, n, rfl, rfl, rfl, o, kQ, kE⟩
  have hu := hu_of hr
  refine ⟨_, (pss_one (ps_if (pt_not (pt_chain op_le op_lt pe_int (pv 1) (pe_fld (pv 0) rfl))) (pss_one (ps_raise rfl tk (ok_raise_NoAddress G))) pss_nil)), ?_⟩
  try simp only [cxOf_K]
  refine k_ifT (by walk_at "ts") (fun h => ?_) (fun h => ?_)
  · refine kE ?_
    simp at h
    omega
  · simp at h
    exact k_next (kQ h)
theorem ok_Store_need_place (G : TX K mg) : MetX P w K mg base 1 (cc K "Store") "need_place" (sp_Store_need_place K) [] := let ⟨fd, F⟩ := G.F_Store_need_place; met_by G.c_Store G.m_Store_need_place F (bd_Store_need_place F) sc_Store_need_place Sp2.len (body_Store_need_place G (fd := fd))
end

def wordsOk (ns : List Int) (wide : Int) : Bool := decide ((ns.length : Int) = wide) && ns.all isW
def sp_Store_made (K : PySem.W.Frag) : Sp := Sp3 fun a b c H Q E => ∃ W m s A ts ws wide rq q ns n, H = Wd.H W ∧ a = .ref (StA.p A) ∧ b = .ref q ∧ c = .int n ∧ StoreAt K W m s A ts ws wide ∧ At W rq q (.lst (ns.map V.int)) ∧ isStore m s rq = false ∧ ns.length ≤ 100000 ∧
  (wordsOk ns wide = false → E (xc K "NoWord") none W.H) ∧
  (wordsOk ns wide = true → Res (firstZ ts) (fun i => ∀ W', Step (SStore m s) W W' → StoreAt K W' m s A (ts.set i n) (ws.set i ns) wide → Q (.int (i : Nat)) W'.H) (E (xc K "Full") none W.H))
section
variable {P : Program} {w : World} {K : PySem.W.Frag} {mg : Str → Option Value} {base : Heap}
theorem body_Store_made (G : TX K mg) {fd : FuncData} {f : Addr} : BodyOk P w K mg base 1 ["self", "words", "count", "word", "number"] "Store.made" (defScope s_Store_made) f (defBody s_Store_made) (sp_Store_made K) := by
  have iT : TK K := G.tk
  rintro cdv A outer s H vs Q E hr tk po ⟨_, _, _, rfl, W, m, s', A', ts, ws, wide, rq, q, ns, n, rfl, rfl, rfl, rfl, C, aq, hq, hns, kE, kR⟩
  have hu := hu_of hr
  refine ⟨_, (pss_cons (ps_if (pt_cmpR op_ne (pe_callB call_len (by rfl) G.b_len (by decide +kernel) (pa_cons (pv 1) pa_nil)) (pe_fld (pv 0) rfl) (nomark _)) (pss_one (ps_raise rfl tk (ok_raise_NoWord G))) pss_nil)
        (pss_cons (ps_for po rfl (pi_list (pv 1)) (pg_name (i := 3) sc_Store_made.nd rfl (Or.inl rfl))
        (pss_one (ps_if (pt_not (pt_val (pe_cl (ok_is_word G) hr (by decide) tk (by rfl) (pa_cons (pv 3) pa_nil)))) (pss_one (ps_raise rfl tk (ok_raise_NoWord G))) pss_nil)))
        (pss_cons (ps_set (i := 4) sc_Store_made.nd rfl (Or.inl rfl) (pe_mt (ok_Counts_taken G) hr (by decide) tk (pe_fld (pv 0) rfl) (pa_cons (pv 2) pa_nil)))
        (pss_cons (ps_asg (pe_callTy call_listK (by rfl) G.b_list (by decide +kernel) (pa_cons (pv 1) pa_nil)) (pg_sub (pe_fld (pv 0) rfl) (pv 4) set_list (fun _ => rfl)))
        (pss_one (ps_ret (pv 4))))))), ?_⟩
  try simp only [cxOf_K]
  obtain ⟨dx, o⟩ := C.o
  obtain ⟨dc, oc⟩ := C.c.o
  refine k_seq (k_ifT (by walk_at "ts") (fun h => ?_) (fun h => ?_))
  · refine kE ?_
    simp at h
    unfold wordsOk
    simp [h]
  · simp at h
    refine k_next (k_seq (k_forL (v_var rfl) (SqL.of aq.h) (fun i σ' W' => W' = W ∧ (∃ v, σ' = [some (.ref A'.p), some (.ref q), some (.int n), v, none]) ∧ ∀ x ∈ ns.take i, isW x = true) ⟨rfl, ⟨none, rfl⟩, fun x hx => by simp at hx⟩ (fun i σ' W' _ ⟨e, _, _⟩ => by subst e; exact SqL.of aq.h) ?_ ?_))
    · rintro i x σ' W' hx ⟨rfl, ⟨v, rfl⟩, hz⟩
      rw [List.getElem?_map] at hx
      obtain ⟨y, hy, rfl⟩ := Option.map_eq_some_iff.mp hx
      refine g_tname (k_if (g_not ?_))
      refine g_cl (g_cons (g_v (v_var rfl) (g_nil ⟨_, rfl, y, rfl, ⟨_, rfl, ?_⟩⟩)))
      have hyl := (List.getElem?_eq_some_iff.mp hy)
      cases hw : isW y with
      | true =>
        refine iteF (k_next ⟨W', rfl, rfl, ⟨_, rfl⟩, fun z hz' => ?_⟩)
        rw [List.take_add_one, hy] at hz'
        rcases List.mem_append.mp hz' with hz' | hz'
        · exact hz z hz'
        · have : z = y := by simpa using hz'
          rw [this]; exact hw
      | false =>
        refine iteT (kE ?_)
        unfold wordsOk
        have : ns.all isW = false := by
          rw [List.all_eq_false]
          exact ⟨y, List.mem_of_getElem? hy, by simp [hw]⟩
        rw [this, Bool.and_false]
    · rintro σ' W' ⟨rfl, ⟨v, rfl⟩, hz⟩
      rw [List.length_map, List.take_length] at hz
      have hok : wordsOk ns wide = true := by
        unfold wordsOk
        simp [h]
        exact hz
      obtain ⟨kQ, kF⟩ := kR hok
      refine k_seq (k_set (g_mt (by walk_at "ev") oc rfl (g_cons (g_v (v_var rfl) (g_nil ?_)))))
      refine ⟨_, _, rfl, W', _, _, _, ts, n, by simp, rfl, rfl, rfl, C.c, fun i hi W1 s1 C1 => ?_, kF⟩
      have o1 := o.step s1 (by walk_at "no")
      have aq1 := aq.step s1 (fun e => by rw [e] at hq; simp [isStore] at hq)
      have SC := C.tally s1 C1 (by rw [List.length_set])
      have hit : i < ts.length := by
        unfold firstZ at hi
        rw [List.findIdx?_eq_some_iff_getElem] at hi
        exact hi.1
      refine k_asg (g_cb (g_cons (g_v (v_var rfl) (g_nil (g_listof (some (.row m s' i)) (.inl (SqL.of aq1.h)) fun q' W2 n2 a2 s2 => ?_)))))
      have o2 := o1.step s2 (by walk_at "no")
      obtain ⟨rows, r1, r2, r3⟩ := SC.ll
      have r1' := r1.step s2 (by walk_at "no")
      refine g_sub (g_v (by walk_at "ev") (g_v (v_var rfl) (g_setL r1' (j := i) ?_ fun W3 a3 s3 => ?_)))
      · unfold ixN
        rw [List.length_map, r2, List.length_set, if_pos (by omega), if_pos (by omega)]; rfl
      · rw [map_set'] at a3
        have s3' := SR.of r1' s3
        have SC3 := SC.row s2 r1 a2 s3' a3
        exact k_ret (g_v (v_var rfl) (kQ i hi W3 ((sStore1 s1).tr (s2.n1 (sStore2 s3'))) SC3))
theorem ok_Store_made (G : TX K mg) : MetX P w K mg base 2 (cc K "Store") "made" (sp_Store_made K) [] := let ⟨fd, F⟩ := G.F_Store_made; met_by G.c_Store G.m_Store_made F (bd_Store_made F) sc_Store_made Sp3.len (body_Store_made G (fd := fd))
end

def sp_Store_words (K : PySem.W.Frag) : Sp := Sp2 fun a b H Q E => ∃ W m s A ts ws wide n, H = Wd.H W ∧ a = .ref (StA.p A) ∧ b = .int n ∧ StoreAt K W m s A ts ws wide ∧
  (∀ c w, usedZ ts n = some c → ws[n.toNat]? = some w → ∀ W' q, W.H q = none → Step SNone W W' → At W' none q (.lst (w.map V.int)) → Q (.ref q) W'.H) ∧ (usedZ ts n = none → E (xc K "NoNumber") none W.H)
section
variable {P : Program} {w : World} {K : PySem.W.Frag} {mg : Str → Option Value} {base : Heap}
theorem body_Store_words (G : TX K mg) {fd : FuncData} {f : Addr} : BodyOk P w K mg base 2 ["self", "number"] "Store.words" (defScope s_Store_words) f (defBody s_Store_words) (sp_Store_words K) := by
  have iT : TK K := G.tk
  rintro cdv A outer s H vs Q E hr tk po ⟨_, _, rfl, W, m, s', A', ts, ws, wide, n, rfl, rfl, rfl, C, kQ, kE⟩
  have hu := hu_of hr
  refine ⟨_, (pss_cons (ps_expr (pe_mt (ok_Store_need G) hr (by decide) tk (pv 0) (pa_cons (pv 1) pa_nil)))
        (pss_one (ps_ret (pe_callTy call_listK (by rfl) G.b_list (by decide +kernel) (pa_cons (pe_ix ix_seq (pe_fld (pv 0) rfl) (pv 1) (fun _ _ => rfl)) pa_nil))))), ?_⟩
  try simp only [cxOf_K]
  obtain ⟨dx, o⟩ := C.o
  refine k_seq (k_drop (g_mt (v_var rfl) o rfl (g_cons (g_v (v_var rfl) (g_nil ?_)))))
  refine ⟨_, _, rfl, W, m, s', A', ts, ws, wide, n, rfl, rfl, rfl, C, fun c hc => ?_, kE⟩
  obtain ⟨h1, h2, h3⟩ := atZ_some (usedZ_some hc).1
  obtain ⟨rows, r1, r2, r3⟩ := C.ll
  have hlr : n.toNat < rows.length := by omega
  have hlw : n.toNat < ws.length := by rw [C.n]; omega
  have hx : atI (rows.map V.ref) n = some (.ref rows[n.toNat]) := atZ_mapV (f := V.ref) (by unfold atZ; rw [if_pos ⟨h1, by omega⟩, List.getElem?_eq_getElem hlr])
  have ar := r3 n.toNat _ _ (List.getElem?_eq_getElem hlr) (List.getElem?_eq_getElem hlw)
  exact k_ret (g_cb (g_cons (g_v (by walk_at "ev") (g_nil (g_listof none (.inl (SqL.of ar.h)) fun q W' n a s => kQ c _ hc (List.getElem?_eq_getElem hlw) W' q n s a)))))
theorem ok_Store_words (G : TX K mg) : MetX P w K mg base 3 (cc K "Store") "words" (sp_Store_words K) [] := let ⟨fd, F⟩ := G.F_Store_words; met_by G.c_Store G.m_Store_words F (bd_Store_words F) sc_Store_words Sp2.len (body_Store_words G (fd := fd))
end

def sp_Store_word (K : PySem.W.Frag) : Sp := Sp3 fun a b c H Q E => ∃ W m s A ts ws wide n k, H = Wd.H W ∧ a = .ref (StA.p A) ∧ b = .int n ∧ c = .int k ∧ StoreAt K W m s A ts ws wide ∧
  (usedZ ts n = none → E (xc K "NoNumber") none W.H) ∧ (∀ d w, usedZ ts n = some d → ws[n.toNat]? = some w → (¬ (0 ≤ k ∧ k < wide) → E (xc K "NoAddress") none W.H) ∧ (0 ≤ k ∧ k < wide → ∃ z, atZ w k = some z ∧ Q (.int z) W.H))
section
variable {P : Program} {w : World} {K : PySem.W.Frag} {mg : Str → Option Value} {base : Heap}
theorem body_Store_word (G : TX K mg) {fd : FuncData} {f : Addr} : BodyOk P w K mg base 2 ["self", "number", "place"] "Store.word" (defScope s_Store_word) f (defBody s_Store_word) (sp_Store_word K) := by
  have iT : TK K := G.tk
  rintro cdv A outer s H vs Q E hr tk po ⟨_, _, _, rfl, W, m, s', A', ts, ws, wide, n, k, rfl, rfl, rfl, rfl, C, kE, kQ⟩
  have hu := hu_of hr
  refine ⟨_, (pss_cons (ps_expr (pe_mt (ok_Store_need G) hr (by decide) tk (pv 0) (pa_cons (pv 1) pa_nil)))
        (pss_cons (ps_expr (pe_mt (ok_Store_need_place G) hr (by decide) tk (pv 0) (pa_cons (pv 2) pa_nil)))
        (pss_one (ps_ret (pe_ix ix_seq (pe_ix ix_seq (pe_fld (pv 0) rfl) (pv 1) (fun _ _ => rfl)) (pv 2) (fun _ _ => rfl)))))), ?_⟩
  try simp only [cxOf_K]
  obtain ⟨dx, o⟩ := C.o
  refine k_seq (k_drop (g_mt (v_var rfl) o rfl (g_cons (g_v (v_var rfl) (g_nil ?_)))))
  refine ⟨_, _, rfl, W, m, s', A', ts, ws, wide, n, rfl, rfl, rfl, C, fun c hc => ?_, kE⟩
  obtain ⟨h1, h2, h3⟩ := atZ_some (usedZ_some hc).1
  obtain ⟨rows, r1, r2, r3⟩ := C.ll
  have hlr : n.toNat < rows.length := by omega
  have hlw : n.toNat < ws.length := by rw [C.n]; omega
  obtain ⟨k1, k2⟩ := kQ c _ hc (List.getElem?_eq_getElem hlw)
  refine k_seq (k_drop (g_mt (v_var rfl) o rfl (g_cons (g_v (v_var rfl) (g_nil ?_)))))
  refine ⟨_, _, rfl, W, _, dx, _, wide, _, k, rfl, rfl, rfl, o, fun hk => ?_, k1⟩
  obtain ⟨z, hz, kz⟩ := k2 hk
  have hx : atI (rows.map V.ref) n = some (.ref rows[n.toNat]) := atZ_mapV (f := V.ref) (by unfold atZ; rw [if_pos ⟨h1, by omega⟩, List.getElem?_eq_getElem hlr])
  have ar := r3 n.toNat _ _ (List.getElem?_eq_getElem hlr) (List.getElem?_eq_getElem hlw)
  have hx2 := atZ_mapV (f := V.int) hz
  exact k_ret (g_v (by walk_at "ev") kz)
theorem ok_Store_word (G : TX K mg) : MetX P w K mg base 3 (cc K "Store") "word" (sp_Store_word K) [] := let ⟨fd, F⟩ := G.F_Store_word; met_by G.c_Store G.m_Store_word F (bd_Store_word F) sc_Store_word Sp3.len (body_Store_word G (fd := fd))
end

def sp_Store_put (K : PySem.W.Frag) : Sp := Sp4 fun a b c d H Q E => ∃ W m s A ts ws wide n k z, H = Wd.H W ∧ a = .ref (StA.p A) ∧ b = .int n ∧ c = .int k ∧ d = .int z ∧ StoreAt K W m s A ts ws wide ∧
  (usedZ ts n = none → E (xc K "NoNumber") none W.H) ∧ (∀ e w, usedZ ts n = some e → ws[n.toNat]? = some w → (¬ (0 ≤ k ∧ k < wide) → E (xc K "NoAddress") none W.H) ∧ (0 ≤ k ∧ k < wide → (isW z = false → E (xc K "NoWord") none W.H) ∧
    (isW z = true → k < w.length ∧ ∀ W', Step (SStore m s) W W' → StoreAt K W' m s A ts (ws.set n.toNat (w.set k.toNat z)) wide → Q .non W'.H)))
section
variable {P : Program} {w : World} {K : PySem.W.Frag} {mg : Str → Option Value} {base : Heap}
theorem body_Store_put (G : TX K mg) {fd : FuncData} {f : Addr} : BodyOk P w K mg base 2 ["self", "number", "place", "word"] "Store.put" (defScope s_Store_put) f (defBody s_Store_put) (sp_Store_put K) := by
  have iT : TK K := G.tk
  rintro cdv A outer s H vs Q E hr tk po ⟨_, _, _, _, rfl, W, m, s', A', ts, ws, wide, n, k, z, rfl, rfl, rfl, rfl, rfl, C, kE, kQ⟩
  have hu := hu_of hr
  refine ⟨_, (pss_cons (ps_expr (pe_mt (ok_Store_need G) hr (by decide) tk (pv 0) (pa_cons (pv 1) pa_nil)))
        (pss_cons (ps_expr (pe_mt (ok_Store_need_place G) hr (by decide) tk (pv 0) (pa_cons (pv 2) pa_nil)))
        (pss_cons (ps_if (pt_not (pt_val (pe_cl (ok_is_word G) hr (by decide) tk (by rfl) (pa_cons (pv 3) pa_nil)))) (pss_one (ps_raise rfl tk (ok_raise_NoWord G))) pss_nil)
        (pss_one (ps_asg (pv 3) (pg_sub (pe_ix ix_seq (pe_fld (pv 0) rfl) (pv 1) (fun _ _ => rfl)) (pv 2) set_list (fun _ => rfl))))))), ?_⟩
  try simp only [cxOf_K]
  obtain ⟨dx, o⟩ := C.o
  refine k_seq (k_drop (g_mt (v_var rfl) o rfl (g_cons (g_v (v_var rfl) (g_nil ?_)))))
  refine ⟨_, _, rfl, W, m, s', A', ts, ws, wide, n, rfl, rfl, rfl, C, fun c hc => ?_, kE⟩
  obtain ⟨h1, h2, h3⟩ := atZ_some (usedZ_some hc).1
  obtain ⟨rows, r1, r2, r3⟩ := C.ll
  have hlr : n.toNat < rows.length := by omega
  have hlw : n.toNat < ws.length := by rw [C.n]; omega
  obtain ⟨k1, k2⟩ := kQ c _ hc (List.getElem?_eq_getElem hlw)
  refine k_seq (k_drop (g_mt (v_var rfl) o rfl (g_cons (g_v (v_var rfl) (g_nil ?_)))))
  refine ⟨_, _, rfl, W, _, dx, _, wide, _, k, rfl, rfl, rfl, o, fun hk => ?_, k1⟩
  obtain ⟨k3, k4⟩ := k2 hk
  refine k_seq (k_if (g_not (g_cl (g_cons (g_v (v_var rfl) (g_nil ⟨_, rfl, z, rfl, ⟨_, rfl, ?_⟩⟩))))))
  cases hw : isW z with
  | false => exact iteT (k3 hw)
  | true =>
    obtain ⟨hkl, k5⟩ := k4 hw
    have hx : atI (rows.map V.ref) n = some (.ref rows[n.toNat]) := atZ_mapV (f := V.ref) (by unfold atZ; rw [if_pos ⟨h1, by omega⟩, List.getElem?_eq_getElem hlr])
    have ar := r3 n.toNat _ _ (List.getElem?_eq_getElem hlr) (List.getElem?_eq_getElem hlw)
    refine iteF (k_next (k_asg (g_v (v_var rfl) (g_sub (g_v (by walk_at "ev") (g_v (v_var rfl) (g_setL ar (j := k.toNat) ?_ fun W1 a1 s1 => ?_)))))))
    · unfold ixN
      rw [List.length_map, if_pos (by omega), if_pos (by omega)]
    · rw [map_set'] at a1
      have s1' := SR.of ar s1
      refine k5 W1 (sStore3 s1') ⟨⟨dx, o.step s1' (by walk_at "no")⟩, C.c.step s1' (by walk_at "no") (by walk_at "no"), by rw [List.length_set]; exact C.n, C.w, rows, r1.step s1' (by walk_at "no"), r2, fun i a w e1 e2 => ?_⟩
      by_cases hi : i = n.toNat
      · subst hi
        rw [List.getElem?_set_self hlw] at e2
        rw [List.getElem?_eq_getElem hlr] at e1
        cases e1; cases e2
        exact a1
      · rw [List.getElem?_set_ne (fun e => hi e.symm)] at e2
        exact (r3 i a w e1 e2).step s1' (fun e => hi (by injection e with e; injection e))
theorem ok_Store_put (G : TX K mg) : MetX P w K mg base 3 (cc K "Store") "put" (sp_Store_put K) [] := let ⟨fd, F⟩ := G.F_Store_put; met_by G.c_Store G.m_Store_put F (bd_Store_put F) sc_Store_put Sp4.len (body_Store_put G (fd := fd))
end

def sp_Store_more (K : PySem.W.Frag) : Sp := Sp2 fun a b H Q E => ∃ W m s A ts ws wide n, H = Wd.H W ∧ a = .ref (StA.p A) ∧ b = .int n ∧ StoreAt K W m s A ts ws wide ∧
  Res (usedZ ts n) (fun c => ∀ W', Step (SStore m s) W W' → StoreAt K W' m s A (ts.set n.toNat (c + 1)) ws wide → Q (.int (c + 1)) W'.H) (E (xc K "NoNumber") none W.H)
section
variable {P : Program} {w : World} {K : PySem.W.Frag} {mg : Str → Option Value} {base : Heap}
theorem body_Store_more (G : TX K mg) {fd : FuncData} {f : Addr} : BodyOk P w K mg base 3 ["self", "number"] "Store.more" (defScope s_Store_more) f (defBody s_Store_more) (sp_Store_more K) := by
  have iT : TK K := G.tk
  rintro cdv A outer s H vs Q E hr tk po ⟨_, _, rfl, W, m, s', A', ts, ws, wide, n, rfl, rfl, rfl, C, kQ, kE⟩
  have hu := hu_of hr
  refine ⟨_, (pss_one (ps_ret (pe_mt (ok_Counts_more G) hr (by decide) tk (pe_fld (pv 0) rfl) (pa_cons (pv 1) pa_nil)))), ?_⟩
  try simp only [cxOf_K]
  obtain ⟨dx, o⟩ := C.o
  obtain ⟨dc, oc⟩ := C.c.o
  refine k_ret (g_mt (by walk_at "ev") oc rfl (g_cons (g_v (v_var rfl) (g_nil ?_))))
  refine ⟨_, _, rfl, W, _, _, _, ts, n, by simp, rfl, rfl, rfl, C.c, fun c hc W1 s1 C1 => ?_, kE⟩
  exact kQ c hc W1 (sStore1 s1) (C.tally s1 C1 (by rw [List.length_set]))
theorem ok_Store_more (G : TX K mg) : MetX P w K mg base 4 (cc K "Store") "more" (sp_Store_more K) [] := let ⟨fd, F⟩ := G.F_Store_more; met_by G.c_Store G.m_Store_more F (bd_Store_more F) sc_Store_more Sp2.len (body_Store_more G (fd := fd))
end

def sp_Store_less (K : PySem.W.Frag) : Sp := Sp2 fun a b H Q E => ∃ W m s A ts ws wide n, H = Wd.H W ∧ a = .ref (StA.p A) ∧ b = .int n ∧ StoreAt K W m s A ts ws wide ∧
  Res (usedZ ts n) (fun c => ∀ W', Step (SStore m s) W W' → StoreAt K W' m s A (ts.set n.toNat (c - 1)) (if c = 1 then ws.set n.toNat [] else ws) wide → Q (.int (c - 1)) W'.H) (E (xc K "NoNumber") none W.H)
section
variable {P : Program} {w : World} {K : PySem.W.Frag} {mg : Str → Option Value} {base : Heap}
theorem body_Store_less (G : TX K mg) {fd : FuncData} {f : Addr} : BodyOk P w K mg base 3 ["self", "number", "left"] "Store.less" (defScope s_Store_less) f (defBody s_Store_less) (sp_Store_less K) := by
  have iT : TK K := G.tk
  rintro cdv A outer s H vs Q E hr tk po ⟨_, _, rfl, W, m, s', A', ts, ws, wide, n, rfl, rfl, rfl, C, kQ, kE⟩
  have hu := hu_of hr
  refine ⟨_, (pss_cons (ps_set (i := 2) sc_Store_less.nd rfl (Or.inl rfl) (pe_mt (ok_Counts_less G) hr (by decide) tk (pe_fld (pv 0) rfl) (pa_cons (pv 1) pa_nil)))
        (pss_cons (ps_if (pt_cmpR op_eq (pv 2) pe_int (nomark _)) (pss_one (ps_asg (pe_lst pa_nil) (pg_sub (pe_fld (pv 0) rfl) (pv 1) set_list (fun _ => rfl)))) pss_nil)
        (pss_one (ps_ret (pv 2))))), ?_⟩
  try simp only [cxOf_K]
  obtain ⟨dx, o⟩ := C.o
  obtain ⟨dc, oc⟩ := C.c.o
  refine k_seq (k_set (g_mt (by walk_at "ev") oc rfl (g_cons (g_v (v_var rfl) (g_nil ?_)))))
  refine ⟨_, _, rfl, W, _, _, _, ts, n, by simp, rfl, rfl, rfl, C.c, fun c hc W1 s1 C1 => ?_, kE⟩
  have SC := C.tally s1 C1 (by rw [List.length_set])
  have o1 := o.step s1 (by walk_at "no")
  obtain ⟨h1, h2, h3⟩ := atZ_some (usedZ_some hc).1
  have q := kQ c hc
  dsimp only at q
  refine k_seq (k_ifT (by walk_at "ts") (fun h => ?_) (fun h => ?_))
  · simp at h
    rw [if_pos (by omega)] at q
    obtain ⟨rows, r1, r2, r3⟩ := SC.ll
    refine k_asg (g_lst (g_nil (new_lr (some (.row m s' n.toNat)) rfl fun q' W2 n2 a2 s2 => ?_)))
    have o2 := o1.step s2 (by walk_at "no")
    have r1' := r1.step s2 (by walk_at "no")
    refine g_sub (g_v (by walk_at "ev") (g_v (v_var rfl) (g_setL r1' (j := n.toNat) ?_ fun W3 a3 s3 => ?_)))
    · unfold ixN
      rw [List.length_map, r2, List.length_set, if_pos (by omega), if_pos (by omega)]
    · rw [map_set'] at a3
      have s3' := SR.of r1' s3
      exact k_ret (g_v (v_var rfl) (q W3 ((sStore1 s1).tr (s2.n1 (sStore2 s3'))) (SC.row (w := []) s2 r1 a2 s3' a3)))
  · simp at h
    rw [if_neg (by omega)] at q
    exact k_next (k_ret (g_v (v_var rfl) (q W1 (sStore1 s1) SC)))
theorem ok_Store_less (G : TX K mg) : MetX P w K mg base 4 (cc K "Store") "less" (sp_Store_less K) [] := let ⟨fd, F⟩ := G.F_Store_less; met_by G.c_Store G.m_Store_less F (bd_Store_less F) sc_Store_less Sp2.len (body_Store_less G (fd := fd))
end

def sp_Store_gone (K : PySem.W.Frag) : Sp := Sp2 fun a b H Q E => ∃ W m s A ts ws wide n, H = Wd.H W ∧ a = .ref (StA.p A) ∧ b = .int n ∧ StoreAt K W m s A ts ws wide ∧
  (usedZ ts n = none → E (xc K "NoNumber") none W.H) ∧ (∀ c w, usedZ ts n = some c → ws[n.toNat]? = some w → ∀ W' t q, W.H t = none → W.H q = none → Step (SStore m s) W W' → StoreAt K W' m s A (ts.set n.toNat 0) (ws.set n.toNat []) wide → At W' none q (.lst (w.map V.int)) → At W' none t (.tup [.ref q, .int c]) → Q (.ref t) W'.H)
section
variable {P : Program} {w : World} {K : PySem.W.Frag} {mg : Str → Option Value} {base : Heap}
theorem body_Store_gone (G : TX K mg) {fd : FuncData} {f : Addr} : BodyOk P w K mg base 3 ["self", "number", "words"] "Store.gone" (defScope s_Store_gone) f (defBody s_Store_gone) (sp_Store_gone K) := by
  have iT : TK K := G.tk
  rintro cdv A outer s H vs Q E hr tk po ⟨_, _, rfl, W, m, s', A', ts, ws, wide, n, rfl, rfl, rfl, C, kE, kQ⟩
  have hu := hu_of hr
  refine ⟨_, (pss_cons (ps_set (i := 2) sc_Store_gone.nd rfl (Or.inl rfl) (pe_mt (ok_Store_words G) hr (by decide) tk (pv 0) (pa_cons (pv 1) pa_nil)))
        (pss_cons (ps_asg (pe_lst pa_nil) (pg_sub (pe_fld (pv 0) rfl) (pv 1) set_list (fun _ => rfl)))
        (pss_one (ps_ret (pe_tup (pa_cons (pv 2) (pa_cons (pe_mt (ok_Counts_freed G) hr (by decide) tk (pe_fld (pv 0) rfl) (pa_cons (pv 1) pa_nil)) pa_nil))))))), ?_⟩
  try simp only [cxOf_K]
  obtain ⟨dx, o⟩ := C.o
  refine k_seq (k_set (g_mt (v_var rfl) o rfl (g_cons (g_v (v_var rfl) (g_nil ?_)))))
  refine ⟨_, _, rfl, W, m, s', A', ts, ws, wide, n, rfl, rfl, rfl, C, fun c w hc hw W1 q1 n1 s1 a1 => ?_, kE⟩
  obtain ⟨h1, h2, h3⟩ := atZ_some (usedZ_some hc).1
  have o1 := o.step s1 (by walk_at "no")
  have C1 := C.step s1 (fun a r _ => by walk_at "no")
  refine k_seq (k_asg (g_lst (g_nil (new_lr (some (.row m s' n.toNat)) rfl fun q' W2 n2 a2 s2 => ?_))))
  have o2 := o1.step s2 (by walk_at "no")
  obtain ⟨rows, r1, r2, r3⟩ := C1.ll
  have r1' := r1.step s2 (by walk_at "no")
  refine g_sub (g_v (by walk_at "ev") (g_v (v_var rfl) (g_setL r1' (j := n.toNat) ?_ fun W3 a3 s3 => ?_)))
  · unfold ixN
    rw [List.length_map, r2, if_pos (by omega), if_pos (by omega)]
  · rw [map_set'] at a3
    have s3' := SR.of r1' s3
    have SC := C1.row (w := []) s2 r1 a2 s3' a3
    have o3 := o2.step s3' (by walk_at "no")
    obtain ⟨dc, oc⟩ := SC.c.o
    refine k_ret (g_tup (g_cons (g_v (v_var rfl) (g_cons (g_mt (by walk_at "ev") oc rfl (g_cons (g_v (v_var rfl) (g_nil ?_))))))))
    refine ⟨_, _, rfl, W3, _, _, _, ts, n, by simp, rfl, rfl, rfl, SC.c, fun c' hc' W4 s4 C4 => ?_, fun e => by rw [hc] at e; cases e⟩
    rw [hc] at hc'
    cases hc'
    refine g_nil (new_t rfl fun t W5 n5 a5 s5 => ?_)
    have a1' := (((a1.step s2 (by walk_at "no")).step s3' (by walk_at "no")).step s4 (by walk_at "no")).step s5 (by walk_at "no")
    have SC4 := (SC.tally s4 C4 (by rw [List.length_set])).step s5 (fun a r _ => by walk_at "no")
    refine kQ c w hc hw W5 t q1 (s1.live _ (s2.live _ (s3.live _ (s4.live _ n5)))) n1 ((s1.n1 (s2.n1 (sStore2 s3'))).tr ((sStore1 s4).n2 s5)) SC4 a1' a5
theorem ok_Store_gone (G : TX K mg) : MetX P w K mg base 4 (cc K "Store") "gone" (sp_Store_gone K) [] := let ⟨fd, F⟩ := G.F_Store_gone; met_by G.c_Store G.m_Store_gone F (bd_Store_gone F) sc_Store_gone Sp2.len (body_Store_gone G (fd := fd))
end

def sp_Store_counts (K : PySem.W.Frag) : Sp := Sp1 fun a H Q E => ∃ W m s A ts ws wide, H = Wd.H W ∧ a = .ref (StA.p A) ∧ StoreAt K W m s A ts ws wide ∧
  ∀ W' q, W.H q = none → Step SNone W W' → At W' none q (.lst (ts.map V.int)) → Q (.ref q) W'.H
section
variable {P : Program} {w : World} {K : PySem.W.Frag} {mg : Str → Option Value} {base : Heap}
theorem body_Store_counts (G : TX K mg) {fd : FuncData} {f : Addr} : BodyOk P w K mg base 1 ["self"] "Store.counts" (defScope s_Store_counts) f (defBody s_Store_counts) (sp_Store_counts K) := by
  have iT : TK K := G.tk
  rintro cdv A outer s H vs Q E hr tk po ⟨_, rfl, W, m, s', A', ts, ws, wide, rfl, rfl, C, kQ⟩
  have hu := hu_of hr
  refine ⟨_, (pss_one (ps_ret (pe_mt0 (ok_Counts_told G) hr (by decide) tk (pe_fld (pv 0) rfl)))), ?_⟩
  try simp only [cxOf_K]
  obtain ⟨dx, o⟩ := C.o
  obtain ⟨dc, oc⟩ := C.c.o
  exact k_ret (g_mt (by walk_at "ev") oc rfl (g_nil ⟨_, rfl, W, _, _, _, ts, rfl, rfl, C.c, kQ⟩))
theorem ok_Store_counts (G : TX K mg) : MetX P w K mg base 2 (cc K "Store") "counts" (sp_Store_counts K) [] := let ⟨fd, F⟩ := G.F_Store_counts; met_by G.c_Store G.m_Store_counts F (bd_Store_counts F) sc_Store_counts Sp1.len (body_Store_counts G (fd := fd))
end

def sp_Store_free (K : PySem.W.Frag) : Sp := Sp1 fun a H Q E => ∃ W m s A ts ws wide, H = Wd.H W ∧ a = .ref (StA.p A) ∧ StoreAt K W m s A ts ws wide ∧ Q (.int (ts.count 0 : Nat)) W.H
section
variable {P : Program} {w : World} {K : PySem.W.Frag} {mg : Str → Option Value} {base : Heap}
theorem body_Store_free (G : TX K mg) {fd : FuncData} {f : Addr} : BodyOk P w K mg base 1 ["self"] "Store.free" (defScope s_Store_free) f (defBody s_Store_free) (sp_Store_free K) := by
  have iT : TK K := G.tk
  rintro cdv A outer s H vs Q E hr tk po ⟨_, rfl, W, m, s', A', ts, ws, wide, rfl, rfl, C, kQ⟩
  have hu := hu_of hr
  refine ⟨_, (pss_one (ps_ret (pe_mt0 (ok_Counts_free G) hr (by decide) tk (pe_fld (pv 0) rfl)))), ?_⟩
  try simp only [cxOf_K]
  obtain ⟨dx, o⟩ := C.o
  obtain ⟨dc, oc⟩ := C.c.o
  exact k_ret (g_mt (by walk_at "ev") oc rfl (g_nil ⟨_, rfl, W, _, _, _, ts, rfl, rfl, C.c, kQ⟩))
theorem ok_Store_free (G : TX K mg) : MetX P w K mg base 2 (cc K "Store") "free" (sp_Store_free K) [] := let ⟨fd, F⟩ := G.F_Store_free; met_by G.c_Store G.m_Store_free F (bd_Store_free F) sc_Store_free Sp1.len (body_Store_free G (fd := fd))
end

def sp_Leaf___init__ (K : PySem.W.Frag) : Sp := Sp2 fun a b H Q E => ∃ W r0 p C dx n, H = Wd.H W ∧ a = .ref p ∧ b = .int n ∧ HasF K C "rights" ∧ At W r0 p (.ins C dx []) ∧
  (0 ≤ n ∧ n ≤ 3 → ∀ W', Step (SAt p) W W' → At W' r0 p (.ins C dx [("rights", .int n)]) → Q .non W'.H) ∧ (¬ (0 ≤ n ∧ n ≤ 3) → E (xc K "NoRights") none W.H)
section
variable {P : Program} {w : World} {K : PySem.W.Frag} {mg : Str → Option Value} {base : Heap}
theorem body_Leaf___init__ (G : TX K mg) {fd : FuncData} {f : Addr} : BodyOk P w K mg base 0 ["self", "rights"] "Leaf.__init__" (defScope s_Leaf___init__) f (defBody s_Leaf___init__) (sp_Leaf___init__ K) := by
  have iT : TK K := G.tk
  rintro cdv A outer s H vs Q E hr tk po ⟨_, _, rfl, W, r0, p, C, dx, n, rfl, rfl, rfl, iC, o, kQ, kE⟩
  have hu := hu_of hr
  refine ⟨_, (pss_cons (ps_if (pt_not (pt_chain op_le op_le pe_int (pv 1) (pe_op op_or (pe_ci G.i_READ) (pe_ci G.i_WRITE)))) (pss_one (ps_raise rfl tk (ok_raise_NoRights G))) pss_nil)
        (pss_one (ps_fld (pv 0) (pv 1) rfl))), ?_⟩
  try simp only [cxOf_K]
  refine k_seq (k_ifT (by walk_at "ts") (fun h => ?_) (fun h => ?_))
  · refine kE ?_
    rw [bitOr12] at h
    simp at h
    omega
  · rw [bitOr12] at h
    simp at h
    exact k_next (k_fld (g_v (v_var rfl) (g_v (v_var rfl) (g_setF o iC rfl fun W3 a3 s3 => kQ h W3 s3 a3))))
theorem ok_Leaf_make (G : TX K mg) : MakX P w K mg base 1 "Leaf" (cc K "Leaf") (sp_Leaf___init__ K) [] := let ⟨fd, F⟩ := G.F_Leaf___init__; mak_by G.g_Leaf G.k_Leaf F (bd_Leaf___init__ F) sc_Leaf___init__ Sp2.len (body_Leaf___init__ G (fd := fd))
theorem ok_Leaf___init__ (G : TX K mg) : ClmX P w K mg base 1 (cc K "Leaf") "__init__" (sp_Leaf___init__ K) [] := let ⟨fd, F⟩ := G.F_Leaf___init__; clm_by G.cm_Leaf___init__ (fn_by F sc_Leaf___init__ Sp2.len (body_Leaf___init__ G (fd := fd))) (bd_Leaf___init__ F)
end

def sp_Held___init__ (K : PySem.W.Frag) : Sp := Sp3 fun a b c H Q E => ∃ W p dx n f, H = Wd.H W ∧ a = .ref p ∧ b = .int n ∧ c = .int f ∧ At W none p (.ins (cc K "Held") dx []) ∧
  (0 ≤ n ∧ n ≤ 3 → ∀ W', Step (SAt p) W W' → LeafAt K W' p (.held n f) → Q .non W'.H) ∧ (¬ (0 ≤ n ∧ n ≤ 3) → E (xc K "NoRights") none W.H)
section
variable {P : Program} {w : World} {K : PySem.W.Frag} {mg : Str → Option Value} {base : Heap}
theorem body_Held___init__ (G : TX K mg) {fd : FuncData} {f : Addr} : BodyOk P w K mg base 1 ["self", "rights", "frame"] "Held.__init__" (defScope s_Held___init__) f (defBody s_Held___init__) (sp_Held___init__ K) := by
  have iT : TK K := G.tk
  rintro cdv A outer s H vs Q E hr tk po ⟨_, _, _, rfl, W, p, dx, n, f, rfl, rfl, rfl, rfl, o, kQ, kE⟩
  have hu := hu_of hr
  refine ⟨_, (pss_cons (ps_expr (pe_clsm (ok_Leaf___init__ G) hr (by decide) tk (by rfl) G.g_Leaf (pa_cons (pv 0) (pa_cons (pv 1) pa_nil))))
        (pss_one (ps_fld (pv 0) (pv 2) rfl))), ?_⟩
  try simp only [cxOf_K]
  refine k_seq (k_drop (g_cl (g_cons (g_v (v_var rfl) (g_cons (g_v (v_var rfl) (g_nil ?_)))))))
  refine ⟨_, _, rfl, W, none, p, _, dx, n, rfl, rfl, rfl, inferInstance, o, fun h W1 s1 a1 => ?_, kE⟩
  exact k_fld (g_v (v_var rfl) (g_v (v_var rfl) (g_setF a1 inferInstance rfl fun W3 a3 s3 => kQ h W3 (s1.tr s3) ⟨rfl, dx, a3⟩)))
theorem ok_Held_make (G : TX K mg) : MakX P w K mg base 2 "Held" (cc K "Held") (sp_Held___init__ K) [] := let ⟨fd, F⟩ := G.F_Held___init__; mak_by G.g_Held G.k_Held F (bd_Held___init__ F) sc_Held___init__ Sp3.len (body_Held___init__ G (fd := fd))
end

def sp_Out___init__ (K : PySem.W.Frag) : Sp := Sp3 fun a b c H Q E => ∃ W p dx n f, H = Wd.H W ∧ a = .ref p ∧ b = .int n ∧ c = .int f ∧ At W none p (.ins (cc K "Out") dx []) ∧
  (0 ≤ n ∧ n ≤ 3 → ∀ W', Step (SAt p) W W' → LeafAt K W' p (.out n f) → Q .non W'.H) ∧ (¬ (0 ≤ n ∧ n ≤ 3) → E (xc K "NoRights") none W.H)
section
variable {P : Program} {w : World} {K : PySem.W.Frag} {mg : Str → Option Value} {base : Heap}
theorem body_Out___init__ (G : TX K mg) {fd : FuncData} {f : Addr} : BodyOk P w K mg base 1 ["self", "rights", "slot"] "Out.__init__" (defScope s_Out___init__) f (defBody s_Out___init__) (sp_Out___init__ K) := by
  have iT : TK K := G.tk
  rintro cdv A outer s H vs Q E hr tk po ⟨_, _, _, rfl, W, p, dx, n, f, rfl, rfl, rfl, rfl, o, kQ, kE⟩
  have hu := hu_of hr
  refine ⟨_, (pss_cons (ps_expr (pe_clsm (ok_Leaf___init__ G) hr (by decide) tk (by rfl) G.g_Leaf (pa_cons (pv 0) (pa_cons (pv 1) pa_nil))))
        (pss_one (ps_fld (pv 0) (pv 2) rfl))), ?_⟩
  try simp only [cxOf_K]
  refine k_seq (k_drop (g_cl (g_cons (g_v (v_var rfl) (g_cons (g_v (v_var rfl) (g_nil ?_)))))))
  refine ⟨_, _, rfl, W, none, p, _, dx, n, rfl, rfl, rfl, inferInstance, o, fun h W1 s1 a1 => ?_, kE⟩
  exact k_fld (g_v (v_var rfl) (g_v (v_var rfl) (g_setF a1 inferInstance rfl fun W3 a3 s3 => kQ h W3 (s1.tr s3) ⟨rfl, dx, a3⟩)))
theorem ok_Out_make (G : TX K mg) : MakX P w K mg base 2 "Out" (cc K "Out") (sp_Out___init__ K) [] := let ⟨fd, F⟩ := G.F_Out___init__; mak_by G.g_Out G.k_Out F (bd_Out___init__ F) sc_Out___init__ Sp3.len (body_Out___init__ G (fd := fd))
end


/-! ### moves -/
/-- a move: out of the frame into the slot (true), or in -/
abbrev Mv : Type := Bool × Int × Int
def Mv.v (m : Mv) : List V := [.str (if m.1 then "out" else "in"), .int m.2.1, .int m.2.2]
def Lf.atF : Lf → Int → Bool
  | .held _ f', f => decide (f' = f) | _, _ => false
def Lf.atS : Lf → Int → Bool
  | .out _ f', f => decide (f' = f) | _, _ => false
def movedBy (lf : Lf) : List Mv → Lf
  | [] => lf
  | (b, f, s) :: r => match b, lf with
    | true, .held q f' => if f' = f then .out q s else movedBy lf r
    | false, .out q s' => if s' = s then .held q f else movedBy lf r
    | _, _ => movedBy lf r
/-- at q a list of moves -/
def MovesAt (W : Wd) (rq : Option Rl) (q : Addr) (mv : List Mv) : Prop := ∃ ts : List Addr, At W rq q (.lst (ts.map V.ref)) ∧ ts.length = mv.length ∧ ∀ (i : Nat) t m, ts[i]? = some t → mv[i]? = some m → At W none t (.tup m.v)
theorem MovesAt.step {W W' : Wd} {rq : Option Rl} {q : Addr} {mv : List Mv} {S : Addr → Option Rl → Prop} (h : MovesAt W rq q mv) (s : Step S W W') (h1 : ¬ S q rq) (h2 : ∀ t, ¬ S t none) : MovesAt W' rq q mv :=
  let ⟨ts, a, l, e⟩ := h; ⟨ts, a.step s h1, l, fun i t m x y => (e i t m x y).step s (h2 t)⟩
theorem sc_out : ¬ (("in" : Str) = "out") := by decide +kernel
theorem sc_in : ¬ (("out" : Str) = "in") := by decide +kernel
def sp_moved_by (K : PySem.W.Frag) : Sp := Sp2 fun a b H Q E => ∃ W l lf rq q mv, H = Wd.H W ∧ a = .ref l ∧ b = .ref q ∧ LeafAt K W l lf ∧ 0 ≤ lf.rights ∧ lf.rights ≤ 3 ∧ MovesAt W rq q mv ∧
  (∀ W' l', Step SNone W W' → LeafAt K W' l' (movedBy lf mv) → Q (.ref l') W'.H)
section
variable {P : Program} {w : World} {K : PySem.W.Frag} {mg : Str → Option Value} {base : Heap}
theorem body_moved_by (G : TX K mg) {fd : FuncData} {f : Addr} : BodyOk P w K mg base 3 ["leaf", "moves", "way", "frame", "slot"] "moved_by" (defScope s_moved_by) f (defBody s_moved_by) (sp_moved_by K) := by
  have iT : TK K := G.tk
  rintro cdv A outer s H vs Q E hr tk po ⟨_, _, rfl, W, l, lf, rq, q, mv, rfl, rfl, rfl, L, hr1, hr2, ⟨ts, aq, hl, hm⟩, kQ⟩
  have hu := hu_of hr
  refine ⟨_, (pss_cons (ps_for po rfl (pi_list (pv 1)) (pg_tup rfl (pgs_cons (pg_name (i := 2) sc_moved_by.nd rfl (Or.inl rfl)) (pgs_cons (pg_name (i := 3) sc_moved_by.nd rfl (Or.inl rfl)) (pgs_cons (pg_name (i := 4) sc_moved_by.nd rfl (Or.inl rfl)) pgs_nil))))
        (pss_cons (ps_if (pw_and (pt_cmpR op_eq (pv 2) pe_str (nomark _)) (pw_and (pt_val (pe_callB call_isi (by rfl) G.b_isinstance (by decide +kernel) (pa_cons (pv 0) (pa_cons (pe_gr G.g_Held) pa_nil)))) (pw_and1 (pt_cmpR op_eq (pe_fld (pv 0) rfl) (pv 3) (nomark _))))).pt (pss_one (ps_ret (pe_mk (ok_Out_make G) hr (by decide) tk (by rfl) (pa_cons (pe_fld (pv 0) rfl) (pa_cons (pv 4) pa_nil))))) pss_nil)
        (pss_one (ps_if (pw_and (pt_cmpR op_eq (pv 2) pe_str (nomark _)) (pw_and (pt_val (pe_callB call_isi (by rfl) G.b_isinstance (by decide +kernel) (pa_cons (pv 0) (pa_cons (pe_gr G.g_Out) pa_nil)))) (pw_and1 (pt_cmpR op_eq (pe_fld (pv 0) rfl) (pv 4) (nomark _))))).pt (pss_one (ps_ret (pe_mk (ok_Held_make G) hr (by decide) tk (by rfl) (pa_cons (pe_fld (pv 0) rfl) (pa_cons (pv 3) pa_nil))))) pss_nil))))
        (pss_one (ps_ret (pv 0)))), ?_⟩
  try simp only [cxOf_K]
  refine k_seq (k_forL (v_var rfl) (SqL.of aq.h) (fun i σ' W' => W' = W ∧ (∃ v1 v2 v3, σ' = [some (.ref l), some (.ref q), v1, v2, v3]) ∧ movedBy lf mv = movedBy lf (mv.drop i)) ⟨rfl, ⟨none, none, none, rfl⟩, rfl⟩ (fun i σ' W' _ ⟨e, _, _⟩ => by subst e; exact SqL.of aq.h) ?_ ?_)
  · rintro i x σ' W' hx ⟨rfl, ⟨v1, v2, v3, rfl⟩, hd⟩
    rw [List.getElem?_map] at hx
    obtain ⟨t, ht, rfl⟩ := Option.map_eq_some_iff.mp hx
    have hi : i < mv.length := by have := (List.getElem?_eq_some_iff.mp ht).1; omega
    obtain ⟨⟨b, f, s0⟩, hmi⟩ : ∃ m, mv[i]? = some m := ⟨mv[i], List.getElem?_eq_getElem hi⟩
    have at' := hm i t _ ht hmi
    have ed : mv.drop i = (b, f, s0) :: mv.drop (i + 1) := by
      rw [List.drop_eq_getElem_cons hi]
      rw [List.getElem?_eq_getElem hi] at hmi
      rw [Option.some.inj hmi]
    rw [ed] at hd
    refine g_tupn (SqT.of at'.h) rfl (g_tcons (g_tname (g_tcons (g_tname (g_tcons (g_tname (g_tnil ?_)))))))
    obtain ⟨dx, o⟩ := L.o
    have hw : ∀ z : Str, decide (V.str (if b = true then "out" else "in") = V.str z) = decide ((if b = true then ("out" : Str) else "in") = z) := fun z => decide_eq_decide.mpr ⟨fun e => by injection e, fun e => by rw [e]⟩
    refine k_seq (k_ifT (b := b && (lf.isHeld && lf.atF f)) (s_and (s_eqv (v_var rfl) v_c rfl (by rw [hw]; cases b <;> decide +kernel)) fun _ => s_and (s_B (v_isiC (v_var rfl) (lf_isHeld G L))) fun hh => ?_) (fun h => ?_) (fun h => ?_))
    · cases lf with
      | held r0 f0 => exact s_eqv (v_fld (f := "frame") (v_var (i := 0) rfl) o inferInstance rfl) (v_var (i := 3) rfl) rfl (decide_eq_decide.mpr ⟨fun e => by injection e, fun e => by rw [e]⟩)
      | _ => exact absurd hh Bool.false_ne_true
    · simp only [Bool.and_eq_true] at h
      obtain ⟨rfl, h2, h3⟩ := h
      cases lf with
      | held r0 f0 =>
        have h3 := of_decide_eq_true h3
        have hd' : movedBy (.held r0 f0) mv = .out r0 s0 := by rw [hd]; show (if f0 = f then _ else _) = _; rw [if_pos h3]
        refine k_ret (g_mk (g_cons (g_v (v_fld (f := "rights") (v_var (i := 0) rfl) o inferInstance rfl) (g_cons (g_v (v_var rfl) (g_nil (mk_w none fun x dx W1 n1 a1 s1 => ?_)))))))
        refine ⟨_, _, _, rfl, W1, x, dx, r0, s0, rfl, rfl, rfl, rfl, a1, fun _ W2 s2 L2 => ⟨rfl, ?_⟩, fun hn => absurd ⟨hr1, hr2⟩ hn⟩
        exact kQ W2 x (s1.fresh n1 s2) (by rw [hd']; exact L2)
      | _ => exact absurd h2 Bool.false_ne_true
    · refine k_next (k_ifT (b := (!b) && (lf.isOut && lf.atS s0)) (s_and (s_eqv (v_var rfl) v_c rfl (by rw [hw]; cases b <;> decide +kernel)) fun _ => s_and (s_B (v_isiC (v_var rfl) (lf_isOut G L))) fun hh => ?_) (fun h' => ?_) (fun h' => ?_))
      · cases lf with
        | out r0 f0 => exact s_eqv (v_fld (f := "slot") (v_var (i := 0) rfl) o inferInstance rfl) (v_var (i := 4) rfl) rfl (decide_eq_decide.mpr ⟨fun e => by injection e, fun e => by rw [e]⟩)
        | _ => exact absurd hh Bool.false_ne_true
      · simp only [Bool.and_eq_true, Bool.not_eq_true'] at h'
        obtain ⟨rfl, h2, h3⟩ := h'
        cases lf with
        | out r0 f0 =>
          have h3 := of_decide_eq_true h3
          have hd' : movedBy (.out r0 f0) mv = .held r0 f := by rw [hd]; show (if f0 = s0 then _ else _) = _; rw [if_pos h3]
          refine k_ret (g_mk (g_cons (g_v (v_fld (f := "rights") (v_var (i := 0) rfl) o inferInstance rfl) (g_cons (g_v (v_var rfl) (g_nil (mk_w none fun x dx W1 n1 a1 s1 => ?_)))))))
          refine ⟨_, _, _, rfl, W1, x, dx, r0, f, rfl, rfl, rfl, rfl, a1, fun _ W2 s2 L2 => ⟨rfl, ?_⟩, fun hn => absurd ⟨hr1, hr2⟩ hn⟩
          exact kQ W2 x (s1.fresh n1 s2) (by rw [hd']; exact L2)
        | _ => exact absurd h2 Bool.false_ne_true
      · refine k_next ⟨W', rfl, rfl, ⟨_, _, _, rfl⟩, ?_⟩
        rw [hd]
        cases b <;> cases lf <;> simp_all [movedBy, Lf.isHeld, Lf.isOut, Lf.atF, Lf.atS]
  · rintro σ' W' ⟨rfl, ⟨v1, v2, v3, rfl⟩, hd⟩
    rw [List.length_map, hl, List.drop_length] at hd
    refine k_ret (g_v (v_var rfl) (kQ W' l (Step.refl W') ?_))
    rw [hd]
    exact L
theorem ok_moved_by (G : TX K mg) : CalX P w K mg base 4 "moved_by" (sp_moved_by K) [] := let ⟨fd, F⟩ := G.F_moved_by; cal_by G.g_moved_by F (bd_moved_by F) sc_moved_by Sp2.len (body_moved_by G (fd := fd))
end

def sp_count_in (K : PySem.W.Frag) : Sp := Sp2 fun a b H Q E => ∃ W m s A ts ws wide n, H = Wd.H W ∧ a = .ref (StA.p A) ∧ b = .int n ∧ StoreAt K W m s A ts ws wide ∧
  Res (usedZ ts n) (fun c => ∀ W', Step SNone W W' → Q (.int c) W'.H) (E (xc K "NoNumber") none W.H)
section
variable {P : Program} {w : World} {K : PySem.W.Frag} {mg : Str → Option Value} {base : Heap}
theorem body_count_in (G : TX K mg) {fd : FuncData} {f : Addr} : BodyOk P w K mg base 3 ["store", "room"] "count_in" (defScope s_count_in) f (defBody s_count_in) (sp_count_in K) := by
  have iT : TK K := G.tk
  rintro cdv A outer s H vs Q E hr tk po ⟨_, _, rfl, W, m, s', A', ts, ws, wide, n, rfl, rfl, rfl, C, kQ, kE⟩
  have hu := hu_of hr
  refine ⟨_, (pss_cons (ps_expr (pe_mt (ok_Store_words G) hr (by decide) tk (pv 0) (pa_cons (pv 1) pa_nil)))
        (pss_one (ps_ret (pe_ix ix_seq (pe_mt0 (ok_Store_counts G) hr (by decide) tk (pv 0)) (pv 1) (fun _ _ => rfl))))), ?_⟩
  try simp only [cxOf_K]
  obtain ⟨dx, o⟩ := C.o
  refine k_seq (k_drop (g_mt (v_var rfl) o rfl (g_cons (g_v (v_var rfl) (g_nil ?_)))))
  refine ⟨_, _, rfl, W, m, s', A', ts, ws, wide, n, rfl, rfl, rfl, C, fun c w hc hw W1 q1 n1 s1 a1 => ?_, kE⟩
  have hx := atZ_mapV (f := V.int) (usedZ_some hc).1
  refine k_ret (g_op (g_mt (v_var rfl) (o.step s1 (by walk_at "no")) rfl (g_nil ?_)))
  refine ⟨_, rfl, W1, m, s', A', ts, ws, wide, rfl, rfl, C.step s1 (fun a r _ => by walk_at "no"), fun W2 q2 n2 s2 a2 => ?_⟩
  exact g_v (v_var rfl) (g_ixL a2 hx (kQ c hc W2 (s1.tr s2)))
theorem ok_count_in (G : TX K mg) : CalX P w K mg base 4 "count_in" (sp_count_in K) [] := let ⟨fd, F⟩ := G.F_count_in; cal_by G.g_count_in F (bd_count_in F) sc_count_in Sp2.len (body_count_in G (fd := fd))
end

/-! ### Pool -/
structure StM where
  ts : List Int
  ws : List (List Int)
structure PlM where
  I : StM
  O : StM
  lit : List Bool
  st : Nat
  wide : Int
structure PlA where
  p : Addr
  i : StA
  o : StA
  hp : Addr
  hl : Addr
structure PoolAt (K : PySem.W.Frag) (W : Wd) (m : Nat) (A : PlA) (M : PlM) : Prop where
  o : ∃ dx, At W none A.p (.ins (cc K "Pool") dx [("inner", .ref A.i.p), ("outer", .ref A.o.p), ("hand", .ref A.hp), ("wide", .int M.wide)])
  i : StoreAt K W m false A.i M.I.ts M.I.ws M.wide
  e : StoreAt K W m true A.o M.O.ts M.O.ws M.wide
  h : HandAt K W m A.hp A.hl M.lit M.st
  l : M.lit.length = M.I.ts.length
def isPool (m : Nat) (r : Option Rl) : Bool := isStore m false r || (isStore m true r || isHand m r)
abbrev SPool (m : Nat) : Addr → Option Rl → Prop := fun _ x => isPool m x = true
theorem isPool_none (m : Nat) : isPool m none = false := rfl
theorem PoolAt.step {K : PySem.W.Frag} {W W' : Wd} {m : Nat} {A : PlA} {M : PlM} {S : Addr → Option Rl → Prop} (c : PoolAt K W m A M) (s : Step S W W') (h : ∀ a r, r = none ∨ isPool m r = true → ¬ S a r) : PoolAt K W' m A M where
  o := let ⟨dx, o⟩ := c.o; ⟨dx, o.step s (h _ _ (.inl rfl))⟩
  i := c.i.step s fun a r hr => h a r (hr.imp id fun e => by unfold isPool; rw [e]; rfl)
  e := c.e.step s fun a r hr => h a r (hr.imp id fun e => by unfold isPool; rw [e]; simp)
  h := c.h.step s (h _ _ (.inr (by unfold isPool; simp [isHand]))) (h _ _ (.inr (by unfold isPool; simp [isHand])))
  l := c.l
theorem sPool1 {m : Nat} {W W' : Wd} (s : Step (SStore m false) W W') : Step (SPool m) W W' := s.mono fun _ r _ _ (h : isStore m false r = true) => by show isPool m r = true; unfold isPool; rw [h]; rfl
theorem sPool2 {m : Nat} {W W' : Wd} (s : Step (SStore m true) W W') : Step (SPool m) W W' := s.mono fun _ r _ _ (h : isStore m true r = true) => by show isPool m r = true; unfold isPool; rw [h]; simp
theorem sPool3 {m : Nat} {W W' : Wd} (s : Step (SHand m) W W') : Step (SPool m) W W' := s.mono fun _ r _ _ (h : isHand m r = true) => by show isPool m r = true; unfold isPool; rw [h]; simp
theorem inSt {m : Nat} {s : Bool} {r : Option Rl} (h : isStore m (!s) r = true) : isStore m s r = false := by
  cases r with
  | none => rfl
  | some r =>
    cases r <;> simp_all [isStore]
    all_goals (rcases h with ⟨rfl, rfl⟩; intro _; cases s <;> simp)
theorem hdSt {m : Nat} {s : Bool} {r : Option Rl} (h : isHand m r = true) : isStore m s r = false := by
  cases r with
  | none => rfl
  | some r => cases r <;> simp_all [isStore, isHand]
theorem stHd {m : Nat} {s : Bool} {r : Option Rl} (h : isStore m s r = true) : isHand m r = false := by
  cases r with
  | none => rfl
  | some r => cases r <;> simp_all [isStore, isHand]
/-- the inner store has changed -/
theorem PoolAt.inner {K : PySem.W.Frag} {W W' : Wd} {m : Nat} {A : PlA} {M : PlM} {ts : List Int} {ws : List (List Int)} (c : PoolAt K W m A M) (s : Step (SStore m false) W W') (x : StoreAt K W' m false A.i ts ws M.wide) (hl : ts.length = M.I.ts.length) : PoolAt K W' m A { M with I := ⟨ts, ws⟩ } where
  o := let ⟨dx, o⟩ := c.o; ⟨dx, o.step s (by walk_at "no")⟩
  i := x
  e := c.e.step s fun a r hr h => by
    rcases hr with rfl | hr
    · cases h
    · have q : isStore m false r = true := h
      rw [inSt (s := false) hr] at q; cases q
  h := c.h.step s (by walk_at "no") (by walk_at "no")
  l := c.l.trans hl.symm
theorem PoolAt.outer {K : PySem.W.Frag} {W W' : Wd} {m : Nat} {A : PlA} {M : PlM} {ts : List Int} {ws : List (List Int)} (c : PoolAt K W m A M) (s : Step (SStore m true) W W') (x : StoreAt K W' m true A.o ts ws M.wide) : PoolAt K W' m A { M with O := ⟨ts, ws⟩ } where
  o := let ⟨dx, o⟩ := c.o; ⟨dx, o.step s (by walk_at "no")⟩
  i := c.i.step s fun a r hr h => by
    rcases hr with rfl | hr
    · cases h
    · have q : isStore m true r = true := h
      rw [inSt (s := true) hr] at q; cases q
  e := x
  h := c.h.step s (by walk_at "no") (by walk_at "no")
  l := c.l
theorem PoolAt.hand {K : PySem.W.Frag} {W W' : Wd} {m : Nat} {A : PlA} {M : PlM} {lit : List Bool} {st : Nat} (c : PoolAt K W m A M) (s : Step (SHand m) W W') (x : HandAt K W' m A.hp A.hl lit st) (hl : lit.length = M.lit.length) : PoolAt K W' m A { M with lit := lit, st := st } where
  o := let ⟨dx, o⟩ := c.o; ⟨dx, o.step s (by walk_at "no")⟩
  i := c.i.step s fun a r hr h => by
    rcases hr with rfl | hr
    · cases h
    · have q : isHand m r = true := h
      rw [stHd hr] at q; cases q
  e := c.e.step s fun a r hr h => by
    rcases hr with rfl | hr
    · cases h
    · have q : isHand m r = true := h
      rw [stHd hr] at q; cases q
  h := x
  l := hl.trans c.l
/-- words in use are words -/
def StM.good (S : StM) (wide : Int) : Prop := ∀ (i : Nat) c w, S.ts[i]? = some c → c ≠ 0 → S.ws[i]? = some w → wordsOk w wide = true
def PlM.good (M : PlM) : Prop := M.I.good M.wide ∧ M.O.good M.wide
theorem firstZ_some {ts : List Int} {i : Nat} (h : firstZ ts = some i) : ts[i]? = some 0 ∧ ∀ j c, j < i → ts[j]? = some c → c ≠ 0 := by
  unfold firstZ at h
  rw [List.findIdx?_eq_some_iff_getElem] at h
  obtain ⟨h1, h2, h3⟩ := h
  refine ⟨by rw [List.getElem?_eq_getElem h1]; simpa using h2, fun j c hj e => ?_⟩
  have := h3 j hj
  rw [List.getElem?_eq_getElem (by omega)] at e
  cases e
  simpa using this
theorem firstZ_none {ts : List Int} (h : firstZ ts = none) {j : Nat} {c : Int} (e : ts[j]? = some c) : c ≠ 0 := by
  unfold firstZ at h
  rw [List.findIdx?_eq_none_iff] at h
  simpa using h c (List.mem_of_getElem? e)
theorem count0 (ts : List Int) : ts.count 0 = 0 ↔ firstZ ts = none := by
  unfold firstZ
  rw [List.count_eq_zero, List.findIdx?_eq_none_iff]
  constructor
  · intro h x hx
    have : x ≠ 0 := fun e => h (e ▸ hx)
    simpa using this
  · intro h hx
    simpa using h 0 hx
theorem atZ_nat {α : Type} {ts : List α} {i : Nat} {c : α} (h : ts[i]? = some c) : atZ ts (i : Int) = some c := by
  unfold atZ
  have := (List.getElem?_eq_some_iff.mp h).1
  rw [if_pos (by omega)]
  exact h
theorem getD_of {α : Type} {ts : List α} {i : Nat} {c d : α} (h : ts[i]? = some c) : ts.getD i d = c := by
  rw [List.getD_eq_getElem?_getD, h]; rfl
theorem wordsOk_len {w : List Int} {wide : Int} (h : wordsOk w wide = true) (b : 1 ≤ wide ∧ wide ≤ 64) : w.length ≤ 100000 := by
  unfold wordsOk at h
  simp at h
  omega
/-- the content that the hand chooses goes into the least free slot -/
def PlM.putF (M : PlM) : Nat := (choose M.lit M.st).1
def PlM.putS (M : PlM) : Nat := (firstZ M.O.ts).getD 0
def PlM.putOut (M : PlM) : PlM := { M with I := ⟨M.I.ts.set M.putF 0, M.I.ws.set M.putF []⟩, O := ⟨M.O.ts.set M.putS (M.I.ts.getD M.putF 0), M.O.ws.set M.putS (M.I.ws.getD M.putF [])⟩, lit := (choose M.lit M.st).2, st := ((choose M.lit M.st).1 + 1) % M.lit.length }
def sp_Pool_put_out (K : PySem.W.Frag) : Sp := Sp1 fun a H Q E => ∃ W m A M, H = Wd.H W ∧ a = .ref (PlA.p A) ∧ PoolAt K W m A M ∧ M.good ∧ firstZ M.I.ts = none ∧ firstZ M.O.ts ≠ none ∧
  ∀ W' t, W.H t = none → Step (SPool m) W W' → PoolAt K W' m A M.putOut → At W' none t (.tup (Mv.v (true, ((M.putF : Nat) : Int), ((M.putS : Nat) : Int)))) → Q (.ref t) W'.H
section
variable {P : Program} {w : World} {K : PySem.W.Frag} {mg : Str → Option Value} {base : Heap}
theorem body_Pool_put_out (G : TX K mg) {fd : FuncData} {f : Addr} : BodyOk P w K mg base 4 ["self", "frame", "words", "count", "slot"] "Pool.put_out" (defScope s_Pool_put_out) f (defBody s_Pool_put_out) (sp_Pool_put_out K) := by
  have iT : TK K := G.tk
  rintro cdv A outer s H vs Q E hr tk po ⟨_, rfl, W, m, A', M, rfl, rfl, C, hg, hi, ho, kQ⟩
  have hu := hu_of hr
  refine ⟨_, (pss_cons (ps_set (i := 1) sc_Pool_put_out.nd rfl (Or.inl rfl) (pe_mt0 (ok_Hand_chosen G) hr (by decide) tk (pe_fld (pv 0) rfl)))
        (pss_cons (ps_asg (pe_mt (ok_Store_gone G) hr (by decide) tk (pe_fld (pv 0) rfl) (pa_cons (pv 1) pa_nil)) (pg_tup rfl (pgs_cons (pg_name (i := 2) sc_Pool_put_out.nd rfl (Or.inl rfl)) (pgs_cons (pg_name (i := 3) sc_Pool_put_out.nd rfl (Or.inl rfl)) pgs_nil))))
        (pss_cons (ps_set (i := 4) sc_Pool_put_out.nd rfl (Or.inl rfl) (pe_mt (ok_Store_made G) hr (by decide) tk (pe_fld (pv 0) rfl) (pa_cons (pv 2) (pa_cons (pv 3) pa_nil))))
        (pss_one (ps_ret (pe_tup (pa_cons pe_str (pa_cons (pv 1) (pa_cons (pv 4) pa_nil))))))))), ?_⟩
  try simp only [cxOf_K]
  obtain ⟨dx, o⟩ := C.o
  obtain ⟨dh, oh⟩ := C.h.o
  obtain ⟨sl, hsl⟩ : ∃ sl, firstZ M.O.ts = some sl := by
    cases e : firstZ M.O.ts with
    | none => exact absurd e ho
    | some x => exact ⟨x, rfl⟩
  have eS : M.putS = sl := by unfold PlM.putS; rw [hsl]; rfl
  refine k_seq (k_set (g_mt (by walk_at "ev") oh rfl (g_nil ?_)))
  refine ⟨_, rfl, W, m, _, _, _, _, rfl, rfl, C.h, fun W1 s1 h1 => ?_⟩
  have C1 := C.hand s1 h1 (choose_lt _ _ C.h.b).2
  have hlt : M.putF < M.I.ts.length := by rw [← C.l]; exact (choose_lt _ _ C.h.b).1
  obtain ⟨c, hts⟩ : ∃ c, M.I.ts[M.putF]? = some c := ⟨_, List.getElem?_eq_getElem hlt⟩
  obtain ⟨w, hws⟩ : ∃ w, M.I.ws[M.putF]? = some w := ⟨_, List.getElem?_eq_getElem (by rw [C.i.n]; exact hlt)⟩
  have hne := firstZ_none hi hts
  have o1 := o.step s1 (by walk_at "no")
  obtain ⟨di, oi⟩ := C1.i.o
  refine k_seq (k_asg (g_mt (by walk_at "ev") oi rfl (g_cons (g_v (v_var rfl) (g_nil ?_)))))
  have hu0 : usedZ M.I.ts (((choose M.lit M.st).1 : Nat) : Int) = some c := usedZ_of (atZ_nat hts) hne
  have e1 : ((((choose M.lit M.st).1 : Nat) : Int)).toNat = M.putF := Int.toNat_natCast _
  refine ⟨_, _, rfl, W1, m, false, _, M.I.ts, M.I.ws, M.wide, _, rfl, rfl, rfl, C1.i, fun e => ?_, fun c' w' hc hw W2 t q n2 n2' s2 S2 aq at' => ?_⟩
  · rw [hu0] at e; cases e
  rw [hu0] at hc
  rw [e1] at hw S2
  rw [hws] at hw
  cases hc; cases hw
  have C2 : PoolAt K W2 m A' ⟨⟨M.I.ts.set M.putF 0, M.I.ws.set M.putF []⟩, M.O, (choose M.lit M.st).2, ((choose M.lit M.st).1 + 1) % M.lit.length, M.wide⟩ := C1.inner s2 S2 (by rw [List.length_set])
  have o2 := o1.step s2 (by walk_at "no")
  refine g_tupn (SqT.of at'.h) rfl (g_tcons (g_tname (g_tcons (g_tname (g_tnil ?_)))))
  obtain ⟨do', oo⟩ := C2.e.o
  have hok : wordsOk w M.wide = true := hg.1 _ _ _ hts hne hws
  have hlen : w.length ≤ 100000 := wordsOk_len hok C.i.w
  refine k_seq (k_set (g_mt (by walk_at "ev") oo rfl (g_cons (g_v (v_var rfl) (g_cons (g_v (v_var rfl) (g_nil ?_)))))))
  refine ⟨_, _, _, rfl, W2, m, true, _, M.O.ts, M.O.ws, M.wide, none, q, w, c, rfl, rfl, rfl, rfl, C2.e, aq, rfl, hlen, fun e => ?_, fun _ => ⟨fun i hi' W3 s3 S3 => ?_, fun e => ?_⟩⟩
  · rw [hok] at e; cases e
  · rw [hsl] at hi'
    cases hi'
    have C3 := C2.outer s3 S3
    refine k_ret (g_tup (g_cons (g_v v_c (g_cons (g_v (v_var rfl) (g_cons (g_v (v_var rfl) (g_nil (new_t rfl fun t' W4 n4 a4 s4 => ?_)))))))))
    have C4 := C3.step s4 (fun a r _ => by walk_at "no")
    have sA : Step (SPool m) W W4 := ((sPool3 s1).tr ((sPool1 s2).tr (sPool2 s3))).n2 s4
    refine kQ W4 t' (s1.live _ (s2.live _ (s3.live _ n4))) sA ?_ ?_
    · unfold PlM.putOut
      rw [eS, getD_of hts, getD_of hws]
      exact C4
    · rw [eS]
      exact a4
  · rw [hsl] at e; cases e
theorem ok_Pool_put_out (G : TX K mg) : MetX P w K mg base 5 (cc K "Pool") "put_out" (sp_Pool_put_out K) [] := let ⟨fd, F⟩ := G.F_Pool_put_out; met_by G.c_Pool G.m_Pool_put_out F (bd_Pool_put_out F) sc_Pool_put_out Sp1.len (body_Pool_put_out G (fd := fd))
end

def PlM.brought (M : PlM) (ns : List Int) (n : Int) : PlM × Nat × List Mv :=
  let M1 := if firstZ M.I.ts = none then M.putOut else M
  let mv : List Mv := if firstZ M.I.ts = none then [(true, ((M.putF : Nat) : Int), ((M.putS : Nat) : Int))] else []
  let f := (firstZ M1.I.ts).getD 0
  ({ M1 with I := ⟨M1.I.ts.set f n, M1.I.ws.set f ns⟩, lit := M1.lit.set f true }, f, mv)
theorem MovesAt.nil {W : Wd} {rq : Option Rl} {q : Addr} (a : At W rq q (.lst [])) : MovesAt W rq q [] := ⟨[], a, rfl, fun i t m h => by simp at h⟩
theorem MovesAt.snoc {W1 : Wd} {rq : Option Rl} {q t : Addr} {mv : List Mv} {m : Mv} {ts : List Addr} (l : ts.length = mv.length) (e : ∀ (i : Nat) t m, ts[i]? = some t → mv[i]? = some m → At W1 none t (.tup m.v)) (a : At W1 rq q (.lst (ts.map V.ref ++ [.ref t]))) (x : At W1 none t (.tup m.v)) : MovesAt W1 rq q (mv ++ [m]) := by
  refine ⟨ts ++ [t], by rw [List.map_append]; exact a, by simp [l], fun i t' m' h1 h2 => ?_⟩
  rw [List.getElem?_append] at h1 h2
  split at h1
  · rename_i h
    rw [if_pos (by omega)] at h2
    exact e i t' m' h1 h2
  · rename_i h
    rw [if_neg (by omega)] at h2
    cases hk : i - ts.length with
    | zero =>
      rw [hk] at h1
      rw [← l, hk] at h2
      simp at h1 h2
      rw [← h1, ← h2]; exact x
    | succ k => rw [hk] at h1; simp at h1
theorem firstZ_set0 {ts : List Int} {i : Nat} (h : i < ts.length) : firstZ (ts.set i 0) ≠ none := by
  intro e
  exact firstZ_none e (j := i) (c := 0) (by rw [List.getElem?_set_self h]) rfl
theorem putF_lt {K : PySem.W.Frag} {W : Wd} {m : Nat} {A : PlA} {M : PlM} (C : PoolAt K W m A M) : M.putF < M.I.ts.length := by rw [← C.l]; exact (choose_lt _ _ C.h.b).1
/-- the list of moves under way -/
abbrev rMv : Option Rl := some (.own 0)
def sp_Pool_brought (K : PySem.W.Frag) : Sp := Sp4 fun a b c d H Q E => ∃ W m A M rq q ns n mq mv, H = Wd.H W ∧ a = .ref (PlA.p A) ∧ b = .ref q ∧ c = .int n ∧ d = .ref mq ∧ PoolAt K W m A M ∧ M.good ∧ At W rq q (.lst (ns.map V.int)) ∧ isPool m rq = false ∧ rq ≠ rMv ∧ wordsOk ns M.wide = true ∧
  MovesAt W rMv mq mv ∧ mv.length ≤ 10 ∧ (firstZ M.I.ts = none → firstZ M.O.ts ≠ none) ∧
  ∀ W', Step (fun a r => isPool m r = true ∨ a = mq) W W' → PoolAt K W' m A (M.brought ns n).1 → MovesAt W' rMv mq (mv ++ (M.brought ns n).2.2) → Q (.int ((M.brought ns n).2.1 : Nat)) W'.H
section
variable {P : Program} {w : World} {K : PySem.W.Frag} {mg : Str → Option Value} {base : Heap}
theorem body_Pool_brought (G : TX K mg) {fd : FuncData} {f : Addr} : BodyOk P w K mg base 5 ["self", "words", "count", "moves", "frame"] "Pool.brought" (defScope s_Pool_brought) f (defBody s_Pool_brought) (sp_Pool_brought K) := by
  have iT : TK K := G.tk
  rintro cdv A outer s H vs Q E hr tk po ⟨_, _, _, _, rfl, W, m, A', M, rq, q, ns, n, mq, mv, rfl, rfl, rfl, rfl, rfl, C, hg, aq, hrq, hqm, hok, HM, hml, hroom, kQ⟩
  have hu := hu_of hr
  refine ⟨_, (pss_cutW (ps_if (pt_cmpR op_eq (pe_mt0 (ok_Store_free G) hr (by decide) tk (pe_fld (pv 0) rfl)) pe_int (nomark _)) (pss_one (ps_expr (pe_bm PySem.F.plainAttrs_list PySem.F.slot_list_append PySem.F.type_list_append mt_append (pv 3) (pa_cons (pe_mt0 (ok_Pool_put_out G) hr (by decide) tk (pv 0)) pa_nil)))) pss_nil)
        (pss_cons (ps_set (i := 4) sc_Pool_brought.nd rfl (Or.inl rfl) (pe_mt (ok_Store_made G) hr (by decide) tk (pe_fld (pv 0) rfl) (pa_cons (pv 1) (pa_cons (pv 2) pa_nil))))
        (pss_cons (ps_expr (pe_mt (ok_Hand_mark G) hr (by decide) tk (pe_fld (pv 0) rfl) (pa_cons (pv 4) pa_nil)))
        (pss_one (ps_ret (pv 4)))))), ?_⟩
  try simp only [cxOf_K]
  obtain ⟨dx, o⟩ := C.o
  obtain ⟨di, oi⟩ := C.i.o
  refine k_cut (fun σ' W1 => ∃ M1 mv1, σ' = [some (.ref A'.p), some (.ref q), some (.int n), some (.ref mq), none] ∧ Step (fun a r => isPool m r = true ∨ a = mq) W W1 ∧ PoolAt K W1 m A' M1 ∧ M1.wide = M.wide ∧ At W1 rq q (.lst (ns.map V.int)) ∧ MovesAt W1 rMv mq (mv ++ mv1) ∧ firstZ M1.I.ts ≠ none ∧
      M.brought ns n = ({ M1 with I := ⟨M1.I.ts.set ((firstZ M1.I.ts).getD 0) n, M1.I.ws.set ((firstZ M1.I.ts).getD 0) ns⟩, lit := M1.lit.set ((firstZ M1.I.ts).getD 0) true }, (firstZ M1.I.ts).getD 0, mv1)) ?_ ?_
  · refine k_if (g_test (g_op (g_mt (by walk_at "ev") oi rfl (g_nil ?_))))
    refine ⟨_, rfl, W, m, false, _, _, _, _, rfl, rfl, C.i, ?_⟩
    refine g_v v_c (g_eq rfl (g_bl (ite2 (fun h => ?_) (fun h => ?_))))
    · have hf : firstZ M.I.ts = none := by
        rw [← count0]
        have := of_decide_eq_true h
        injection this with this
        omega
      obtain ⟨ts, am, hl, he⟩ := HM
      refine k_drop (g_bm (g_v (v_var rfl) ⟨tyl am, g_cons (g_mt (v_var rfl) o rfl (g_nil ?_))⟩))
      refine ⟨_, rfl, W, m, A', M, rfl, rfl, C, hg, hf, hroom hf, fun W1 t n1 s1 C1 a1 => ?_⟩
      have am1 := am.step s1 (by walk_at "no")
      refine g_nil (g_append am1 ?_ fun W2 a2 s2 => ⟨W2, rfl, M.putOut, [(true, ((M.putF : Nat) : Int), ((M.putS : Nat) : Int))], rfl, ?_, ?_, rfl, ?_, ?_, ?_, ?_⟩)
      · rw [List.length_map, hl]
        have : sizeLine = 16777216 := sizeLine_eq
        omega
      · exact s1.comp s2 (fun _ _ _ _ h => .inl h) (fun _ _ _ _ h => .inr h)
      · refine C1.step (SR.of am1 s2) fun a r hr e => ?_
        subst e
        rcases hr with h | h <;> cases h
      · exact (aq.step s1 (fun h => by have h' : isPool m rq = true := h; rw [hrq] at h'; cases h')).step (SR.of am1 s2) hqm
      · refine MovesAt.snoc hl (fun i t' m' x y => ?_) a2 (a1.step (SR.of am1 s2) (by walk_at "no"))
        exact ((he i t' m' x y).step s1 (by walk_at "no")).step (SR.of am1 s2) (by walk_at "no")
      · exact firstZ_set0 (putF_lt C)
      · unfold PlM.brought
        rw [if_pos hf, if_pos hf]
    · have hf : firstZ M.I.ts ≠ none := by
        intro hf
        rw [← count0] at hf
        rw [hf] at h
        exact h (by decide)
      refine k_next ⟨W, rfl, M, [], rfl, Step.refl W, C, rfl, aq, by rw [List.append_nil]; exact HM, hf, ?_⟩
      unfold PlM.brought
      rw [if_neg hf, if_neg hf]
  · rintro σ' W1 ⟨M1, mv1, rfl, s1, C1, hw, aq1, HM1, hf, hb⟩
    obtain ⟨sl, hsl⟩ : ∃ sl, firstZ M1.I.ts = some sl := by
      cases e : firstZ M1.I.ts with
      | none => exact absurd e hf
      | some x => exact ⟨x, rfl⟩
    rw [hsl] at hb
    have o1 := o.step s1 (fun e => by
      obtain ⟨ts, am, _, _⟩ := HM
      rcases e with e | e
      · cases e
      · exact o.ne am (by intro z; cases z) e)
    obtain ⟨di1, oi1⟩ := C1.i.o
    have hlen : ns.length ≤ 100000 := wordsOk_len hok C.i.w
    refine k_seq (k_set (g_mt (by walk_at "ev") oi1 rfl (g_cons (g_v (v_var rfl) (g_cons (g_v (v_var rfl) (g_nil ?_)))))))
    refine ⟨_, _, _, rfl, W1, m, false, _, M1.I.ts, M1.I.ws, M1.wide, rq, q, ns, n, rfl, rfl, rfl, rfl, C1.i, aq1, ?_, hlen, fun e => ?_, fun _ => ⟨fun i hi' W3 s3 S3 => ?_, fun e => ?_⟩⟩
    · unfold isPool at hrq; simp at hrq; exact hrq.1
    · rw [hw, hok] at e; cases e
    · rw [hsl] at hi'
      cases hi'
      have C3 : PoolAt K W3 m A' ⟨⟨M1.I.ts.set sl n, M1.I.ws.set sl ns⟩, M1.O, M1.lit, M1.st, M1.wide⟩ := C1.inner s3 S3 (by rw [List.length_set])
      have o3 := o1.step s3 (by walk_at "no")
      obtain ⟨dh, oh⟩ := C3.h.o
      refine k_seq (k_drop (g_mt (by walk_at "ev") oh rfl (g_cons (g_v (v_var rfl) (g_nil ?_)))))
      have hsl' := (List.getElem?_eq_some_iff.mp (firstZ_some hsl).1).1
      refine ⟨_, _, rfl, W3, m, _, _, M1.lit, M1.st, sl, rfl, rfl, rfl, C3.h, by rw [C1.l]; exact hsl', fun W4 s4 h4 => ?_⟩
      have C4 : PoolAt K W4 m A' ⟨⟨M1.I.ts.set sl n, M1.I.ws.set sl ns⟩, M1.O, M1.lit.set sl true, M1.st, M1.wide⟩ := C3.hand (s4.mono fun _ r _ _ h => by have h' : r = some (.lit m) := h; show isHand m r = true; subst h'; simp [isHand]) h4 (by rw [List.length_set])
      refine k_ret (g_v (v_var rfl) ?_)
      have e2 : (M.brought ns n).2.1 = sl := by rw [hb]; rfl
      rw [← e2]
      refine kQ W4 ?_ ?_ ?_
      · exact s1.tr ((s3.comp s4 (S := fun a r => isPool m r = true ∨ a = mq) (fun _ r _ _ h => .inl (by have h' : isStore m false r = true := h; show isPool m r = true; unfold isPool; rw [h']; rfl)) (fun _ r _ _ h => .inl (by have h' : r = some (.lit m) := h; subst h'; simp [isPool, isHand]))))
      · rw [hb]; exact C4
      · rw [hb]
        exact (HM1.step s3 (by walk_at "no") (fun _ => by walk_at "no")).step s4 (by walk_at "no") (fun _ => by walk_at "no")
    · rw [hsl] at e; cases e
theorem ok_Pool_brought (G : TX K mg) : MetX P w K mg base 6 (cc K "Pool") "brought" (sp_Pool_brought K) [] := let ⟨fd, F⟩ := G.F_Pool_brought; met_by G.c_Pool G.m_Pool_brought F (bd_Pool_brought F) sc_Pool_brought Sp4.len (body_Pool_brought G (fd := fd))
end

def PlM.new (n k z : Int) : PlM := ⟨⟨List.replicate n.toNat 0, List.replicate n.toNat []⟩, ⟨List.replicate k.toNat 0, List.replicate k.toNat []⟩, List.replicate n.toNat false, 0, z⟩
/-- one object alone, that has no role -/
abbrev S0 (p : Addr) : Addr → Option Rl → Prop := fun a r => a = p ∧ r = none
theorem S0.of {W W' : Wd} {p : Addr} {o : HO} (x : At W none p o) (s : Step (SAt p) W W') : Step (S0 p) W W' := s.mono fun b r' _ e h => by
  have h' : b = p := h
  subst h'
  exact ⟨rfl, by rw [← e, x.g]⟩
theorem S0.un {W W' : Wd} {p : Addr} (s : Step (S0 p) W W') : Step (SAt p) W W' := s.mono fun _ _ _ _ h => h.1
def sp_Pool___init__ (K : PySem.W.Frag) : Sp := Sp4 fun a b c d H Q E => ∃ W m p dx n k z, H = Wd.H W ∧ a = .ref p ∧ b = .int n ∧ c = .int k ∧ d = .int z ∧ At W none p (.ins (cc K "Pool") dx []) ∧
  (¬ (1 ≤ n ∧ n ≤ 64 ∧ 0 ≤ k ∧ k ≤ 64 ∧ 1 ≤ z ∧ z ≤ 64) → ∀ W', Step (SAt p) W W' → E (xc K "NoShape") none W'.H) ∧
  (1 ≤ n ∧ n ≤ 64 ∧ 0 ≤ k ∧ k ≤ 64 ∧ 1 ≤ z ∧ z ≤ 64 → ∀ W' A, Step (SAt p) W W' → A.p = p → PoolAt K W' m A (PlM.new n k z) → Q .non W'.H)
section
variable {P : Program} {w : World} {K : PySem.W.Frag} {mg : Str → Option Value} {base : Heap}
theorem body_Pool___init__ (G : TX K mg) {fd : FuncData} {f : Addr} : BodyOk P w K mg base 4 ["self", "frames", "slots", "size"] "Pool.__init__" (defScope s_Pool___init__) f (defBody s_Pool___init__) (sp_Pool___init__ K) := by
  have iT : TK K := G.tk
  rintro cdv A outer s H vs Q E hr tk po ⟨_, _, _, _, rfl, W, m, p, dx, n, k, z, rfl, rfl, rfl, rfl, rfl, o, kE, kQ⟩
  have hu := hu_of hr
  refine ⟨_, (pss_cons (ps_if (pt_cmpR op_lt (pv 1) pe_int (nomark _)) (pss_one (ps_raise rfl tk (ok_raise_NoShape G))) pss_nil)
        (pss_cons (ps_fld (pv 0) (pe_mk (ok_Store_make G) hr (by decide) tk (by rfl) (pa_cons (pv 1) (pa_cons (pv 3) pa_nil))) rfl)
        (pss_cons (ps_fld (pv 0) (pe_mk (ok_Store_make G) hr (by decide) tk (by rfl) (pa_cons (pv 2) (pa_cons (pv 3) pa_nil))) rfl)
        (pss_cons (ps_fld (pv 0) (pe_mk (ok_Hand_make G) hr (by decide) tk (by rfl) (pa_cons (pv 1) pa_nil)) rfl)
        (pss_one (ps_fld (pv 0) (pv 3) rfl)))))), ?_⟩
  try simp only [cxOf_K]
  refine k_seq (k_ifT (by walk_at "ts") (fun h => ?_) (fun h => ?_))
  · refine kE ?_ W (Step.refl W)
    simp at h
    omega
  · simp at h
    have hn : 1 ≤ n := by omega
    clear h
    refine k_next (k_seq (k_fld (g_mk (g_cons (g_v (v_var rfl) (g_cons (g_v (v_var rfl) (g_nil (mk_w none fun ip di W1 n1 a1 s1 => ?_)))))))))
    refine ⟨_, _, _, rfl, W1, m, false, ip, di, n, z, rfl, rfl, rfl, rfl, a1, fun e W2 s2 => kE (by omega) W2 ((s1.tr s2).n1 (Step.refl (S := SAt p) W2)), fun e2 W2 Ai s2 hp2 hc2 C2 => ⟨rfl, ?_⟩⟩
    have o1 := o.step s1 (by walk_at "no")
    have o2 := o1.step s2 (o.neN n1)
    have i0 : ¬ S0 p Ai.p none := fun e => (o.neN n1) (by rw [← hp2]; exact e.1.symm)
    have i1 : ¬ S0 p Ai.cp none := fun e => (o1.neN hc2) e.1.symm
    have z1 : Step (SAt p) W W2 := (s1.n1 (Step.refl (S := SAt p) W1)).fresh n1 s2
    refine g_v (v_var rfl) (g_setF o2 inferInstance rfl fun W3 a3 s3 => ?_)
    have C3 := C2.stepA (S0.of o2 s3) i0 i1 (fun a r hr e => by rw [e.2] at hr; cases hr)
    refine k_seq (k_fld (g_mk (g_cons (g_v (v_var rfl) (g_cons (g_v (v_var rfl) (g_nil (mk_w none fun op do' W4 n4 a4 s4 => ?_))))))))
    have C4 := C3.step s4 (fun a r _ => by walk_at "no")
    have o4 := a3.step s4 (by walk_at "no")
    have z4 : Step (SAt p) W W4 := z1.tr (s3.n2 s4)
    refine ⟨_, _, _, rfl, W4, m, true, op, do', k, z, rfl, rfl, rfl, rfl, a4, fun e W5 s5 => kE (by omega) W5 ?_, fun e5 W5 Ao s5 hp5 hc5 C5 => ⟨rfl, ?_⟩⟩
    · exact (z1.tr s3).n2 (s4.tr s5)
    have z5 : Step (SAt p) W W5 := (z1.tr s3).comp ((s4.n1 (Step.refl (S := SAt p) W4)).fresh n4 s5) (fun _ _ _ _ h => h) (fun _ _ _ _ h => h)
    have o5 := o4.step s5 (a3.neN n4)
    have C5i : StoreAt K W5 m false Ai (List.replicate n.toNat 0) (List.replicate n.toNat []) z := by
      obtain ⟨dq, qo⟩ := C3.o
      obtain ⟨dr, ro⟩ := C3.c.o
      exact C4.stepA (S0.of a4 s5) (fun e => qo.neN n4 e.1) (fun e => ro.neN n4 e.1) (fun a r hr e => by rw [e.2] at hr; cases hr)
    have j0 : ¬ S0 p Ao.p none := fun e => (a3.neN n4) (by rw [← hp5]; exact e.1.symm)
    have j1 : ¬ S0 p Ao.cp none := fun e => (o4.neN hc5) e.1.symm
    refine g_v (v_var rfl) (g_setF o5 inferInstance rfl fun W6 a6 s6 => ?_)
    have C6 := C5.stepA (S0.of o5 s6) j0 j1 (fun a r hr e => by rw [e.2] at hr; cases hr)
    have C6i := C5i.stepA (S0.of o5 s6) i0 i1 (fun a r hr e => by rw [e.2] at hr; cases hr)
    refine k_seq (k_fld (g_mk (g_cons (g_v (v_var rfl) (g_nil (mk_w (some (.hand m)) fun hp dh W7 n7 a7 s7 => ?_))))))
    have C7 := C6.step s7 (fun a r _ => by walk_at "no")
    have C7i := C6i.step s7 (fun a r _ => by walk_at "no")
    have o7 := a6.step s7 (by walk_at "no")
    have z7 : Step (SAt p) W W7 := (z5.tr s6).n2 s7
    refine ⟨_, _, rfl, W7, m, hp, dh, n, rfl, rfl, rfl, a7, fun e => kE (by omega) W7 z7, fun e8 W8 hl nl s8 C8 => ⟨rfl, ?_⟩⟩
    have z8 : Step (SAt p) W W8 := (z5.tr s6).comp ((s7.n1 (Step.refl (S := SAt p) W7)).fresh n7 s8) (fun _ _ _ _ h => h) (fun _ _ _ _ h => h)
    have o8 := o7.step s8 (a6.neN n7)
    have s8' : Step (SR (some (.hand m))) W7 W8 := SR.of a7 s8
    have C8i := C7i.step s8' (fun a r hr e => by have e' : r = some (.hand m) := e; subst e'; rcases hr with h | h <;> cases h)
    have C8o := C7.step s8' (fun a r hr e => by have e' : r = some (.hand m) := e; subst e'; rcases hr with h | h <;> cases h)
    refine g_v (v_var rfl) (g_setF o8 inferInstance rfl fun W9 a9 s9 => ?_)
    have C9i := C8i.stepA (S0.of o8 s9) i0 i1 (fun a r hr e => by rw [e.2] at hr; cases hr)
    have C9o := C8o.stepA (S0.of o8 s9) j0 j1 (fun a r hr e => by rw [e.2] at hr; cases hr)
    have C9h := C8.step (S0.of o8 s9) (fun e => by cases e.2) (fun e => by cases e.2)
    refine k_fld (g_v (v_var rfl) (g_v (v_var rfl) (g_setF a9 inferInstance rfl fun W10 a10 s10 => ?_)))
    subst hp2 hp5
    refine kQ (by omega) W10 ⟨p, Ai, Ao, hp, hl⟩ (z8.tr (s9.tr s10)) rfl ⟨⟨dx, a10⟩, ?_, ?_, ?_, by simp [PlM.new]⟩
    · exact C9i.stepA (S0.of a9 s10) i0 i1 (fun a r hr e => by rw [e.2] at hr; cases hr)
    · exact C9o.stepA (S0.of a9 s10) j0 j1 (fun a r hr e => by rw [e.2] at hr; cases hr)
    · exact C9h.step (S0.of a9 s10) (fun e => by cases e.2) (fun e => by cases e.2)
theorem ok_Pool_make (G : TX K mg) : MakX P w K mg base 5 "Pool" (cc K "Pool") (sp_Pool___init__ K) [] := let ⟨fd, F⟩ := G.F_Pool___init__; mak_by G.g_Pool G.k_Pool F (bd_Pool___init__ F) sc_Pool___init__ Sp4.len (body_Pool___init__ G (fd := fd))
end

def sp_Pool_frames (K : PySem.W.Frag) : Sp := Sp1 fun a H Q E => ∃ W m A M, H = Wd.H W ∧ a = .ref (PlA.p A) ∧ PoolAt K W m A M ∧ ∀ W' q, W.H q = none → Step SNone W W' → At W' none q (.lst (M.I.ts.map V.int)) → Q (.ref q) W'.H
section
variable {P : Program} {w : World} {K : PySem.W.Frag} {mg : Str → Option Value} {base : Heap}
theorem body_Pool_frames (G : TX K mg) {fd : FuncData} {f : Addr} : BodyOk P w K mg base 2 ["self"] "Pool.frames" (defScope s_Pool_frames) f (defBody s_Pool_frames) (sp_Pool_frames K) := by
  have iT : TK K := G.tk
  rintro cdv A outer s H vs Q E hr tk po ⟨_, rfl, W, m, A', M, rfl, rfl, C, kQ⟩
  have hu := hu_of hr
  refine ⟨_, (pss_one (ps_ret (pe_mt0 (ok_Store_counts G) hr (by decide) tk (pe_fld (pv 0) rfl)))), ?_⟩
  try simp only [cxOf_K]
  obtain ⟨dx, o⟩ := C.o
  obtain ⟨di, oi⟩ := C.i.o
  exact k_ret (g_mt (by walk_at "ev") oi rfl (g_nil ⟨_, rfl, W, m, false, _, _, _, _, rfl, rfl, C.i, kQ⟩))
theorem ok_Pool_frames (G : TX K mg) : MetX P w K mg base 3 (cc K "Pool") "frames" (sp_Pool_frames K) [] := let ⟨fd, F⟩ := G.F_Pool_frames; met_by G.c_Pool G.m_Pool_frames F (bd_Pool_frames F) sc_Pool_frames Sp1.len (body_Pool_frames G (fd := fd))
end

def sp_Pool_slots (K : PySem.W.Frag) : Sp := Sp1 fun a H Q E => ∃ W m A M, H = Wd.H W ∧ a = .ref (PlA.p A) ∧ PoolAt K W m A M ∧ ∀ W' q, W.H q = none → Step SNone W W' → At W' none q (.lst (M.O.ts.map V.int)) → Q (.ref q) W'.H
section
variable {P : Program} {w : World} {K : PySem.W.Frag} {mg : Str → Option Value} {base : Heap}
theorem body_Pool_slots (G : TX K mg) {fd : FuncData} {f : Addr} : BodyOk P w K mg base 2 ["self"] "Pool.slots" (defScope s_Pool_slots) f (defBody s_Pool_slots) (sp_Pool_slots K) := by
  have iT : TK K := G.tk
  rintro cdv A outer s H vs Q E hr tk po ⟨_, rfl, W, m, A', M, rfl, rfl, C, kQ⟩
  have hu := hu_of hr
  refine ⟨_, (pss_one (ps_ret (pe_mt0 (ok_Store_counts G) hr (by decide) tk (pe_fld (pv 0) rfl)))), ?_⟩
  try simp only [cxOf_K]
  obtain ⟨dx, o⟩ := C.o
  obtain ⟨di, oi⟩ := C.e.o
  exact k_ret (g_mt (by walk_at "ev") oi rfl (g_nil ⟨_, rfl, W, m, true, _, _, _, _, rfl, rfl, C.e, kQ⟩))
theorem ok_Pool_slots (G : TX K mg) : MetX P w K mg base 3 (cc K "Pool") "slots" (sp_Pool_slots K) [] := let ⟨fd, F⟩ := G.F_Pool_slots; met_by G.c_Pool G.m_Pool_slots F (bd_Pool_slots F) sc_Pool_slots Sp1.len (body_Pool_slots G (fd := fd))
end

def sp_Pool_marks (K : PySem.W.Frag) : Sp := Sp1 fun a H Q E => ∃ W m A M, H = Wd.H W ∧ a = .ref (PlA.p A) ∧ PoolAt K W m A M ∧ ∀ W' q, W.H q = none → Step SNone W W' → At W' none q (.lst (M.lit.map V.bl)) → Q (.ref q) W'.H
section
variable {P : Program} {w : World} {K : PySem.W.Frag} {mg : Str → Option Value} {base : Heap}
theorem body_Pool_marks (G : TX K mg) {fd : FuncData} {f : Addr} : BodyOk P w K mg base 1 ["self"] "Pool.marks" (defScope s_Pool_marks) f (defBody s_Pool_marks) (sp_Pool_marks K) := by
  have iT : TK K := G.tk
  rintro cdv A outer s H vs Q E hr tk po ⟨_, rfl, W, m, A', M, rfl, rfl, C, kQ⟩
  have hu := hu_of hr
  refine ⟨_, (pss_one (ps_ret (pe_mt0 (ok_Hand_marks G) hr (by decide) tk (pe_fld (pv 0) rfl)))), ?_⟩
  try simp only [cxOf_K]
  obtain ⟨dx, o⟩ := C.o
  obtain ⟨di, oi⟩ := C.h.o
  exact k_ret (g_mt (by walk_at "ev") oi rfl (g_nil ⟨_, rfl, W, m, _, _, _, _, rfl, rfl, C.h, kQ⟩))
theorem ok_Pool_marks (G : TX K mg) : MetX P w K mg base 2 (cc K "Pool") "marks" (sp_Pool_marks K) [] := let ⟨fd, F⟩ := G.F_Pool_marks; met_by G.c_Pool G.m_Pool_marks F (bd_Pool_marks F) sc_Pool_marks Sp1.len (body_Pool_marks G (fd := fd))
end

def sp_Pool_room (K : PySem.W.Frag) : Sp := Sp1 fun a H Q E => ∃ W m A M, H = Wd.H W ∧ a = .ref (PlA.p A) ∧ PoolAt K W m A M ∧ Q (.int ((M.I.ts.count 0 + M.O.ts.count 0 : Nat))) W.H
section
variable {P : Program} {w : World} {K : PySem.W.Frag} {mg : Str → Option Value} {base : Heap}
theorem body_Pool_room (G : TX K mg) {fd : FuncData} {f : Addr} : BodyOk P w K mg base 2 ["self"] "Pool.room" (defScope s_Pool_room) f (defBody s_Pool_room) (sp_Pool_room K) := by
  have iT : TK K := G.tk
  rintro cdv A outer s H vs Q E hr tk po ⟨_, rfl, W, m, A', M, rfl, rfl, C, kQ⟩
  have hu := hu_of hr
  refine ⟨_, (pss_one (ps_ret (pe_op op_add (pe_mt0 (ok_Store_free G) hr (by decide) tk (pe_fld (pv 0) rfl)) (pe_mt0 (ok_Store_free G) hr (by decide) tk (pe_fld (pv 0) rfl))))), ?_⟩
  try simp only [cxOf_K]
  obtain ⟨dx, o⟩ := C.o
  obtain ⟨di, oi⟩ := C.i.o
  obtain ⟨do', oo⟩ := C.e.o
  refine k_ret (g_op (g_mt (by walk_at "ev") oi rfl (g_nil ⟨_, rfl, W, m, false, _, _, _, _, rfl, rfl, C.i, ?_⟩)))
  refine g_mt (by walk_at "ev") oo rfl (g_nil ⟨_, rfl, W, m, true, _, _, _, _, rfl, rfl, C.e, g_I0 ?_⟩)
  exact kQ
theorem ok_Pool_room (G : TX K mg) : MetX P w K mg base 3 (cc K "Pool") "room" (sp_Pool_room K) [] := let ⟨fd, F⟩ := G.F_Pool_room; met_by G.c_Pool G.m_Pool_room F (bd_Pool_room F) sc_Pool_room Sp1.len (body_Pool_room G (fd := fd))
end

theorem list_snoc_take {α : Type} {l : List α} {i : Nat} {x : α} (h : l[i]? = some x) : l.take (i + 1) = l.take i ++ [x] := by
  rw [List.take_add_one, h]; rfl
def sp_Pool_made (K : PySem.W.Frag) : Sp := Sp2 fun a b H Q E => ∃ W m A M rq q ns, H = Wd.H W ∧ a = .ref (PlA.p A) ∧ b = .ref q ∧ PoolAt K W m A M ∧ M.good ∧ At W rq q (.lst (ns.map V.int)) ∧ isPool m rq = false ∧ rq ≠ rMv ∧ ns.length ≤ 100000 ∧
  (wordsOk ns M.wide = false → ∀ W', Step SNone W W' → E (xc K "NoWord") none W'.H) ∧
  (wordsOk ns M.wide = true → (firstZ M.I.ts = none → firstZ M.O.ts = none → ∀ W', Step SNone W W' → E (xc K "Full") none W'.H) ∧
    (¬ (firstZ M.I.ts = none ∧ firstZ M.O.ts = none) → ∀ W' t q, W.H t = none → W.H q = none → Step (SPool m) W W' → PoolAt K W' m A (M.brought ns 1).1 → At W' none t (.tup [.int ((M.brought ns 1).2.1 : Nat), .ref q]) → MovesAt W' rMv q (M.brought ns 1).2.2 → Q (.ref t) W'.H))
section
variable {P : Program} {w : World} {K : PySem.W.Frag} {mg : Str → Option Value} {base : Heap}
theorem body_Pool_made (G : TX K mg) {fd : FuncData} {f : Addr} : BodyOk P w K mg base 6 ["self", "words", "word", "moves", "frame"] "Pool.made" (defScope s_Pool_made) f (defBody s_Pool_made) (sp_Pool_made K) := by
  have iT : TK K := G.tk
  rintro cdv A outer s H vs Q E hr tk po ⟨_, _, rfl, W, m, A', M, rq, q, ns, rfl, rfl, rfl, C, hg, aq, hrq, hqm, hlen, kE, kR⟩
  have hu := hu_of hr
  refine ⟨_, (pss_cons (ps_if (pw_or (pt_cmpR op_ne (pe_callB call_len (by rfl) G.b_len (by decide +kernel) (pa_cons (pv 1) pa_nil)) (pe_fld (pv 0) rfl) (nomark _)) (pw_or1 (pt_not (pt_val (pe_callB (cr_all rfl) (by rfl) G.b_all (by decide +kernel) (pa_cons (pe_lc (own := [("word", 2)]) rfl sc_Pool_made.nd (pi_list (pv 1)) (blkOk_by (own := [("word", 2)]) (N := ["self", "words", "word", "moves", "frame"]) (sc := defScope s_Pool_made) (by decide +kernel)) (fun _ _ _ _ _ => (pg_name (i := 2) sc_Pool_made.nd rfl (Or.inl rfl))) (fun _ _ _ _ _ => pts_nil) (fun _ _ _ _ _ => (pe_cl (ok_is_word G) hr (by decide) takes0 (by rfl) (pa_cons (pv 2) pa_nil)))) pa_nil)))))).pt (pss_one (ps_raise rfl tk (ok_raise_NoWord G))) pss_nil)
        (pss_cons (ps_if (pt_cmpR op_eq (pe_mt0 (ok_Pool_room G) hr (by decide) tk (pv 0)) pe_int (nomark _)) (pss_one (ps_raise rfl tk (ok_raise_Full G))) pss_nil)
        (pss_cons (ps_set (i := 3) sc_Pool_made.nd rfl (Or.inl rfl) (pe_lst pa_nil))
        (pss_cons (ps_set (i := 4) sc_Pool_made.nd rfl (Or.inl rfl) (pe_mt (ok_Pool_brought G) hr (by decide) tk (pv 0) (pa_cons (pv 1) (pa_cons pe_int (pa_cons (pv 3) pa_nil)))))
        (pss_one (ps_ret (pe_tup (pa_cons (pv 4) (pa_cons (pv 3) pa_nil))))))))), ?_⟩
  try simp only [cxOf_K]
  obtain ⟨dx, o⟩ := C.o
  refine k_seq (k_if (g_or (g_test (g_op ?_))))
  refine g_v (v_len (v_var rfl) (len_l aq)) ?_
  refine g_v (by walk_at "ev") ?_
  refine g_ne rfl ?_
  refine g_bl ?_
  refine ite2 (fun h => ?_) (fun h => ?_)
  · refine iteT ?_
    refine kE ?_ W (Step.refl W)
    simp at h
    unfold wordsOk
    simp [h]
  simp at h
  refine g_not (g_testB (g_cb (g_cons (g_lcL none (v_var rfl) (SqL.of aq.h) (fun D i acc W' => Step SNone W W' ∧ acc = (ns.take i).map fun n => V.bl (isW n)) (fun D W1 n1 a1 s1 => ⟨s1, by simp⟩) (fun D i acc W1 _ _ ⟨s1, _⟩ => SqL.of (aq.step s1 (by walk_at "no")).h) ?_ fun D acc W1 nD aD ⟨s1, e1⟩ => ?_))))
  · rintro D i x acc W1 nD hx aD la ⟨s1, rfl⟩
    rw [List.getElem?_map] at hx
    obtain ⟨y, hy, rfl⟩ := Option.map_eq_some_iff.mp hx
    have hi := (List.getElem?_eq_some_iff.mp hy).1
    refine g_yes (iteT (g_cl (g_cons (g_v (v_var rfl) (g_nil ⟨_, rfl, y, rfl, lcK_of aD la (by omega) fun W2 a2 s2 => ⟨s1.fresh nD s2, ?_⟩⟩)))))
    rw [list_snoc_take hy, List.map_append]
    rfl
  rw [List.length_map, List.take_length] at e1
  subst e1
  refine g_nil ⟨D, ns.map isW, rfl, SqL.of (by rw [List.map_map]; exact aD.h), g_bl ?_⟩
  have hw : wordsOk ns M.wide = (ns.map isW).all id := by
    unfold wordsOk
    rw [h, decide_eq_true rfl, List.all_map, Bool.true_and]
    rfl
  cases hk : (ns.map isW).all id with
  | false => exact iteT (kE (by rw [hw, hk]) W1 s1)
  | true =>
    obtain ⟨kF, kQ⟩ := kR (by rw [hw, hk])
    have hok : wordsOk ns M.wide = true := by rw [hw, hk]
    refine iteF (k_next ?_)
    have C1 := C.step s1 (fun a r _ => by walk_at "no")
    have o1 := o.step s1 (by walk_at "no")
    have aq1 := aq.step s1 (by walk_at "no")
    refine k_seq (k_if (g_test (g_op (g_mt (v_var rfl) o1 rfl (g_nil ⟨_, rfl, W1, m, _, M, rfl, rfl, C1, g_v v_c (g_eq rfl (g_bl (ite2 (fun h => ?_) (fun h => ?_))))⟩)))))
    · have := of_decide_eq_true h
      injection this with this
      refine kF ?_ ?_ W1 s1
      · rw [← count0]; omega
      · rw [← count0]; omega
    · have hne : ¬ (firstZ M.I.ts = none ∧ firstZ M.O.ts = none) := by
        rintro ⟨h1, h2⟩
        rw [← count0] at h1 h2
        rw [h1, h2] at h
        exact h (by decide)
      refine k_next (k_seq (k_set (g_lst (g_nil (new_lr rMv rfl fun mq W2 n2 a2 s2 => ?_)))))
      have o2 := o1.step s2 (by walk_at "no")
      refine k_seq (k_set (g_mt (v_var rfl) o2 rfl (g_cons (g_v (v_var rfl) (g_cons (g_v v_c (g_cons (g_v (v_var rfl) (g_nil ?_)))))))))
      refine ⟨_, _, _, _, rfl, W2, m, _, M, rq, q, ns, 1, mq, [], rfl, rfl, rfl, rfl, rfl, C1.step s2 (fun a r _ => by walk_at "no"), hg, aq1.step s2 (by walk_at "no"), hrq, hqm, hok, MovesAt.nil a2, by simp, fun h1 h2 => hne ⟨h1, h2⟩, fun W3 s3 C3 m3 => ?_⟩
      refine k_ret (g_tup (g_cons (g_v (v_var rfl) (g_cons (g_v (v_var rfl) (g_nil (new_t rfl fun t W4 n4 a4 s4 => ?_)))))))
      have nq : W.H mq = none := s1.live _ n2
      refine kQ hne W4 t mq (s1.live _ (s2.live _ (s3.live _ n4))) nq ?_ (C3.step s4 (fun a r _ => by walk_at "no")) a4 (m3.step s4 (by walk_at "no") (fun _ => by walk_at "no"))
      have z3 : Step (fun a r => isPool m r = true ∨ a = mq) W W4 := ((s1.tr s2).n1 s3).n2 s4
      exact z3.mono fun b r hb _ hr => by
        rcases hr with hr | hr
        · exact hr
        · rw [hr] at hb; exact absurd nq hb
theorem ok_Pool_made (G : TX K mg) : MetX P w K mg base 7 (cc K "Pool") "made" (sp_Pool_made K) [] := let ⟨fd, F⟩ := G.F_Pool_made; met_by G.c_Pool G.m_Pool_made F (bd_Pool_made F) sc_Pool_made Sp2.len (body_Pool_made G (fd := fd))
end

theorem StM.good.clear {S : StM} {wide : Int} (g : S.good wide) (n : Nat) : StM.good ⟨S.ts.set n 0, S.ws.set n []⟩ wide := fun i c w h hc hw => by
  by_cases e : n = i
  · subst e
    rw [List.getElem?_set_self'] at h
    cases hx : S.ts[n]? with
    | none => rw [hx] at h; cases h
    | some d => rw [hx] at h; cases h; exact absurd rfl hc
  · rw [List.getElem?_set_ne e] at h hw
    exact g i c w h hc hw
theorem StM.good.fill {S : StM} {wide : Int} (g : S.good wide) (n : Nat) (k : Int) {ns : List Int} (ok : wordsOk ns wide = true) : StM.good ⟨S.ts.set n k, S.ws.set n ns⟩ wide := fun i c w h hc hw => by
  by_cases e : n = i
  · subst e
    rw [List.getElem?_set_self'] at hw
    cases hx : S.ws[n]? with
    | none => rw [hx] at hw; cases hw
    | some d => rw [hx] at hw; cases hw; exact ok
  · rw [List.getElem?_set_ne e] at h hw
    exact g i c w h hc hw
def PlM.emptied (M : PlM) (n : Int) : PlM := { M with O := ⟨M.O.ts.set n.toNat 0, M.O.ws.set n.toNat []⟩ }
def PlM.fetched (M : PlM) (n c : Int) (w : List Int) : PlM × Nat × List Mv :=
  (((M.emptied n).brought w c).1, ((M.emptied n).brought w c).2.1, ((M.emptied n).brought w c).2.2 ++ [((false, ((((M.emptied n).brought w c).2.1 : Nat) : Int), n) : Mv)])
theorem brought_len (M : PlM) (ns : List Int) (n : Int) : (M.brought ns n).2.2.length ≤ 1 := by
  unfold PlM.brought
  by_cases h : firstZ M.I.ts = none
  · simp [h]
  · simp [h]
def sp_Pool_fetched (K : PySem.W.Frag) : Sp := Sp2 fun a b H Q E => ∃ W m A M n, H = Wd.H W ∧ a = .ref (PlA.p A) ∧ b = .int n ∧ PoolAt K W m A M ∧ M.good ∧
  (usedZ M.O.ts n = none → E (xc K "NoNumber") none W.H) ∧
  (∀ c w, usedZ M.O.ts n = some c → M.O.ws[n.toNat]? = some w → ∀ W' t q, W.H t = none → W.H q = none → Step (SPool m) W W' → PoolAt K W' m A (M.fetched n c w).1 → At W' none t (.tup [.int ((M.fetched n c w).2.1 : Nat), .ref q]) → MovesAt W' rMv q (M.fetched n c w).2.2 → Q (.ref t) W'.H)
section
variable {P : Program} {w : World} {K : PySem.W.Frag} {mg : Str → Option Value} {base : Heap}
theorem body_Pool_fetched (G : TX K mg) {fd : FuncData} {f : Addr} : BodyOk P w K mg base 6 ["self", "slot", "words", "count", "moves", "frame"] "Pool.fetched" (defScope s_Pool_fetched) f (defBody s_Pool_fetched) (sp_Pool_fetched K) := by
  have iT : TK K := G.tk
  rintro cdv A outer s H vs Q E hr tk po ⟨_, _, rfl, W, m, A', M, n, rfl, rfl, rfl, C, hg, kE, kQ⟩
  have hu := hu_of hr
  refine ⟨_, (pss_cons (ps_asg (pe_mt (ok_Store_gone G) hr (by decide) tk (pe_fld (pv 0) rfl) (pa_cons (pv 1) pa_nil)) (pg_tup rfl (pgs_cons (pg_name (i := 2) sc_Pool_fetched.nd rfl (Or.inl rfl)) (pgs_cons (pg_name (i := 3) sc_Pool_fetched.nd rfl (Or.inl rfl)) pgs_nil))))
        (pss_cons (ps_set (i := 4) sc_Pool_fetched.nd rfl (Or.inl rfl) (pe_lst pa_nil))
        (pss_cons (ps_set (i := 5) sc_Pool_fetched.nd rfl (Or.inl rfl) (pe_mt (ok_Pool_brought G) hr (by decide) tk (pv 0) (pa_cons (pv 2) (pa_cons (pv 3) (pa_cons (pv 4) pa_nil)))))
        (pss_cons (ps_expr (pe_bm PySem.F.plainAttrs_list PySem.F.slot_list_append PySem.F.type_list_append mt_append (pv 4) (pa_cons (pe_tup (pa_cons pe_str (pa_cons (pv 5) (pa_cons (pv 1) pa_nil)))) pa_nil)))
        (pss_one (ps_ret (pe_tup (pa_cons (pv 5) (pa_cons (pv 4) pa_nil))))))))), ?_⟩
  try simp only [cxOf_K]
  obtain ⟨dx, o⟩ := C.o
  obtain ⟨do', oo⟩ := C.e.o
  refine k_seq (k_asg (g_mt (by walk_at "ev") oo rfl (g_cons (g_v (v_var rfl) (g_nil ?_)))))
  refine ⟨_, _, rfl, W, m, true, _, M.O.ts, M.O.ws, M.wide, _, rfl, rfl, rfl, C.e, kE, fun c w hc hw W1 t q n1 n1' s1 S1 aq at' => ?_⟩
  have C1 := C.outer s1 S1
  have o1 := o.step s1 (by walk_at "no")
  refine g_tupn (SqT.of at'.h) rfl (g_tcons (g_tname (g_tcons (g_tname (g_tnil ?_)))))
  refine k_seq (k_set (g_lst (g_nil (new_lr rMv rfl fun mq W2 n2 a2 s2 => ?_))))
  have o2 := o1.step s2 (by walk_at "no")
  have C2 := C1.step s2 (fun a r _ => by walk_at "no")
  have hu := usedZ_some hc
  have hok : wordsOk w M.wide = true := hg.2 _ _ _ (atZ_some hu.1).2.2 hu.2 hw
  have hf : firstZ (M.O.ts.set n.toNat 0) ≠ none := firstZ_set0 (List.getElem?_eq_some_iff.mp (atZ_some hu.1).2.2).1
  refine k_seq (k_set (g_mt (v_var rfl) o2 rfl (g_cons (g_v (v_var rfl) (g_cons (g_v (v_var rfl) (g_cons (g_v (v_var rfl) (g_nil ?_)))))))))
  refine ⟨_, _, _, _, rfl, W2, m, _, _, none, q, w, c, mq, [], rfl, rfl, rfl, rfl, rfl, C2, ⟨hg.1, hg.2.clear _⟩, aq.step s2 (by walk_at "no"), rfl, by simp, hok, MovesAt.nil a2, by simp, fun _ => hf, fun W3 s3 C3 m3 => ?_⟩
  obtain ⟨ts, m3a, m3l, m3e⟩ := m3
  refine k_seq (k_drop (g_bm (g_v (v_var rfl) ⟨tyl m3a, g_cons (g_tup (g_cons (g_v v_c (g_cons (g_v (v_var rfl) (g_cons (g_v (v_var rfl) (g_nil (new_t rfl fun x W4 n4 a4 s4 => ?_)))))))))⟩)))
  have m4 := m3a.step s4 (by walk_at "no")
  refine g_nil (g_append m4 ?_ fun W5 a5 s5 => ?_)
  · rw [List.length_map, m3l]
    have : sizeLine = 16777216 := sizeLine_eq
    have hb := brought_len (M.emptied n) w c
    unfold PlM.emptied at hb
    rw [List.nil_append]
    omega
  have s5' := SR.of m4 s5
  refine k_ret (g_tup (g_cons (g_v (v_var rfl) (g_cons (g_v (v_var rfl) (g_nil (new_t rfl fun t' W6 n6 a6 s6 => ?_)))))))
  have nq : W.H mq = none := s1.live _ n2
  refine kQ c w hc hw W6 t' mq (s1.live _ (s2.live _ (s3.live _ (s4.live _ (s5.live _ n6))))) nq ?_ ?_ a6 ?_
  · have z3 : Step (fun a r => isPool m r = true ∨ a = mq) W W3 := ((sPool2 s1).comp s2 (S := fun a r => isPool m r = true ∨ a = mq) (fun _ _ _ _ h => .inl h) (fun _ _ _ _ h => h.elim)).tr s3
    have z5 : Step (fun a r => isPool m r = true ∨ a = mq) W W5 := (z3.n2 s4).comp s5 (fun _ _ _ _ h => h) (fun _ _ _ _ h => .inr h)
    exact (z5.n2 s6).mono fun b r hb _ hr => by
      rcases hr with hr | hr
      · exact hr
      · rw [hr] at hb; exact absurd nq hb
  · refine (((C3.step s4 (fun a r _ => by walk_at "no"))).step s5' ?_).step s6 (fun a r _ => by walk_at "no")
    intro a r hr e
    subst e
    rcases hr with h | h <;> cases h
  · have mm : MovesAt W5 rMv mq (([] ++ ((M.emptied n).brought w c).2.2) ++ [((false, ((((M.emptied n).brought w c).2.1 : Nat) : Int), n) : Mv)]) :=
      MovesAt.snoc m3l (fun i t m x y => ((m3e i t m x y).step s4 (by walk_at "no")).step s5' (by walk_at "no")) a5 (a4.step s5' (by walk_at "no"))
    rw [List.nil_append] at mm
    exact mm.step s6 (by walk_at "no") (fun _ => by walk_at "no")
theorem ok_Pool_fetched (G : TX K mg) : MetX P w K mg base 7 (cc K "Pool") "fetched" (sp_Pool_fetched K) [] := let ⟨fd, F⟩ := G.F_Pool_fetched; met_by G.c_Pool G.m_Pool_fetched F (bd_Pool_fetched F) sc_Pool_fetched Sp2.len (body_Pool_fetched G (fd := fd))
end

def sp_Pool_word (K : PySem.W.Frag) : Sp := Sp3 fun a b c H Q E => ∃ W m A M n k, H = Wd.H W ∧ a = .ref (PlA.p A) ∧ b = .int n ∧ c = .int k ∧ PoolAt K W m A M ∧
  (usedZ M.I.ts n = none → E (xc K "NoNumber") none W.H) ∧ (∀ d w, usedZ M.I.ts n = some d → M.I.ws[n.toNat]? = some w → (¬ (0 ≤ k ∧ k < M.wide) → E (xc K "NoAddress") none W.H) ∧
    (0 ≤ k ∧ k < M.wide → ∃ z, atZ w k = some z ∧ ∀ W', Step (SPool m) W W' → PoolAt K W' m A { M with lit := M.lit.set n.toNat true } → Q (.int z) W'.H))
section
variable {P : Program} {w : World} {K : PySem.W.Frag} {mg : Str → Option Value} {base : Heap}
theorem body_Pool_word (G : TX K mg) {fd : FuncData} {f : Addr} : BodyOk P w K mg base 3 ["self", "frame", "place", "found"] "Pool.word" (defScope s_Pool_word) f (defBody s_Pool_word) (sp_Pool_word K) := by
  have iT : TK K := G.tk
  rintro cdv A outer s H vs Q E hr tk po ⟨_, _, _, rfl, W, m, A', M, n, k, rfl, rfl, rfl, rfl, C, kE, kR⟩
  have hu := hu_of hr
  refine ⟨_, (pss_cons (ps_set (i := 3) sc_Pool_word.nd rfl (Or.inl rfl) (pe_mt (ok_Store_word G) hr (by decide) tk (pe_fld (pv 0) rfl) (pa_cons (pv 1) (pa_cons (pv 2) pa_nil))))
        (pss_cons (ps_expr (pe_mt (ok_Hand_mark G) hr (by decide) tk (pe_fld (pv 0) rfl) (pa_cons (pv 1) pa_nil)))
        (pss_one (ps_ret (pv 3))))), ?_⟩
  try simp only [cxOf_K]
  obtain ⟨dx, o⟩ := C.o
  obtain ⟨di, oi⟩ := C.i.o
  refine k_seq (k_set (g_mt (by walk_at "ev") oi rfl (g_cons (g_v (v_var rfl) (g_cons (g_v (v_var rfl) (g_nil ?_)))))))
  refine ⟨_, _, _, rfl, W, m, false, _, M.I.ts, M.I.ws, M.wide, n, k, rfl, rfl, rfl, rfl, C.i, kE, fun d w hd hw => ⟨(kR d w hd hw).1, fun hk => ?_⟩⟩
  obtain ⟨z, hz, kQ⟩ := (kR d w hd hw).2 hk
  refine ⟨z, hz, ?_⟩
  obtain ⟨h1, h2, _⟩ := atZ_some (usedZ_some hd).1
  obtain ⟨dh, oh⟩ := C.h.o
  refine k_seq (k_drop (g_mt (by walk_at "ev") oh rfl (g_cons (g_v (v_var rfl) (g_nil ?_)))))
  refine ⟨_, _, rfl, W, m, _, _, M.lit, M.st, n.toNat, rfl, rfl, by rw [Int.toNat_of_nonneg h1], C.h, by rw [C.l]; omega, fun W1 s1 H1 => ?_⟩
  have s1' : Step (SHand m) W W1 := s1.mono fun _ r _ _ h => by have h' : r = some (.lit m) := h; show isHand m r = true; subst h'; simp [isHand]
  exact k_ret (g_v (v_var rfl) (kQ W1 (sPool3 s1') (C.hand s1' H1 (by rw [List.length_set]))))
theorem ok_Pool_word (G : TX K mg) : MetX P w K mg base 4 (cc K "Pool") "word" (sp_Pool_word K) [] := let ⟨fd, F⟩ := G.F_Pool_word; met_by G.c_Pool G.m_Pool_word F (bd_Pool_word F) sc_Pool_word Sp3.len (body_Pool_word G (fd := fd))
end

def sp_Pool_put (K : PySem.W.Frag) : Sp := Sp4 fun a b c d H Q E => ∃ W m A M n k z, H = Wd.H W ∧ a = .ref (PlA.p A) ∧ b = .int n ∧ c = .int k ∧ d = .int z ∧ PoolAt K W m A M ∧
  (usedZ M.I.ts n = none → E (xc K "NoNumber") none W.H) ∧ (∀ d w, usedZ M.I.ts n = some d → M.I.ws[n.toNat]? = some w → (¬ (0 ≤ k ∧ k < M.wide) → E (xc K "NoAddress") none W.H) ∧
    (0 ≤ k ∧ k < M.wide → (isW z = false → E (xc K "NoWord") none W.H) ∧ (isW z = true → k < w.length ∧ ∀ W', Step (SPool m) W W' → PoolAt K W' m A { M with I := ⟨M.I.ts, M.I.ws.set n.toNat (w.set k.toNat z)⟩, lit := M.lit.set n.toNat true } → Q .non W'.H)))
section
variable {P : Program} {w : World} {K : PySem.W.Frag} {mg : Str → Option Value} {base : Heap}
theorem body_Pool_put (G : TX K mg) {fd : FuncData} {f : Addr} : BodyOk P w K mg base 3 ["self", "frame", "place", "word"] "Pool.put" (defScope s_Pool_put) f (defBody s_Pool_put) (sp_Pool_put K) := by
  have iT : TK K := G.tk
  rintro cdv A outer s H vs Q E hr tk po ⟨_, _, _, _, rfl, W, m, A', M, n, k, z, rfl, rfl, rfl, rfl, rfl, C, kE, kR⟩
  have hu := hu_of hr
  refine ⟨_, (pss_cons (ps_expr (pe_mt (ok_Store_put G) hr (by decide) tk (pe_fld (pv 0) rfl) (pa_cons (pv 1) (pa_cons (pv 2) (pa_cons (pv 3) pa_nil)))))
        (pss_one (ps_expr (pe_mt (ok_Hand_mark G) hr (by decide) tk (pe_fld (pv 0) rfl) (pa_cons (pv 1) pa_nil))))), ?_⟩
  try simp only [cxOf_K]
  obtain ⟨dx, o⟩ := C.o
  obtain ⟨di, oi⟩ := C.i.o
  refine k_seq (k_drop (g_mt (by walk_at "ev") oi rfl (g_cons (g_v (v_var rfl) (g_cons (g_v (v_var rfl) (g_cons (g_v (v_var rfl) (g_nil ?_)))))))))
  refine ⟨_, _, _, _, rfl, W, m, false, _, M.I.ts, M.I.ws, M.wide, n, k, z, rfl, rfl, rfl, rfl, rfl, C.i, kE, fun d w hd hw => ⟨(kR d w hd hw).1, fun hk => ⟨((kR d w hd hw).2 hk).1, fun hz => ?_⟩⟩⟩
  obtain ⟨hl, kQ⟩ := ((kR d w hd hw).2 hk).2 hz
  refine ⟨hl, fun W1 s1 S1 => ?_⟩
  have C1 := C.inner s1 S1 rfl
  have o1 := o.step s1 (by walk_at "no")
  obtain ⟨h1, h2, _⟩ := atZ_some (usedZ_some hd).1
  obtain ⟨dh, oh⟩ := C1.h.o
  refine k_drop (g_mt (by walk_at "ev") oh rfl (g_cons (g_v (v_var rfl) (g_nil ?_))))
  refine ⟨_, _, rfl, W1, m, _, _, M.lit, M.st, n.toNat, rfl, rfl, by rw [Int.toNat_of_nonneg h1], C1.h, by rw [C.l]; omega, fun W2 s2 H2 => ?_⟩
  have s2' : Step (SHand m) W1 W2 := s2.mono fun _ r _ _ h => by have h' : r = some (.lit m) := h; show isHand m r = true; subst h'; simp [isHand]
  exact kQ W2 ((sPool1 s1).tr (sPool3 s2')) (C1.hand s2' H2 (by rw [List.length_set]))
theorem ok_Pool_put (G : TX K mg) : MetX P w K mg base 4 (cc K "Pool") "put" (sp_Pool_put K) [] := let ⟨fd, F⟩ := G.F_Pool_put; met_by G.c_Pool G.m_Pool_put F (bd_Pool_put F) sc_Pool_put Sp4.len (body_Pool_put G (fd := fd))
end

def sp_Pool_more (K : PySem.W.Frag) : Sp := Sp2 fun a b H Q E => ∃ W m A M l lf, H = Wd.H W ∧ a = .ref (PlA.p A) ∧ b = .ref l ∧ PoolAt K W m A M ∧ LeafAt K W l lf ∧
  (match lf with
   | .held _ f => Res (usedZ M.I.ts f) (fun c => ∀ W', Step (SPool m) W W' → PoolAt K W' m A { M with I := ⟨M.I.ts.set f.toNat (c + 1), M.I.ws⟩ } → Q .non W'.H) (E (xc K "NoNumber") none W.H)
   | .out _ f => Res (usedZ M.O.ts f) (fun c => ∀ W', Step (SPool m) W W' → PoolAt K W' m A { M with O := ⟨M.O.ts.set f.toNat (c + 1), M.O.ws⟩ } → Q .non W'.H) (E (xc K "NoNumber") none W.H)
   | _ => Q .non W.H)
section
variable {P : Program} {w : World} {K : PySem.W.Frag} {mg : Str → Option Value} {base : Heap}
theorem body_Pool_more (G : TX K mg) {fd : FuncData} {f : Addr} : BodyOk P w K mg base 4 ["self", "leaf"] "Pool.more" (defScope s_Pool_more) f (defBody s_Pool_more) (sp_Pool_more K) := by
  have iT : TK K := G.tk
  rintro cdv A outer s H vs Q E hr tk po ⟨_, _, rfl, W, m, A', M, l, lf, rfl, rfl, rfl, C, L, kR⟩
  have hu := hu_of hr
  refine ⟨_, (pss_cons (ps_if (pt_val (pe_callB call_isi (by rfl) G.b_isinstance (by decide +kernel) (pa_cons (pv 1) (pa_cons (pe_gr G.g_Held) pa_nil)))) (pss_one (ps_expr (pe_mt (ok_Store_more G) hr (by decide) tk (pe_fld (pv 0) rfl) (pa_cons (pe_fld (pv 1) rfl) pa_nil)))) pss_nil)
        (pss_one (ps_if (pt_val (pe_callB call_isi (by rfl) G.b_isinstance (by decide +kernel) (pa_cons (pv 1) (pa_cons (pe_gr G.g_Out) pa_nil)))) (pss_one (ps_expr (pe_mt (ok_Store_more G) hr (by decide) tk (pe_fld (pv 0) rfl) (pa_cons (pe_fld (pv 1) rfl) pa_nil)))) pss_nil))), ?_⟩
  try simp only [cxOf_K]
  obtain ⟨dx, o⟩ := C.o
  obtain ⟨di, oi⟩ := C.i.o
  obtain ⟨do', oo⟩ := C.e.o
  obtain ⟨dl, ol⟩ := L.o
  cases lf with
  | held r f =>
    refine k_seq (k_yes (s_B (v_isiC (v_var rfl) (lf_isHeld G L))) rfl ?_)
    refine k_drop (g_mt (by walk_at "ev") oi rfl (g_cons (g_v (v_fld (f := "frame") (v_var (i := 1) rfl) ol inferInstance rfl) (g_nil ?_))))
    refine ⟨_, _, rfl, W, m, false, _, M.I.ts, M.I.ws, M.wide, f, rfl, rfl, rfl, C.i, fun c hc W1 s1 S1 => ?_, kR.2⟩
    have L1 := L.step s1 (by walk_at "no")
    exact k_no (s_B (v_isiC (v_var rfl) (lf_isOut G L1))) rfl (k_next (kR.1 c hc W1 (sPool1 s1) (C.inner s1 S1 (by simp))))
  | out r f =>
    refine k_seq (k_no (s_B (v_isiC (v_var rfl) (lf_isHeld G L))) rfl (k_next ?_))
    refine k_yes (s_B (v_isiC (v_var rfl) (lf_isOut G L))) rfl ?_
    refine k_drop (g_mt (by walk_at "ev") oo rfl (g_cons (g_v (v_fld (f := "slot") (v_var (i := 1) rfl) ol inferInstance rfl) (g_nil ?_))))
    refine ⟨_, _, rfl, W, m, true, _, M.O.ts, M.O.ws, M.wide, f, rfl, rfl, rfl, C.e, fun c hc W1 s1 S1 => ?_, kR.2⟩
    exact kR.1 c hc W1 (sPool2 s1) (C.outer s1 S1)
  | fresh r =>
    refine k_seq (k_no (s_B (v_isiC (v_var rfl) (lf_isHeld G L))) rfl (k_next ?_))
    exact k_no (s_B (v_isiC (v_var rfl) (lf_isOut G L))) rfl (k_next kR)
  | named r z f =>
    refine k_seq (k_no (s_B (v_isiC (v_var rfl) (lf_isHeld G L))) rfl (k_next ?_))
    exact k_no (s_B (v_isiC (v_var rfl) (lf_isOut G L))) rfl (k_next kR)
theorem ok_Pool_more (G : TX K mg) : MetX P w K mg base 5 (cc K "Pool") "more" (sp_Pool_more K) [] := let ⟨fd, F⟩ := G.F_Pool_more; met_by G.c_Pool G.m_Pool_more F (bd_Pool_more F) sc_Pool_more Sp2.len (body_Pool_more G (fd := fd))
end

def sp_Pool_less (K : PySem.W.Frag) : Sp := Sp2 fun a b H Q E => ∃ W m A M l lf, H = Wd.H W ∧ a = .ref (PlA.p A) ∧ b = .ref l ∧ PoolAt K W m A M ∧ LeafAt K W l lf ∧
  (match lf with
   | .held _ f => Res (usedZ M.I.ts f) (fun c => ∀ W', Step (SPool m) W W' → PoolAt K W' m A { M with I := ⟨M.I.ts.set f.toNat (c - 1), if c = 1 then M.I.ws.set f.toNat [] else M.I.ws⟩, lit := if c = 1 then M.lit.set f.toNat false else M.lit } → Q .non W'.H) (E (xc K "NoNumber") none W.H)
   | .out _ f => Res (usedZ M.O.ts f) (fun c => ∀ W', Step (SPool m) W W' → PoolAt K W' m A { M with O := ⟨M.O.ts.set f.toNat (c - 1), if c = 1 then M.O.ws.set f.toNat [] else M.O.ws⟩ } → Q .non W'.H) (E (xc K "NoNumber") none W.H)
   | _ => Q .non W.H)
section
variable {P : Program} {w : World} {K : PySem.W.Frag} {mg : Str → Option Value} {base : Heap}
theorem body_Pool_less (G : TX K mg) {fd : FuncData} {f : Addr} : BodyOk P w K mg base 4 ["self", "leaf"] "Pool.less" (defScope s_Pool_less) f (defBody s_Pool_less) (sp_Pool_less K) := by
  have iT : TK K := G.tk
  rintro cdv A outer s H vs Q E hr tk po ⟨_, _, rfl, W, m, A', M, l, lf, rfl, rfl, rfl, C, L, kR⟩
  have hu := hu_of hr
  refine ⟨_, (pss_cons (ps_if (pt_val (pe_callB call_isi (by rfl) G.b_isinstance (by decide +kernel) (pa_cons (pv 1) (pa_cons (pe_gr G.g_Held) pa_nil)))) (pss_one (ps_if (pt_cmpR op_eq (pe_mt (ok_Store_less G) hr (by decide) tk (pe_fld (pv 0) rfl) (pa_cons (pe_fld (pv 1) rfl) pa_nil)) pe_int (nomark _)) (pss_one (ps_expr (pe_mt (ok_Hand_unmark G) hr (by decide) tk (pe_fld (pv 0) rfl) (pa_cons (pe_fld (pv 1) rfl) pa_nil)))) pss_nil)) pss_nil)
        (pss_one (ps_if (pt_val (pe_callB call_isi (by rfl) G.b_isinstance (by decide +kernel) (pa_cons (pv 1) (pa_cons (pe_gr G.g_Out) pa_nil)))) (pss_one (ps_expr (pe_mt (ok_Store_less G) hr (by decide) tk (pe_fld (pv 0) rfl) (pa_cons (pe_fld (pv 1) rfl) pa_nil)))) pss_nil))), ?_⟩
  try simp only [cxOf_K]
  obtain ⟨dx, o⟩ := C.o
  obtain ⟨di, oi⟩ := C.i.o
  obtain ⟨do', oo⟩ := C.e.o
  obtain ⟨dl, ol⟩ := L.o
  cases lf with
  | held r f =>
    refine k_seq (k_yes (s_B (v_isiC (v_var rfl) (lf_isHeld G L))) rfl ?_)
    refine k_if (g_test (g_op (g_mt (by walk_at "ev") oi rfl (g_cons (g_v (v_fld (f := "frame") (v_var (i := 1) rfl) ol inferInstance rfl) (g_nil ?_))))))
    refine ⟨_, _, rfl, W, m, false, _, M.I.ts, M.I.ws, M.wide, f, rfl, rfl, rfl, C.i, fun c hc W1 s1 S1 => ?_, kR.2⟩
    have C1 := C.inner s1 S1 (by simp)
    have o1 := o.step s1 (by walk_at "no")
    have L1 := L.step s1 (by walk_at "no")
    have ol1 := ol.step s1 (by walk_at "no")
    obtain ⟨h1, h2, _⟩ := atZ_some (usedZ_some hc).1
    refine g_v v_c (g_eq rfl (g_bl ?_))
    refine ite2 (fun h => ?_) (fun h => ?_)
    · have h := of_decide_eq_true h
      injection h with h
      have hc1 : c = 1 := by omega
      obtain ⟨dh, oh⟩ := C1.h.o
      refine k_drop (g_mt (by walk_at "ev") oh rfl (g_cons (g_v (v_fld (f := "frame") (v_var (i := 1) rfl) ol1 inferInstance rfl) (g_nil ?_))))
      refine ⟨_, _, rfl, W1, m, _, _, M.lit, M.st, f.toNat, rfl, rfl, by rw [Int.toNat_of_nonneg h1], C1.h, by rw [C.l]; omega, fun W2 s2 H2 => ?_⟩
      have s2' : Step (SHand m) W1 W2 := s2.mono fun _ r _ _ h => by have h' : r = some (.lit m) := h; show isHand m r = true; subst h'; simp [isHand]
      have C2 := C1.hand s2' H2 (by rw [List.length_set])
      refine k_no (s_B (v_isiC (v_var rfl) (lf_isOut G (L1.step s2 (by walk_at "no"))))) rfl (k_next (kR.1 c hc W2 ((sPool1 s1).tr (sPool3 s2')) ?_))
      rw [if_pos hc1, if_pos hc1]
      rw [if_pos hc1] at C2
      exact C2
    · have hc1 : ¬ c = 1 := fun e => h (by rw [e]; decide)
      refine k_next (k_no (s_B (v_isiC (v_var rfl) (lf_isOut G L1))) rfl (k_next (kR.1 c hc W1 (sPool1 s1) ?_)))
      rw [if_neg hc1, if_neg hc1]
      rw [if_neg hc1] at C1
      exact C1
  | out r f =>
    refine k_seq (k_no (s_B (v_isiC (v_var rfl) (lf_isHeld G L))) rfl (k_next ?_))
    refine k_yes (s_B (v_isiC (v_var rfl) (lf_isOut G L))) rfl ?_
    refine k_drop (g_mt (by walk_at "ev") oo rfl (g_cons (g_v (v_fld (f := "slot") (v_var (i := 1) rfl) ol inferInstance rfl) (g_nil ?_))))
    refine ⟨_, _, rfl, W, m, true, _, M.O.ts, M.O.ws, M.wide, f, rfl, rfl, rfl, C.e, fun c hc W1 s1 S1 => ?_, kR.2⟩
    exact kR.1 c hc W1 (sPool2 s1) (C.outer s1 S1)
  | fresh r =>
    refine k_seq (k_no (s_B (v_isiC (v_var rfl) (lf_isHeld G L))) rfl (k_next ?_))
    exact k_no (s_B (v_isiC (v_var rfl) (lf_isOut G L))) rfl (k_next kR)
  | named r z f =>
    refine k_seq (k_no (s_B (v_isiC (v_var rfl) (lf_isHeld G L))) rfl (k_next ?_))
    exact k_no (s_B (v_isiC (v_var rfl) (lf_isOut G L))) rfl (k_next kR)
theorem ok_Pool_less (G : TX K mg) : MetX P w K mg base 5 (cc K "Pool") "less" (sp_Pool_less K) [] := let ⟨fd, F⟩ := G.F_Pool_less; met_by G.c_Pool G.m_Pool_less F (bd_Pool_less F) sc_Pool_less Sp2.len (body_Pool_less G (fd := fd))
end

def sp_Pool_words (K : PySem.W.Frag) : Sp := Sp2 fun a b H Q E => ∃ W m A M l lf, H = Wd.H W ∧ a = .ref (PlA.p A) ∧ b = .ref l ∧ PoolAt K W m A M ∧ LeafAt K W l lf ∧
  (match lf with
   | .held _ f => (∀ c w, usedZ M.I.ts f = some c → M.I.ws[f.toNat]? = some w → ∀ W' q, W.H q = none → Step SNone W W' → At W' none q (.lst (w.map V.int)) → Q (.ref q) W'.H) ∧ (usedZ M.I.ts f = none → E (xc K "NoNumber") none W.H)
   | .out _ f => (∀ c w, usedZ M.O.ts f = some c → M.O.ws[f.toNat]? = some w → ∀ W' q, W.H q = none → Step SNone W W' → At W' none q (.lst (w.map V.int)) → Q (.ref q) W'.H) ∧ (usedZ M.O.ts f = none → E (xc K "NoNumber") none W.H)
   | _ => ∀ W' q, W.H q = none → Step SNone W W' → At W' none q (.lst ((List.replicate M.wide.toNat 0).map V.int)) → Q (.ref q) W'.H)
section
variable {P : Program} {w : World} {K : PySem.W.Frag} {mg : Str → Option Value} {base : Heap}
theorem body_Pool_words (G : TX K mg) {fd : FuncData} {f : Addr} : BodyOk P w K mg base 3 ["self", "leaf"] "Pool.words" (defScope s_Pool_words) f (defBody s_Pool_words) (sp_Pool_words K) := by
  have iT : TK K := G.tk
  rintro cdv A outer s H vs Q E hr tk po ⟨_, _, rfl, W, m, A', M, l, lf, rfl, rfl, rfl, C, L, kR⟩
  have hu := hu_of hr
  refine ⟨_, (pss_cons (ps_if (pt_val (pe_callB call_isi (by rfl) G.b_isinstance (by decide +kernel) (pa_cons (pv 1) (pa_cons (pe_gr G.g_Held) pa_nil)))) (pss_one (ps_ret (pe_mt (ok_Store_words G) hr (by decide) tk (pe_fld (pv 0) rfl) (pa_cons (pe_fld (pv 1) rfl) pa_nil)))) pss_nil)
        (pss_cons (ps_if (pt_val (pe_callB call_isi (by rfl) G.b_isinstance (by decide +kernel) (pa_cons (pv 1) (pa_cons (pe_gr G.g_Out) pa_nil)))) (pss_one (ps_ret (pe_mt (ok_Store_words G) hr (by decide) tk (pe_fld (pv 0) rfl) (pa_cons (pe_fld (pv 1) rfl) pa_nil)))) pss_nil)
        (pss_one (ps_ret (pe_op op_rep (pe_lst (pa_cons pe_int pa_nil)) (pe_fld (pv 0) rfl)))))), ?_⟩
  try simp only [cxOf_K]
  obtain ⟨dx, o⟩ := C.o
  obtain ⟨di, oi⟩ := C.i.o
  obtain ⟨do', oo⟩ := C.e.o
  obtain ⟨dl, ol⟩ := L.o
  have hwd := C.i.w
  cases lf with
  | held r f =>
    refine k_seq (k_yes (s_B (v_isiC (v_var rfl) (lf_isHeld G L))) rfl ?_)
    refine k_ret (g_mt (by walk_at "ev") oi rfl (g_cons (g_v (v_fld (f := "frame") (v_var (i := 1) rfl) ol inferInstance rfl) (g_nil ?_))))
    exact ⟨_, _, rfl, W, m, false, _, M.I.ts, M.I.ws, M.wide, f, rfl, rfl, rfl, C.i, kR.1, kR.2⟩
  | out r f =>
    refine k_seq (k_no (s_B (v_isiC (v_var rfl) (lf_isHeld G L))) rfl (k_next ?_))
    refine k_seq (k_yes (s_B (v_isiC (v_var rfl) (lf_isOut G L))) rfl ?_)
    refine k_ret (g_mt (by walk_at "ev") oo rfl (g_cons (g_v (v_fld (f := "slot") (v_var (i := 1) rfl) ol inferInstance rfl) (g_nil ?_))))
    exact ⟨_, _, rfl, W, m, true, _, M.O.ts, M.O.ws, M.wide, f, rfl, rfl, rfl, C.e, kR.1, kR.2⟩
  | fresh r =>
    refine k_seq (k_no (s_B (v_isiC (v_var rfl) (lf_isHeld G L))) rfl (k_next ?_))
    refine k_seq (k_no (s_B (v_isiC (v_var rfl) (lf_isOut G L))) rfl (k_next ?_))
    refine k_ret (g_op (g_lst (g_cons (g_c (g_nil (new_l rfl fun l0 W1 n1 a1 s1 => ?_))))))
    have o1 := o.step s1 (by walk_at "no")
    refine g_v (by walk_at "ev") (g_rep none a1 (by omega) (by omega) fun l W2 n2 a2 s2 => kR W2 l (s1.live _ n2) (s1.tr s2) ?_)
    rw [List.map_replicate]
    exact a2
  | named r z f =>
    refine k_seq (k_no (s_B (v_isiC (v_var rfl) (lf_isHeld G L))) rfl (k_next ?_))
    refine k_seq (k_no (s_B (v_isiC (v_var rfl) (lf_isOut G L))) rfl (k_next ?_))
    refine k_ret (g_op (g_lst (g_cons (g_c (g_nil (new_l rfl fun l0 W1 n1 a1 s1 => ?_))))))
    have o1 := o.step s1 (by walk_at "no")
    refine g_v (by walk_at "ev") (g_rep none a1 (by omega) (by omega) fun l W2 n2 a2 s2 => kR W2 l (s1.live _ n2) (s1.tr s2) ?_)
    rw [List.map_replicate]
    exact a2
theorem ok_Pool_words (G : TX K mg) : MetX P w K mg base 4 (cc K "Pool") "words" (sp_Pool_words K) [] := let ⟨fd, F⟩ := G.F_Pool_words; met_by G.c_Pool G.m_Pool_words F (bd_Pool_words F) sc_Pool_words Sp2.len (body_Pool_words G (fd := fd))
end

def sp_Pool_count (K : PySem.W.Frag) : Sp := Sp2 fun a b H Q E => ∃ W m A M l lf, H = Wd.H W ∧ a = .ref (PlA.p A) ∧ b = .ref l ∧ PoolAt K W m A M ∧ LeafAt K W l lf ∧
  (match lf with
   | .held _ f => Res (usedZ M.I.ts f) (fun c => ∀ W', Step SNone W W' → Q (.int c) W'.H) (E (xc K "NoNumber") none W.H)
   | .out _ f => Res (usedZ M.O.ts f) (fun c => ∀ W', Step SNone W W' → Q (.int c) W'.H) (E (xc K "NoNumber") none W.H)
   | _ => Q (.int 0) W.H)
section
variable {P : Program} {w : World} {K : PySem.W.Frag} {mg : Str → Option Value} {base : Heap}
theorem body_Pool_count (G : TX K mg) {fd : FuncData} {f : Addr} : BodyOk P w K mg base 4 ["self", "leaf"] "Pool.count" (defScope s_Pool_count) f (defBody s_Pool_count) (sp_Pool_count K) := by
  have iT : TK K := G.tk
  rintro cdv A outer s H vs Q E hr tk po ⟨_, _, rfl, W, m, A', M, l, lf, rfl, rfl, rfl, C, L, kR⟩
  have hu := hu_of hr
  refine ⟨_, (pss_cons (ps_if (pt_val (pe_callB call_isi (by rfl) G.b_isinstance (by decide +kernel) (pa_cons (pv 1) (pa_cons (pe_gr G.g_Held) pa_nil)))) (pss_one (ps_ret (pe_cl (ok_count_in G) hr (by decide) tk (by rfl) (pa_cons (pe_fld (pv 0) rfl) (pa_cons (pe_fld (pv 1) rfl) pa_nil))))) pss_nil)
        (pss_cons (ps_if (pt_val (pe_callB call_isi (by rfl) G.b_isinstance (by decide +kernel) (pa_cons (pv 1) (pa_cons (pe_gr G.g_Out) pa_nil)))) (pss_one (ps_ret (pe_cl (ok_count_in G) hr (by decide) tk (by rfl) (pa_cons (pe_fld (pv 0) rfl) (pa_cons (pe_fld (pv 1) rfl) pa_nil))))) pss_nil)
        (pss_one (ps_ret pe_int)))), ?_⟩
  try simp only [cxOf_K]
  obtain ⟨dx, o⟩ := C.o
  obtain ⟨di, oi⟩ := C.i.o
  obtain ⟨do', oo⟩ := C.e.o
  obtain ⟨dl, ol⟩ := L.o
  cases lf with
  | held r f =>
    refine k_seq (k_yes (s_B (v_isiC (v_var rfl) (lf_isHeld G L))) rfl ?_)
    refine k_ret (g_cl (g_cons (g_v (by walk_at "ev") (g_cons (g_v (v_fld (f := "frame") (v_var (i := 1) rfl) ol inferInstance rfl) (g_nil ?_))))))
    exact ⟨_, _, rfl, W, m, false, _, M.I.ts, M.I.ws, M.wide, f, rfl, rfl, rfl, C.i, kR⟩
  | out r f =>
    refine k_seq (k_no (s_B (v_isiC (v_var rfl) (lf_isHeld G L))) rfl (k_next ?_))
    refine k_seq (k_yes (s_B (v_isiC (v_var rfl) (lf_isOut G L))) rfl ?_)
    refine k_ret (g_cl (g_cons (g_v (by walk_at "ev") (g_cons (g_v (v_fld (f := "slot") (v_var (i := 1) rfl) ol inferInstance rfl) (g_nil ?_))))))
    exact ⟨_, _, rfl, W, m, true, _, M.O.ts, M.O.ws, M.wide, f, rfl, rfl, rfl, C.e, kR⟩
  | fresh r =>
    refine k_seq (k_no (s_B (v_isiC (v_var rfl) (lf_isHeld G L))) rfl (k_next ?_))
    refine k_seq (k_no (s_B (v_isiC (v_var rfl) (lf_isOut G L))) rfl (k_next ?_))
    exact k_ret (g_v v_c kR)
  | named r z f =>
    refine k_seq (k_no (s_B (v_isiC (v_var rfl) (lf_isHeld G L))) rfl (k_next ?_))
    refine k_seq (k_no (s_B (v_isiC (v_var rfl) (lf_isOut G L))) rfl (k_next ?_))
    exact k_ret (g_v v_c kR)
theorem ok_Pool_count (G : TX K mg) : MetX P w K mg base 5 (cc K "Pool") "count" (sp_Pool_count K) [] := let ⟨fd, F⟩ := G.F_Pool_count; met_by G.c_Pool G.m_Pool_count F (bd_Pool_count F) sc_Pool_count Sp2.len (body_Pool_count G (fd := fd))
end

/-! ### what is kept: rows of a leaf, its words and its count; no program here -/
structure RwM where
  lf : Lf
  ws : List Int
  c : Int
/-- where a leaf's content lies -/
def Lf.loc : Lf → Option (Bool × Int)
  | .held _ f => some (false, f) | .out _ s => some (true, s) | _ => none
def PlM.ts (M : PlM) (b : Bool) : List Int := if b = true then M.O.ts else M.I.ts
def PlM.wss (M : PlM) (b : Bool) : List (List Int) := if b = true then M.O.ws else M.I.ws
def PlM.setAt (M : PlM) (b : Bool) (n : Nat) (k : Int) (w : List Int) : PlM := if b = true then { M with O := ⟨M.O.ts.set n k, M.O.ws.set n w⟩ } else { M with I := ⟨M.I.ts.set n k, M.I.ws.set n w⟩ }
theorem ts_setAt (M : PlM) (b b' : Bool) (n : Nat) (k : Int) (w : List Int) : (M.setAt b n k w).ts b' = if b' = b then (M.ts b).set n k else M.ts b' := by
  cases b <;> cases b' <;> rfl
theorem ws_setAt (M : PlM) (b b' : Bool) (n : Nat) (k : Int) (w : List Int) : (M.setAt b n k w).wss b' = if b' = b then (M.wss b).set n w else M.wss b' := by
  cases b <;> cases b' <;> rfl
theorem wide_setAt (M : PlM) (b : Bool) (n : Nat) (k : Int) (w : List Int) : (M.setAt b n k w).wide = M.wide := by cases b <;> rfl
/-- a row's content lies where its leaf says -/
def PlM.has (M : PlM) (y : RwM) : Prop := ∃ b n, y.lf.loc = some (b, n) ∧ 0 ≤ n ∧ (M.ts b)[n.toNat]? = some y.c ∧ (M.wss b)[n.toNat]? = some y.ws
structure J (M : PlM) (Ms : List RwM) : Prop where
  a : ∀ y ∈ Ms, y.lf.rights = 3 ∧ M.has y ∧ 1 ≤ y.c ∧ wordsOk y.ws M.wide = true
  b : Ms.Pairwise fun x y => x.lf.loc ≠ y.lf.loc
  c : ∀ b (n : Nat) k, (M.ts b)[n]? = some k → k ≠ 0 → ∃ y ∈ Ms, y.lf.loc = some (b, (n : Int))
  d : (M.ts false).count 0 + (M.ts true).count 0 + Ms.length = (M.ts false).length + (M.ts true).length
  e : ∀ b, (M.wss b).length = (M.ts b).length
theorem cnt_set {ts : List Int} {n : Nat} {c : Int} (k : Int) (h : ts[n]? = some c) : (ts.set n k).count 0 + (if c = 0 then 1 else 0) = ts.count 0 + (if k = 0 then 1 else 0) := by
  induction ts generalizing n with
  | nil => simp at h
  | cons a l ih =>
    cases n with
    | zero =>
      simp at h
      subst h
      rw [List.set_cons_zero, List.count_cons, List.count_cons]
      simp only [beq_iff_eq]
      split <;> split <;> omega
    | succ n =>
      simp at h
      have := ih h
      rw [List.set_cons_succ, List.count_cons, List.count_cons]
      omega
theorem J.perm {M : PlM} {Ms Ms' : List RwM} (j : J M Ms) (p : Ms.Perm Ms') : J M Ms' where
  a := fun y h => j.a y (p.mem_iff.mpr h)
  b := (p.pairwise_iff (fun {x y} (h : x.lf.loc ≠ y.lf.loc) => (fun e => h e.symm : y.lf.loc ≠ x.lf.loc))).mp j.b
  c := fun b n k h hk => let ⟨y, hy, e⟩ := j.c b n k h hk; ⟨y, p.mem_iff.mp hy, e⟩
  d := by rw [← p.length_eq]; exact j.d
  e := j.e
theorem J.same {M M' : PlM} {Ms : List RwM} (j : J M Ms) (hI : M'.I = M.I) (hO : M'.O = M.O) (hw : M'.wide = M.wide) : J M' Ms := by
  have e : ∀ b, M'.ts b = M.ts b := fun b => by unfold PlM.ts; rw [hI, hO]
  have e2 : ∀ b, M'.wss b = M.wss b := fun b => by unfold PlM.wss; rw [hI, hO]
  refine ⟨fun y h => ?_, j.b, fun b n k h => ?_, ?_, fun b => ?_⟩
  · obtain ⟨h1, ⟨b, n, h2, h3, h4, h5⟩, h6, h7⟩ := j.a y h
    exact ⟨h1, ⟨b, n, h2, h3, by rw [e]; exact h4, by rw [e2]; exact h5⟩, h6, by rw [hw]; exact h7⟩
  · rw [e] at h; exact j.c b n k h
  · rw [e, e]; exact j.d
  · rw [e, e2]; exact j.e b
/-- a row less -/
theorem J.rem {M : PlM} {y : RwM} {Ms : List RwM} {b : Bool} {n : Int} (j : J M (y :: Ms)) (l : y.lf.loc = some (b, n)) : J (M.setAt b n.toNat 0 []) Ms := by
  obtain ⟨h1, ⟨b', n', l', hn, ht, hw⟩, hc, hok⟩ := j.a y List.mem_cons_self
  rw [l] at l'
  cases l'
  obtain ⟨jb1, jb2⟩ := List.pairwise_cons.mp j.b
  refine ⟨fun z hz => ?_, jb2, fun b1 m k h hk => ?_, ?_, fun b1 => ?_⟩
  · obtain ⟨g1, ⟨b2, n2, g2, g3, g4, g5⟩, g6, g7⟩ := j.a z (List.mem_cons_of_mem _ hz)
    have hne := jb1 z hz
    rw [l, g2] at hne
    have key : b2 = b → n.toNat ≠ n2.toNat := fun e1 e2 => hne (by rw [e1, show n = n2 by omega])
    refine ⟨g1, ⟨b2, n2, g2, g3, ?_, ?_⟩, g6, by rw [wide_setAt]; exact g7⟩
    · rw [ts_setAt]
      split
      · rename_i e; rw [List.getElem?_set_ne (key e)]; rw [e] at g4; exact g4
      · exact g4
    · rw [ws_setAt]
      split
      · rename_i e; rw [List.getElem?_set_ne (key e)]; rw [e] at g5; exact g5
      · exact g5
  · rw [ts_setAt] at h
    have : (M.ts b1)[m]? = some k ∧ (b1 = b → m ≠ n.toNat) := by
      split at h
      · rename_i e
        by_cases hm : n.toNat = m
        · subst hm
          rw [List.getElem?_set_self (List.getElem?_eq_some_iff.mp ht).1] at h
          cases h
          exact absurd rfl hk
        · rw [List.getElem?_set_ne hm] at h
          exact ⟨by rw [e]; exact h, fun _ => fun z => hm z.symm⟩
      · rename_i e
        exact ⟨h, fun z => absurd z e⟩
    obtain ⟨z, hz, lz⟩ := j.c b1 m k this.1 hk
    rcases List.mem_cons.mp hz with rfl | hz
    · rw [l] at lz
      cases lz
      exact absurd (by omega) (this.2 rfl)
    · exact ⟨z, hz, lz⟩
  · have hd := j.d
    have hs := cnt_set 0 ht
    rw [if_neg (by omega), if_pos rfl] at hs
    rw [List.length_cons] at hd
    rw [ts_setAt, ts_setAt]
    cases b
    · rw [if_pos rfl, if_neg (by decide), List.length_set]; omega
    · rw [if_neg (by decide), if_pos rfl, List.length_set]; omega
  · rw [ts_setAt, ws_setAt]
    have := j.e
    split
    · rw [List.length_set, List.length_set]; exact this b
    · exact this b1
/-- a row more -/
theorem J.add {M : PlM} {y : RwM} {Ms : List RwM} {b : Bool} {n : Nat} (j : J M Ms) (l : y.lf.loc = some (b, (n : Int))) (h0 : (M.ts b)[n]? = some 0) (h3 : y.lf.rights = 3) (hc : 1 ≤ y.c) (hok : wordsOk y.ws M.wide = true) : J (M.setAt b n y.c y.ws) (y :: Ms) := by
  have hlt := (List.getElem?_eq_some_iff.mp h0).1
  have hno : ∀ z ∈ Ms, z.lf.loc ≠ some (b, (n : Int)) := fun z hz e => by
    obtain ⟨_, ⟨b2, n2, g2, g3, g4, _⟩, g6, _⟩ := j.a z hz
    rw [e] at g2
    cases g2
    rw [Int.toNat_natCast, h0] at g4
    have := Option.some.inj g4
    omega
  refine ⟨fun z hz => ?_, List.pairwise_cons.mpr ⟨fun z hz e => hno z hz (by rw [← e, l]), j.b⟩, fun b1 m k h hk => ?_, ?_, fun b1 => ?_⟩
  · rcases List.mem_cons.mp hz with rfl | hz
    · refine ⟨h3, ⟨b, n, l, by omega, ?_, ?_⟩, hc, by rw [wide_setAt]; exact hok⟩
      · rw [ts_setAt, if_pos rfl, Int.toNat_natCast, List.getElem?_set_self hlt]
      · rw [ws_setAt, if_pos rfl, Int.toNat_natCast, List.getElem?_set_self (by rw [j.e]; exact hlt)]
    · obtain ⟨g1, ⟨b2, n2, g2, g3, g4, g5⟩, g6, g7⟩ := j.a z hz
      have hne := hno z hz
      rw [g2] at hne
      have key : b2 = b → n ≠ n2.toNat := fun e1 e2 => hne (by rw [e1, show n2 = (n : Int) by omega])
      refine ⟨g1, ⟨b2, n2, g2, g3, ?_, ?_⟩, g6, by rw [wide_setAt]; exact g7⟩
      · rw [ts_setAt]
        split
        · rename_i e; rw [List.getElem?_set_ne (key e)]; rw [e] at g4; exact g4
        · exact g4
      · rw [ws_setAt]
        split
        · rename_i e; rw [List.getElem?_set_ne (key e)]; rw [e] at g5; exact g5
        · exact g5
  · rw [ts_setAt] at h
    split at h
    · rename_i e
      by_cases hm : n = m
      · subst hm
        exact ⟨y, List.mem_cons_self, by rw [e]; exact l⟩
      · rw [List.getElem?_set_ne hm, ← e] at h
        obtain ⟨z, hz, lz⟩ := j.c b1 m k h hk
        exact ⟨z, List.mem_cons_of_mem _ hz, lz⟩
    · obtain ⟨z, hz, lz⟩ := j.c b1 m k h hk
      exact ⟨z, List.mem_cons_of_mem _ hz, lz⟩
  · have hd := j.d
    have hs := cnt_set y.c h0
    rw [if_pos rfl, if_neg (by omega)] at hs
    rw [List.length_cons, ts_setAt, ts_setAt]
    cases b
    · rw [if_pos rfl, if_neg (by decide), List.length_set]; omega
    · rw [if_neg (by decide), if_pos rfl, List.length_set]; omega
  · rw [ts_setAt, ws_setAt]
    have := j.e
    split
    · rw [List.length_set, List.length_set]; exact this b
    · exact this b1
theorem setAt_setAt (M : PlM) (b : Bool) (n : Nat) (k k' : Int) (w w' : List Int) : (M.setAt b n k w).setAt b n k' w' = M.setAt b n k' w' := by
  cases b
  · unfold PlM.setAt; simp
  · unfold PlM.setAt; simp
/-- a row's count, or its words -/
theorem J.upd {M : PlM} {y : RwM} {Ms : List RwM} {b : Bool} {n : Int} {k : Int} {w : List Int} (j : J M (y :: Ms)) (l : y.lf.loc = some (b, n)) (hk : 1 ≤ k) (hok : wordsOk w M.wide = true) : J (M.setAt b n.toNat k w) (⟨y.lf, w, k⟩ :: Ms) := by
  obtain ⟨h1, ⟨b', n', l', hn, ht, hw⟩, hc, _⟩ := j.a y List.mem_cons_self
  rw [l] at l'
  cases l'
  have hlt := (List.getElem?_eq_some_iff.mp ht).1
  have := (j.rem l).add (y := ⟨y.lf, w, k⟩) (b := b) (n := n.toNat) (by rw [Int.toNat_of_nonneg hn]; exact l) (by rw [ts_setAt, if_pos rfl, List.getElem?_set_self hlt]) h1 hk (by rw [wide_setAt]; exact hok)
  rw [setAt_setAt] at this
  exact this
theorem perm_erase {α : Type} {l : List α} {i : Nat} {y : α} (h : l[i]? = some y) : l.Perm (y :: l.eraseIdx i) := by
  induction l generalizing i with
  | nil => simp at h
  | cons a l ih =>
    cases i with
    | zero =>
      simp at h
      subst h
      exact List.Perm.refl _
    | succ i =>
      simp at h
      exact ((ih h).cons a).trans (List.Perm.swap _ _ _)
theorem perm_set {α : Type} {l : List α} {i : Nat} (z : α) (h : i < l.length) : (l.set i z).Perm (z :: l.eraseIdx i) := by
  have := perm_erase (l := l.set i z) (i := i) (y := z) (by rw [List.getElem?_set_self h])
  rw [List.eraseIdx_set_eq] at this
  exact this
def mvR (mv : List Mv) (y : RwM) : RwM := ⟨movedBy y.lf mv, y.ws, y.c⟩
theorem mvR_nil (Ms : List RwM) : Ms.map (mvR []) = Ms := by
  have : mvR [] = id := by funext y; cases y; rfl
  rw [this, List.map_id]
theorem locI {lf : Lf} {n : Int} (h : lf.loc = some (false, n)) : lf = .held lf.rights n := by
  cases lf <;> simp_all [Lf.loc, Lf.rights]
theorem locO {lf : Lf} {n : Int} (h : lf.loc = some (true, n)) : lf = .out lf.rights n := by
  cases lf <;> simp_all [Lf.loc, Lf.rights]
theorem mvB_other {lf : Lf} {f s : Int} (h : lf.loc ≠ some (false, f)) : movedBy lf [(true, f, s)] = lf := by
  cases lf with
  | held r f' =>
    have : ¬ f' = f := fun e => h (by rw [e]; rfl)
    show (if f' = f then _ else _) = _
    rw [if_neg this]; rfl
  | _ => rfl
theorem putOut_eq {M : PlM} {c : Int} {w : List Int} (hts : M.I.ts[M.putF]? = some c) (hws : M.I.ws[M.putF]? = some w) : M.putOut.I = ((M.setAt false M.putF 0 []).setAt true M.putS c w).I ∧ M.putOut.O = ((M.setAt false M.putF 0 []).setAt true M.putS c w).O := by
  unfold PlM.putOut
  rw [getD_of hts, getD_of hws]
  exact ⟨rfl, rfl⟩
/-- what is put out: the row that lay in the frame lies in the slot -/
theorem J.putOut {M : PlM} {Ms : List RwM} (j : J M Ms) (hlt : M.putF < M.I.ts.length) (h1 : firstZ M.I.ts = none) (h2 : firstZ M.O.ts ≠ none) : J M.putOut (Ms.map (mvR [(true, ((M.putF : Nat) : Int), ((M.putS : Nat) : Int))])) := by
  obtain ⟨c, hts⟩ : ∃ c, M.I.ts[M.putF]? = some c := ⟨_, List.getElem?_eq_getElem hlt⟩
  have hne := firstZ_none h1 hts
  obtain ⟨s, hs⟩ : ∃ s, firstZ M.O.ts = some s := by
    cases e : firstZ M.O.ts with
    | none => exact absurd e h2
    | some x => exact ⟨x, rfl⟩
  have eS : M.putS = s := by unfold PlM.putS; rw [hs]; rfl
  obtain ⟨y, hy, ly⟩ := j.c false M.putF c hts hne
  obtain ⟨i, hi⟩ := List.mem_iff_getElem?.mp hy
  have p := perm_erase hi
  have j1 := j.perm p
  obtain ⟨y1, ⟨b', n', y2, y3, y4, y5⟩, y6, y7⟩ := j.a y hy
  rw [ly] at y2
  cases y2
  rw [Int.toNat_natCast] at y4 y5
  have y4' : M.I.ts[M.putF]? = some y.c := y4
  have y5' : M.I.ws[M.putF]? = some y.ws := y5
  have j2 := j1.rem ly
  rw [Int.toNat_natCast] at j2
  have j3 := j2.add (y := ⟨.out 3 (s : Nat), y.ws, y.c⟩) (b := true) (n := s) rfl (by rw [ts_setAt, if_neg (by decide)]; exact (firstZ_some hs).1) rfl y6 (by rw [wide_setAt]; exact y7)
  have eq := putOut_eq y4' y5'
  have j4 := j3.same (M' := M.putOut) (by rw [eq.1, eS]) (by rw [eq.2, eS]) rfl
  refine j4.perm ?_
  refine List.Perm.symm ?_
  refine (p.map _).trans ?_
  rw [List.map_cons]
  have e1 : mvR [(true, ((M.putF : Nat) : Int), ((M.putS : Nat) : Int))] y = ⟨.out 3 (s : Nat), y.ws, y.c⟩ := by
    unfold mvR
    rw [locI ly, y1, eS]
    show (⟨if (M.putF : Int) = (M.putF : Int) then _ else _, _, _⟩ : RwM) = _
    rw [if_pos rfl]
  have e2 : (Ms.eraseIdx i).map (mvR [(true, ((M.putF : Nat) : Int), ((M.putS : Nat) : Int))]) = Ms.eraseIdx i := by
    have hb := (List.pairwise_cons.mp j1.b).1
    refine (List.map_congr_left fun z hz => ?_).trans (List.map_id _)
    have hn : z.lf.loc ≠ some (false, ((M.putF : Nat) : Int)) := fun e => hb z hz (by rw [ly, e])
    unfold mvR
    rw [mvB_other hn]
    rfl
  rw [e1, e2]
theorem J.good {M : PlM} {Ms : List RwM} (j : J M Ms) : M.good := by
  have key : ∀ b (i : Nat) c w, (M.ts b)[i]? = some c → c ≠ 0 → (M.wss b)[i]? = some w → wordsOk w M.wide = true := fun b i c w h hc hw => by
    obtain ⟨y, hy, ly⟩ := j.c b i c h hc
    obtain ⟨_, ⟨b', n', y2, y3, y4, y5⟩, _, y7⟩ := j.a y hy
    rw [ly] at y2
    cases y2
    rw [Int.toNat_natCast, hw] at y5
    cases y5
    exact y7
  exact ⟨fun i c w => key false i c w, fun i c w => key true i c w⟩
theorem J.brought {M : PlM} {Ms : List RwM} {ns : List Int} {n : Int} (j : J M Ms) (hlt : M.putF < M.I.ts.length) (hr : firstZ M.I.ts = none → firstZ M.O.ts ≠ none) (hn : 1 ≤ n) (hok : wordsOk ns M.wide = true) :
    J (M.brought ns n).1 (⟨.held 3 ((M.brought ns n).2.1 : Nat), ns, n⟩ :: Ms.map (mvR (M.brought ns n).2.2)) := by
  have fin : ∀ (M1 : PlM) (Ms1 : List RwM), J M1 Ms1 → M1.wide = M.wide → firstZ M1.I.ts ≠ none → J { M1 with I := ⟨M1.I.ts.set ((firstZ M1.I.ts).getD 0) n, M1.I.ws.set ((firstZ M1.I.ts).getD 0) ns⟩, lit := M1.lit.set ((firstZ M1.I.ts).getD 0) true } (⟨.held 3 (((firstZ M1.I.ts).getD 0 : Nat) : Int), ns, n⟩ :: Ms1) := fun M1 Ms1 j1 hw h0 => by
    obtain ⟨f, hf⟩ : ∃ f, firstZ M1.I.ts = some f := by
      cases e : firstZ M1.I.ts with
      | none => exact absurd e h0
      | some x => exact ⟨x, rfl⟩
    rw [hf]
    have := j1.add (y := ⟨.held 3 (f : Nat), ns, n⟩) (b := false) (n := f) rfl (firstZ_some hf).1 rfl hn (by rw [hw]; exact hok)
    exact this.same rfl rfl rfl
  unfold PlM.brought
  by_cases h : firstZ M.I.ts = none
  · rw [if_pos h, if_pos h]
    exact fin _ _ (j.putOut hlt h (hr h)) rfl (firstZ_set0 hlt)
  · rw [if_neg h, if_neg h]
    rw [mvR_nil]
    exact fin M Ms j rfl h
theorem brought_mv (M : PlM) (ns : List Int) (n : Int) : (M.brought ns n).2.2 = [] ∨ ∃ f s, (M.brought ns n).2.2 = [(true, f, s)] := by
  unfold PlM.brought
  by_cases h : firstZ M.I.ts = none
  · right; exact ⟨_, _, if_pos h⟩
  · left; exact if_neg h
theorem J.fetched {M : PlM} {Ms : List RwM} {i : Nat} {y : RwM} {n : Int} (j : J M Ms) (hi : Ms[i]? = some y) (ly : y.lf.loc = some (true, n)) (hlt : M.putF < M.I.ts.length) :
    J (M.fetched n y.c y.ws).1 (Ms.map (mvR (M.fetched n y.c y.ws).2.2)) ∧ (mvR (M.fetched n y.c y.ws).2.2 y).lf = .held 3 ((M.fetched n y.c y.ws).2.1 : Nat) := by
  have p := perm_erase hi
  have j1 := j.perm p
  obtain ⟨y1, ⟨b', n', y2, y3, y4, y5⟩, y6, y7⟩ := j.a y (List.mem_of_getElem? hi)
  rw [ly] at y2
  cases y2
  have j2 : J (M.emptied n) (Ms.eraseIdx i) := j1.rem ly
  have h0 : firstZ (M.emptied n).O.ts ≠ none := firstZ_set0 (List.getElem?_eq_some_iff.mp y4).1
  have j3 := j2.brought (ns := y.ws) (n := y.c) hlt (fun _ => h0) y6 y7
  have hy : (mvR (M.fetched n y.c y.ws).2.2 y).lf = .held 3 ((M.fetched n y.c y.ws).2.1 : Nat) := by
    unfold mvR PlM.fetched
    rw [locO ly, y1]
    rcases brought_mv (M.emptied n) y.ws y.c with e | ⟨f, s, e⟩
    · rw [e]
      show (if n = n then _ else _) = _
      rw [if_pos rfl]
    · rw [e]
      show (if n = n then _ else _) = _
      rw [if_pos rfl]
  refine ⟨?_, hy⟩
  refine (show J (M.fetched n y.c y.ws).1 _ from j3).perm ?_
  refine List.Perm.symm ((p.map _).trans ?_)
  rw [List.map_cons]
  have e1 : mvR (M.fetched n y.c y.ws).2.2 y = ⟨.held 3 (((M.emptied n).brought y.ws y.c).2.1 : Nat), y.ws, y.c⟩ := by
    have : mvR (M.fetched n y.c y.ws).2.2 y = ⟨(mvR (M.fetched n y.c y.ws).2.2 y).lf, y.ws, y.c⟩ := rfl
    rw [this, hy]
    rfl
  have e2 : (Ms.eraseIdx i).map (mvR (M.fetched n y.c y.ws).2.2) = (Ms.eraseIdx i).map (mvR ((M.emptied n).brought y.ws y.c).2.2) := by
    have hb := (List.pairwise_cons.mp j1.b).1
    refine List.map_congr_left fun z hz => ?_
    have hn : z.lf.loc ≠ some (true, n) := fun e => hb z hz (by rw [ly, e])
    unfold mvR PlM.fetched
    have key : ∀ f : Int, movedBy z.lf [(false, f, n)] = z.lf := fun f => by
      cases hz' : z.lf with
      | out r s =>
        have : ¬ s = n := fun e => hn (by rw [hz', e]; rfl)
        show (if s = n then _ else _) = _
        rw [if_neg this]; rfl
      | _ => rfl
    rcases brought_mv (M.emptied n) y.ws y.c with e | ⟨f, s, e⟩
    · rw [e]
      show (⟨movedBy z.lf [(false, _, n)], _, _⟩ : RwM) = ⟨movedBy z.lf [], _, _⟩
      rw [key]; rfl
    · rw [e]
      show (⟨movedBy z.lf [(true, f, s), (false, _, n)], _, _⟩ : RwM) = ⟨movedBy z.lf [(true, f, s)], _, _⟩
      have : movedBy z.lf [(true, f, s), (false, (((M.emptied n).brought y.ws y.c).2.1 : Int), n)] = movedBy z.lf [(true, f, s)] := by
        cases hz' : z.lf with
        | held r f' =>
          show (if f' = f then _ else _) = (if f' = f then _ else _)
          by_cases q : f' = f
          · rw [if_pos q, if_pos q]
          · rw [if_neg q, if_neg q]; rfl
        | out r s' =>
          have k := key (((M.emptied n).brought y.ws y.c).2.1 : Int)
          rw [hz'] at k
          exact k
        | _ => rfl
      rw [this]
  rw [e1, e2]

/-! ### the law k29: rows in the heap -/
structure RwA where
  r : Addr
  l : Addr
  q : Addr
structure RowAt (K : PySem.W.Frag) (W : Wd) (x : RwA) (y : RwM) : Prop where
  r : At W (some (.own 2)) x.r (.lst [.ref x.l, .ref x.q, .int y.c])
  l : LeafAt K W x.l y.lf
  q : At W (some (.own 3)) x.q (.lst (y.ws.map V.int))
structure KeptAt (K : PySem.W.Frag) (W : Wd) (kp : Addr) (As : List RwA) (Ms : List RwM) : Prop where
  k : At W (some (.own 1)) kp (.lst (As.map fun x => V.ref x.r))
  n : As.length = Ms.length
  e : ∀ (i : Nat) x y, As[i]? = some x → Ms[i]? = some y → RowAt K W x y
  d : ∀ (i j : Nat) x y, As[i]? = some x → As[j]? = some y → x.r = y.r ∨ x.q = y.q → i = j
theorem RowAt.step {K : PySem.W.Frag} {W W' : Wd} {x : RwA} {y : RwM} {S : Addr → Option Rl → Prop} (h : RowAt K W x y) (s : Step S W W') (h1 : ¬ S x.r (some (.own 2))) (h2 : ∀ a, ¬ S a none) (h3 : ¬ S x.q (some (.own 3))) : RowAt K W' x y :=
  ⟨h.r.step s h1, h.l.step s (h2 _), h.q.step s h3⟩
/-- changed: what is neither kept nor without a role -/
theorem KeptAt.step {K : PySem.W.Frag} {W W' : Wd} {kp : Addr} {As : List RwA} {Ms : List RwM} {S : Addr → Option Rl → Prop} (h : KeptAt K W kp As Ms) (s : Step S W W') (h0 : ∀ a r, r = none ∨ r = some (.own 1) ∨ r = some (.own 2) ∨ r = some (.own 3) → ¬ S a r) : KeptAt K W' kp As Ms :=
  ⟨h.k.step s (h0 _ _ (by simp)), h.n, fun i x y e1 e2 => (h.e i x y e1 e2).step s (h0 _ _ (by simp)) (fun a => h0 a _ (by simp)) (h0 _ _ (by simp)), h.d⟩
theorem KeptAt.row {K : PySem.W.Frag} {W : Wd} {kp : Addr} {As : List RwA} {Ms : List RwM} (h : KeptAt K W kp As Ms) {i : Nat} {y : RwM} (e : Ms[i]? = some y) : ∃ x, As[i]? = some x ∧ RowAt K W x y := by
  have hi := (List.getElem?_eq_some_iff.mp e).1
  have hx := List.getElem?_eq_getElem (l := As) (i := i) (by rw [h.n]; exact hi)
  exact ⟨_, hx, h.e i _ _ hx e⟩
theorem set_map_r {As : List RwA} {i : Nat} {x z : RwA} (h : As[i]? = some x) (g : RwA → Addr) (e : g z = g x) : (As.set i z).map g = As.map g := by
  rw [List.map_set, e]
  refine List.ext_getElem? fun j => ?_
  rw [List.getElem?_set, List.getElem?_map]
  split
  · rename_i hij
    subst hij
    rw [h, List.length_map, if_pos (List.getElem?_eq_some_iff.mp h).1]; rfl
  · rfl
/-- a row's leaf and count change -/
theorem KeptAt.setRow {K : PySem.W.Frag} {W W' : Wd} {kp : Addr} {As : List RwA} {Ms : List RwM} {i : Nat} {x : RwA} {y : RwM} {l' : Addr} {lf' : Lf} {c' : Int} (h : KeptAt K W kp As Ms) (hx : As[i]? = some x) (hy : Ms[i]? = some y) (s : Step (SAt x.r) W W')
    (a : At W' (some (.own 2)) x.r (.lst [.ref l', .ref x.q, .int c'])) (L : LeafAt K W l' lf') : KeptAt K W' kp (As.set i ⟨x.r, l', x.q⟩) (Ms.set i ⟨lf', y.ws, c'⟩) := by
  have R := h.e i x y hx hy
  have s' := SR.of R.r s
  have lv : ∀ {l lf}, LeafAt K W l lf → LeafAt K W' l lf := fun L => L.step s' (by walk_at "no")
  refine ⟨?_, by rw [List.length_set, List.length_set, h.n], fun j u v e1 e2 => ?_, fun j k u v e1 e2 e => ?_⟩
  · have e := set_map_r (z := ⟨x.r, l', x.q⟩) hx RwA.r rfl
    have : (As.set i ⟨x.r, l', x.q⟩).map (fun x => V.ref x.r) = As.map (fun x => V.ref x.r) := by
      have := congrArg (List.map V.ref) e
      rw [List.map_map, List.map_map] at this
      exact this
    rw [this]
    exact h.k.step s' (by walk_at "no")
  · by_cases hj : i = j
    · subst hj
      rw [List.getElem?_set_self (List.getElem?_eq_some_iff.mp hx).1] at e1
      rw [List.getElem?_set_self (List.getElem?_eq_some_iff.mp hy).1] at e2
      cases e1; cases e2
      exact ⟨a, lv L, R.q.step s' (by walk_at "no")⟩
    · rw [List.getElem?_set_ne hj] at e1 e2
      have R2 := h.e j u v e1 e2
      refine ⟨R2.r.step s fun e => hj (h.d i j x u hx e1 (.inl (show u.r = x.r from e).symm)), lv R2.l, R2.q.step s' (by walk_at "no")⟩
  · have key : ∀ (j : Nat) (u : RwA), (As.set i ⟨x.r, l', x.q⟩)[j]? = some u → ∃ u', As[j]? = some u' ∧ u'.r = u.r ∧ u'.q = u.q := fun j u e => by
      by_cases hj : i = j
      · subst hj
        rw [List.getElem?_set_self (List.getElem?_eq_some_iff.mp hx).1] at e
        cases e
        exact ⟨x, hx, rfl, rfl⟩
      · rw [List.getElem?_set_ne hj] at e
        exact ⟨u, e, rfl, rfl⟩
    obtain ⟨u', q1, q2, q3⟩ := key j u e1
    obtain ⟨v', p1, p2, p3⟩ := key k v e2
    exact h.d j k u' v' q1 p1 (by rw [q2, p2, q3, p3]; exact e)
theorem KeptAt.setWs {K : PySem.W.Frag} {W W' : Wd} {kp : Addr} {As : List RwA} {Ms : List RwM} {i : Nat} {x : RwA} {y : RwM} {ws' : List Int} (h : KeptAt K W kp As Ms) (hx : As[i]? = some x) (hy : Ms[i]? = some y) (s : Step (SAt x.q) W W')
    (a : At W' (some (.own 3)) x.q (.lst (ws'.map V.int))) : KeptAt K W' kp As (Ms.set i ⟨y.lf, ws', y.c⟩) := by
  have R := h.e i x y hx hy
  have s' := SR.of R.q s
  refine ⟨h.k.step s' (by walk_at "no"), by rw [List.length_set, h.n], fun j u v e1 e2 => ?_, h.d⟩
  by_cases hj : i = j
  · subst hj
    rw [List.getElem?_set_self (List.getElem?_eq_some_iff.mp hy).1] at e2
    rw [hx] at e1
    cases e1; cases e2
    exact ⟨R.r.step s' (by walk_at "no"), R.l.step s' (by walk_at "no"), a⟩
  · rw [List.getElem?_set_ne hj] at e2
    have R2 := h.e j u v e1 e2
    exact ⟨R2.r.step s' (by walk_at "no"), R2.l.step s' (by walk_at "no"), R2.q.step s fun e => hj (h.d i j x u hx e1 (.inr (show u.q = x.q from e).symm))⟩
theorem KeptAt.add {K : PySem.W.Frag} {W W' : Wd} {kp : Addr} {As : List RwA} {Ms : List RwM} {x : RwA} {y : RwM} (h : KeptAt K W kp As Ms) (hr : ∀ (i : Nat) u, As[i]? = some u → u.r ≠ x.r ∧ u.q ≠ x.q) (R : RowAt K W x y) (s : Step (SAt kp) W W')
    (a : At W' (some (.own 1)) kp (.lst ((As.map fun x => V.ref x.r) ++ [.ref x.r]))) : KeptAt K W' kp (As ++ [x]) (Ms ++ [y]) := by
  have s' := SR.of h.k s
  refine ⟨by rw [List.map_append]; exact a, by rw [List.length_append, List.length_append, h.n]; rfl, fun j u v e1 e2 => ?_, fun j k u v e1 e2 e => ?_⟩
  · rw [List.getElem?_append] at e1 e2
    split at e1
    · rename_i hj
      rw [if_pos (by rw [← h.n]; exact hj)] at e2
      exact (h.e j u v e1 e2).step s' (by walk_at "no") (fun _ => by walk_at "no") (by walk_at "no")
    · rename_i hj
      rw [if_neg (by rw [← h.n]; exact hj)] at e2
      rw [← h.n] at e2
      cases hk : j - As.length with
      | zero =>
        rw [hk] at e1 e2
        simp at e1 e2
        subst e1 e2
        exact R.step s' (by walk_at "no") (fun _ => by walk_at "no") (by walk_at "no")
      | succ m => rw [hk] at e1; simp at e1
  · have key : ∀ (j : Nat) (u : RwA), (As ++ [x])[j]? = some u → As[j]? = some u ∨ (j = As.length ∧ u = x) := fun j u e => by
      rw [List.getElem?_append] at e
      split at e
      · exact .inl e
      · cases hk : j - As.length with
        | zero => rw [hk] at e; simp at e; exact .inr ⟨by omega, e.symm⟩
        | succ m => rw [hk] at e; simp at e
    rcases key j u e1 with q1 | ⟨q1, rfl⟩ <;> rcases key k v e2 with p1 | ⟨p1, rfl⟩
    · exact h.d j k u v q1 p1 e
    · exact absurd e (by have := hr j u q1; rintro (e | e); exact this.1 e; exact this.2 e)
    · exact absurd e (by have := hr k v p1; rintro (e | e); exact this.1 e.symm; exact this.2 e.symm)
    · omega
theorem KeptAt.drop {K : PySem.W.Frag} {W W' : Wd} {kp : Addr} {As : List RwA} {Ms : List RwM} (i : Nat) (h : KeptAt K W kp As Ms) (s : Step (SAt kp) W W') (a : At W' (some (.own 1)) kp (.lst ((As.map fun x => V.ref x.r).eraseIdx i))) : KeptAt K W' kp (As.eraseIdx i) (Ms.eraseIdx i) := by
  have s' := SR.of h.k s
  refine ⟨?_, by rw [List.length_eraseIdx, List.length_eraseIdx, h.n], fun j u v e1 e2 => ?_, fun j k u v e1 e2 e => ?_⟩
  · have : (As.eraseIdx i).map (fun x => V.ref x.r) = (As.map fun x => V.ref x.r).eraseIdx i := by
      refine List.ext_getElem? fun j => ?_
      rw [List.getElem?_map, List.getElem?_eraseIdx, List.getElem?_eraseIdx, List.getElem?_map, List.getElem?_map]
      split <;> rfl
    rw [this]; exact a
  · rw [List.getElem?_eraseIdx] at e1 e2
    split at e1
    · rename_i hj
      rw [if_pos hj] at e2
      exact (h.e _ u v e1 e2).step s' (by walk_at "no") (fun _ => by walk_at "no") (by walk_at "no")
    · rename_i hj
      rw [if_neg hj] at e2
      exact (h.e _ u v e1 e2).step s' (by walk_at "no") (fun _ => by walk_at "no") (by walk_at "no")
  · rw [List.getElem?_eraseIdx] at e1 e2
    split at e1 <;> split at e2
    · exact h.d _ _ u v e1 e2 e
    · have := h.d _ _ u v e1 e2 e; omega
    · have := h.d _ _ u v e1 e2 e; omega
    · have := h.d _ _ u v e1 e2 e; omega
def sp_Held_row (K : PySem.W.Frag) : Sp := Sp1 fun a H Q E => ∃ W p dx r f, H = Wd.H W ∧ a = .ref p ∧ At W none p (.ins (cc K "Held") dx [("rights", .int r), ("frame", .int f)]) ∧
  ∀ W' t, W.H t = none → Step SNone W W' → At W' none t (.tup [.str "held", .int r, .int f]) → Q (.ref t) W'.H
section
variable {P : Program} {w : World} {K : PySem.W.Frag} {mg : Str → Option Value} {base : Heap}
theorem body_Held_row (G : TX K mg) {fd : FuncData} {f : Addr} : BodyOk P w K mg base 0 ["self"] "Held.row" (defScope s_Held_row) f (defBody s_Held_row) (sp_Held_row K) := by
  have iT : TK K := G.tk
  rintro cdv A outer s H vs Q E hr tk po ⟨_, rfl, W, p, dx, r, f, rfl, rfl, o, kQ⟩
  have hu := hu_of hr
  refine ⟨_, (pss_one (ps_ret (pe_tup (pa_cons pe_str (pa_cons (pe_fld (pv 0) rfl) (pa_cons (pe_fld (pv 0) rfl) pa_nil)))))), ?_⟩
  try simp only [cxOf_K]
  exact k_ret (g_tup (g_cons (g_v v_c (g_cons (g_v (by walk_at "ev") (g_cons (g_v (by walk_at "ev") (g_nil (new_t rfl fun t W1 n1 a1 s1 => kQ W1 t n1 s1 a1)))))))))
theorem ok_Held_row (G : TX K mg) : MetX P w K mg base 1 (cc K "Held") "row" (sp_Held_row K) [] := let ⟨fd, F⟩ := G.F_Held_row; met_by G.c_Held G.m_Held_row F (bd_Held_row F) sc_Held_row Sp1.len (body_Held_row G (fd := fd))
end

def sp_Out_row (K : PySem.W.Frag) : Sp := Sp1 fun a H Q E => ∃ W p dx r f, H = Wd.H W ∧ a = .ref p ∧ At W none p (.ins (cc K "Out") dx [("rights", .int r), ("slot", .int f)]) ∧
  ∀ W' t, W.H t = none → Step SNone W W' → At W' none t (.tup [.str "out", .int r, .int f]) → Q (.ref t) W'.H
section
variable {P : Program} {w : World} {K : PySem.W.Frag} {mg : Str → Option Value} {base : Heap}
theorem body_Out_row (G : TX K mg) {fd : FuncData} {f : Addr} : BodyOk P w K mg base 0 ["self"] "Out.row" (defScope s_Out_row) f (defBody s_Out_row) (sp_Out_row K) := by
  have iT : TK K := G.tk
  rintro cdv A outer s H vs Q E hr tk po ⟨_, rfl, W, p, dx, r, f, rfl, rfl, o, kQ⟩
  have hu := hu_of hr
  refine ⟨_, (pss_one (ps_ret (pe_tup (pa_cons pe_str (pa_cons (pe_fld (pv 0) rfl) (pa_cons (pe_fld (pv 0) rfl) pa_nil)))))), ?_⟩
  try simp only [cxOf_K]
  exact k_ret (g_tup (g_cons (g_v v_c (g_cons (g_v (by walk_at "ev") (g_cons (g_v (by walk_at "ev") (g_nil (new_t rfl fun t W1 n1 a1 s1 => kQ W1 t n1 s1 a1)))))))))
theorem ok_Out_row (G : TX K mg) : MetX P w K mg base 1 (cc K "Out") "row" (sp_Out_row K) [] := let ⟨fd, F⟩ := G.F_Out_row; met_by G.c_Out G.m_Out_row F (bd_Out_row F) sc_Out_row Sp1.len (body_Out_row G (fd := fd))
end

theorem ib64 {k : Int} (h1 : -18446744073709551616 < k) (h2 : k < 18446744073709551616) : ib k ≤ 64 := by
  have e : (2 : Int) ^ 64 = 18446744073709551616 := by decide
  exact PySem.intBits_le_64 (by rw [e]; exact h1) (by rw [e]; exact h2)
/-- the law's script -/
def ScrAt (K : PySem.W.Frag) (W : Wd) (a : Addr) (xs : List V) : Prop :=
  (∃ o, At W none a o ∧ (o = .lst xs ∨ ∃ z, o = .frz z (.lst xs))) ∨ ∃ (o : Obj) (its : Array Value) (n : Nat), K.lookup a = some o ∧ o.cls = .type "list" ∧ o.dict = none ∧ o.data = .seq its n ∧ its.size ≤ sizeLine ∧ Vals xs its.toList
theorem ScrAt.sq {K : PySem.W.Frag} {W : Wd} {a : Addr} {xs : List V} (h : ScrAt K W a xs) : SqL K W.H a xs := by
  rcases h with ⟨o, x, rfl | ⟨z, rfl⟩⟩ | h
  · exact .inl (.inl x.h)
  · exact .inl (.inr ⟨z, x.h⟩)
  · exact .inr h
theorem ScrAt.step {K : PySem.W.Frag} {W W' : Wd} {a : Addr} {xs : List V} {S : Addr → Option Rl → Prop} (h : ScrAt K W a xs) (s : Step S W W') (n : ¬ S a none) : ScrAt K W' a xs :=
  h.imp (fun ⟨o, x, e⟩ => ⟨o, x.step s n, e⟩) id
theorem ScrAt.of {K : PySem.W.Frag} {W : Wd} {a : Addr} {xs : List V} (g : ∀ a, W.G a = none) (h : SqL K W.H a xs) : ScrAt K W a xs := by
  rcases h with (h | ⟨z, h⟩) | h
  · exact .inl ⟨_, ⟨h, g a⟩, .inl rfl⟩
  · exact .inl ⟨_, ⟨h, g a⟩, .inr ⟨z, rfl⟩⟩
  · exact .inr h
def sp__law_cell_at (K : PySem.W.Frag) : Sp := Sp2 fun a b H Q E => ∃ p xs k, a = .ref p ∧ b = .int (k : Nat) ∧ SqL K H p (List.map V.int xs) ∧ Q (.int (xs.getD k 0)) H
section
variable {P : Program} {w : World} {K : PySem.W.Frag} {mg : Str → Option Value} {base : Heap}
theorem body__law_cell_at (G : TX K mg) {fd : FuncData} {f : Addr} : BodyOk P w K mg base 0 ["_law_script", "_law_k"] "_law_cell_at" (defScope s__law_cell_at) f (defBody s__law_cell_at) (sp__law_cell_at K) := by
  have iT : TK K := G.tk
  rintro cdv A outer s H vs Q E hr tk po ⟨_, _, rfl, p, xs, k, rfl, rfl, o, kQ⟩
  have hu := hu_of hr
  refine ⟨_, (pss_cons (ps_if (pt_cmpR op_lt (pv 1) (pe_callB call_len (by rfl) G.b_len (by decide +kernel) (pa_cons (pv 0) pa_nil)) (nomark _)) (pss_one (ps_ret (pe_ix ix_seq (pv 0) (pv 1) (fun _ _ => rfl)))) pss_nil)
        (pss_one (ps_ret pe_int))), ?_⟩
  try simp only [cxOf_K]
  have hl : LenV K (.ref p) H (xs.map V.int).length := .inl ⟨_, o, rfl⟩
  refine k_seq (k_ifT (s_test (v_I0 (v_var rfl) (v_len (v_var rfl) hl))) (fun h => ?_) (fun h => ?_))
  · have h := of_decide_eq_true h
    rw [List.length_map] at h
    have e : atZ xs (k : Int) = some (xs.getD k 0) := atZ_nat (by rw [List.getD_eq_getElem?_getD, List.getElem?_eq_getElem (by omega)]; rfl)
    exact k_ret (g_op (g_v (v_var rfl) (g_v (v_var rfl) (.inl ⟨p, _, _, _, rfl, rfl, o, atZ_mapV e, kQ⟩))))
  · have h := of_decide_eq_false h
    rw [List.length_map] at h
    refine k_next (k_ret (g_v v_c ?_))
    rw [List.getD_eq_getElem?_getD, List.getElem?_eq_none (by omega)] at kQ
    exact kQ
theorem ok__law_cell_at (G : TX K mg) : CalX P w K mg base 1 "_law_cell_at" (sp__law_cell_at K) [] := let ⟨fd, F⟩ := G.F__law_cell_at; cal_by G.g__law_cell_at F (bd__law_cell_at F) sc__law_cell_at Sp2.len (body__law_cell_at G (fd := fd))
end

/-- the words that the law lays -/
def lawWords (cell size : Int) : List Int := (List.range size.toNat).map fun k => cell * (2 * (k : Nat) + 16807) % 18446744073709551616
theorem lawWords_ok {cell size : Int} (h : 1 ≤ size) : wordsOk (lawWords cell size) size = true := by
  unfold wordsOk lawWords
  rw [List.length_map, List.length_range, Int.toNat_of_nonneg (by omega), decide_eq_true rfl, Bool.true_and, List.all_eq_true]
  intro x hx
  obtain ⟨k, _, rfl⟩ := List.mem_map.mp hx
  unfold isW
  have h1 := Int.emod_nonneg (cell * (2 * (k : Nat) + 16807)) (b := 18446744073709551616) (by decide)
  have h2 := Int.emod_lt_of_pos (cell * (2 * (k : Nat) + 16807)) (b := 18446744073709551616) (by decide)
  rw [decide_eq_true h1, decide_eq_true h2]; rfl
def mixed (n : Int) : Int := n * 2147483647 + n % 65537 * 48271 % 65521
theorem ib_mixed {n : Int} (h : ib n ≤ 1048576) : ib (mixed n) ≤ 1048700 := by
  have h1 : ib (n * 2147483647) ≤ 1048576 + 64 := PyProof.Rows.bits_mul h (ib64 (by decide) (by decide))
  have h2 : ib (n % 65537 * 48271 % 65521) ≤ 64 := ib64 (by omega) (by omega)
  exact Nat.le_trans (PyProof.Rows.bits_add h1 h2) (by decide)
theorem ib_fdiv {n k : Int} {m : Nat} (hk : 0 < k) (h : ib n ≤ m) : ib (n / k) ≤ m := by
  have := PyProof.Rows.bits_fdiv (b := k) h
  rw [Int.fdiv_eq_ediv_of_nonneg n (by omega)] at this
  exact this
def sp__law_words (K : PySem.W.Frag) : Sp := Sp2 fun a b H Q E => ∃ W cell size, H = Wd.H W ∧ a = .int cell ∧ b = .int size ∧ 1 ≤ size ∧ size ≤ 64 ∧ ib cell ≤ 1048700 ∧
  ∀ W' q, W.H q = none → Step SNone W W' → At W' (some (.own 3)) q (.lst ((lawWords cell size).map V.int)) → Q (.ref q) W'.H
section
variable {P : Program} {w : World} {K : PySem.W.Frag} {mg : Str → Option Value} {base : Heap}
theorem body__law_words (G : TX K mg) {fd : FuncData} {f : Addr} : BodyOk P w K mg base 0 ["_law_cell", "_law_size", "_law_k"] "_law_words" (defScope s__law_words) f (defBody s__law_words) (sp__law_words K) := by
  have iT : TK K := G.tk
  rintro cdv A outer s H vs Q E hr tk po ⟨_, _, rfl, W, cell, size, rfl, rfl, rfl, h1, h2, hb, kQ⟩
  have hu := hu_of hr
  refine ⟨_, (pss_one (ps_ret (pe_lc (own := [("_law_k", 2)]) rfl sc__law_words.nd (pi_range1 rfl G.b_range (pa_cons (pv 1) pa_nil)) (blkOk_by (own := [("_law_k", 2)]) (N := ["_law_cell", "_law_size", "_law_k"]) (sc := defScope s__law_words) (by decide +kernel)) (fun _ _ _ _ _ => (pg_name (i := 2) sc__law_words.nd rfl (Or.inl rfl))) (fun _ _ _ _ _ => pts_nil) (fun _ _ _ _ _ => (pe_op op_mod (pe_op op_mulX (pv 0) (pe_op op_add (pe_op op_mulX pe_int (pv 2)) pe_int)) (pe_op op_pow pe_int pe_int)))))), ?_⟩
  try simp only [cxOf_K]
  refine k_ret (g_lcR (some (.own 3)) (v_var rfl) (by omega) (by omega) (fun D i acc W' => Step SNone W W' ∧ acc = ((List.range i).map fun k => cell * (2 * (k : Nat) + 16807) % 18446744073709551616).map V.int) (fun D W1 n1 a1 s1 => ⟨s1, rfl⟩) ?_ ?_)
  · rintro D i acc W1 nD hi aD la ⟨s1, rfl⟩
    have c1 : CMulX 2 (i : Int) := mulx (a := 64) (b := 64) (ib64 (by decide) (by decide)) (ib64 (by omega) (by omega)) rfl
    have c2 : CMulX cell (2 * (i : Int) + 16807) := mulx hb (ib64 (by omega) (by omega)) (b := 64) rfl
    have c3 : CPow 2 64 := ⟨by decide, by decide, by decide⟩
    have hv : Vl _ _ W1.H _ := v_I (D := fun _ j => (0 : Int) < j) (g := fun i j => V.int (i % j)) (v_I (D := CMulX) (g := fun i j => V.int (i * j)) (v_var (i := 0) (σ := (List.set (wipe (L2.start ["_law_cell", "_law_size", "_law_k"] [V.int cell, V.int size]) [2]) 2 (some (V.int ↑i)))) rfl) (v_I0 (g := fun i j => V.int (i + j)) (v_I (D := CMulX) (g := fun i j => V.int (i * j)) v_c (v_var (i := 2) rfl) c1) v_c) c2) (v_I (D := CPow) (g := fun i j => V.int (i ^ j.toNat)) v_c v_c c3) (by decide)
    refine hv _ (lcK_of aD la (by omega) fun W2 a2 s2 => ⟨s1.fresh nD s2, ?_⟩)
    rw [List.range_succ, List.map_append, List.map_append]
    rfl
  · rintro D acc W1 nD aD ⟨s1, rfl⟩
    exact kQ W1 D nD s1 aD
theorem ok__law_words (G : TX K mg) : CalX P w K mg base 1 "_law_words" (sp__law_words K) [] := let ⟨fd, F⟩ := G.F__law_words; cal_by G.g__law_words F (bd__law_words F) sc__law_words Sp2.len (body__law_words G (fd := fd))
end

def sp__law_mixed (K : PySem.W.Frag) : Sp := Sp1 fun a H Q E => ∃ n, a = .int n ∧ ib n ≤ 1048576 ∧ Q (.int (mixed n)) H
section
variable {P : Program} {w : World} {K : PySem.W.Frag} {mg : Str → Option Value} {base : Heap}
theorem body__law_mixed (G : TX K mg) {fd : FuncData} {f : Addr} : BodyOk P w K mg base 0 ["_law_raw"] "_law_mixed" (defScope s__law_mixed) f (defBody s__law_mixed) (sp__law_mixed K) := by
  have iT : TK K := G.tk
  rintro cdv A outer s H vs Q E hr tk po ⟨_, rfl, n, rfl, hb, kQ⟩
  have hu := hu_of hr
  refine ⟨_, (pss_one (ps_ret (pe_op op_add (pe_op op_mulX (pv 0) pe_int) (pe_op op_mod (pe_op op_mulX (pe_op op_mod (pv 0) pe_int) pe_int) pe_int)))), ?_⟩
  try simp only [cxOf_K]
  have c1 : CMulX n 2147483647 := mulx (b := 64) hb (ib64 (by decide) (by decide)) rfl
  have c2 : CMulX (n % 65537) 48271 := mulx (a := 64) (b := 64) (ib64 (by omega) (by omega)) (ib64 (by decide) (by decide)) rfl
  unfold mixed at kQ
  refine k_ret (g_v (v_I0 (v_I (v_var rfl) v_c c1) (v_I (v_I (v_I (v_var rfl) v_c ?_) v_c c2) v_c ?_)) kQ)
  · decide
  · decide
theorem ok__law_mixed (G : TX K mg) : CalX P w K mg base 1 "_law_mixed" (sp__law_mixed K) [] := let ⟨fd, F⟩ := G.F__law_mixed; cal_by G.g__law_mixed F (bd__law_mixed F) sc__law_mixed Sp1.len (body__law_mixed G (fd := fd))
end

theorem take_set {α : Type} {l : List α} {i : Nat} {y : α} (f : α → α) (h : l[i]? = some y) : ((l.take i).map f ++ l.drop i).set i (f y) = (l.take (i + 1)).map f ++ l.drop (i + 1) := by
  have hi := (List.getElem?_eq_some_iff.mp h).1
  have e1 : l.drop i = y :: l.drop (i + 1) := by
    rw [List.drop_eq_getElem_cons hi]
    rw [List.getElem?_eq_getElem hi] at h
    rw [Option.some.inj h]
  rw [e1, list_snoc_take h, List.map_append, List.set_append_right _ _ (by rw [List.length_map, List.length_take]; omega), List.append_assoc]
  have : i - ((l.take i).map f).length = 0 := by rw [List.length_map, List.length_take]; omega
  rw [this]
  rfl
theorem take_get {α : Type} {l : List α} {i : Nat} {y : α} (f : α → α) (h : l[i]? = some y) : ((l.take i).map f ++ l.drop i)[i]? = some y := by
  have hi := (List.getElem?_eq_some_iff.mp h).1
  rw [List.getElem?_append_right (by rw [List.length_map, List.length_take]; omega), List.length_map, List.length_take, Nat.min_eq_left (by omega), Nat.sub_self, List.getElem?_drop]
  exact h
/-- the same rows and words, maybe other leaves -/
def SameA (As As' : List RwA) : Prop := ∀ (i : Nat) x', As'[i]? = some x' → ∃ x, As[i]? = some x ∧ x'.r = x.r ∧ x'.q = x.q
theorem SameA.set {As As' : List RwA} {i : Nat} {x : RwA} {l : Addr} (h : SameA As As') (hx : As'[i]? = some x) : SameA As (As'.set i ⟨x.r, l, x.q⟩) := fun j u e => by
  by_cases hj : i = j
  · subst hj
    rw [List.getElem?_set_self (List.getElem?_eq_some_iff.mp hx).1] at e
    cases e
    exact h i x hx
  · rw [List.getElem?_set_ne hj] at e
    exact h j u e
def sp__law_moved (K : PySem.W.Frag) : Sp := Sp2 fun a b H Q E => ∃ W kp As Ms rq q mv, H = Wd.H W ∧ a = .ref kp ∧ b = .ref q ∧ KeptAt K W kp As Ms ∧ MovesAt W rq q mv ∧ rq ≠ some (.own 2) ∧ (∀ y ∈ Ms, y.lf.rights = 3) ∧
  ∀ W' As', Step (SR (some (.own 2))) W W' → KeptAt K W' kp As' (Ms.map (mvR mv)) → SameA As As' → Q .non W'.H
section
variable {P : Program} {w : World} {K : PySem.W.Frag} {mg : Str → Option Value} {base : Heap}
theorem body__law_moved (G : TX K mg) {fd : FuncData} {f : Addr} : BodyOk P w K mg base 4 ["_law_kept", "_law_moves", "_law_row"] "_law_moved" (defScope s__law_moved) f (defBody s__law_moved) (sp__law_moved K) := by
  have iT : TK K := G.tk
  rintro cdv A outer s H vs Q E hr tk po ⟨_, _, rfl, W, kp, As, Ms, rq, q, mv, rfl, rfl, rfl, C, HM, hrq, h3, kQ⟩
  have hu := hu_of hr
  refine ⟨_, (pss_one (ps_for po rfl (pi_list (pv 0)) (pg_name (i := 2) sc__law_moved.nd rfl (Or.inl rfl))
        (pss_one (ps_asg (pe_cl (ok_moved_by G) hr (by decide) tk (by rfl) (pa_cons (pe_ix ix_seq (pv 2) pe_int (fun _ _ => rfl)) (pa_cons (pv 1) pa_nil))) (pg_sub (pv 2) pe_int set_list (fun _ => rfl)))))), ?_⟩
  try simp only [cxOf_K]
  refine k_forL (v_var rfl) (SqL.of C.k.h) (fun i σ' W' => (∃ v, σ' = [some (.ref kp), some (.ref q), v]) ∧ Step (SR (some (.own 2))) W W' ∧ ∃ As', KeptAt K W' kp As' ((Ms.take i).map (mvR mv) ++ Ms.drop i) ∧ SameA As As') ⟨⟨none, rfl⟩, Step.refl W, As, C, fun i x' e => ⟨x', e, rfl, rfl⟩⟩ (fun i σ' W' _ ⟨_, s, _⟩ => SqL.of (C.k.step s (by walk_at "no")).h) ?_ ?_
  · rintro i x σ' W1 hx ⟨⟨v, rfl⟩, s1, As1, C1, SA⟩
    rw [List.getElem?_map] at hx
    obtain ⟨u, hu1, rfl⟩ := Option.map_eq_some_iff.mp hx
    have hi := (List.getElem?_eq_some_iff.mp hu1).1
    obtain ⟨y, hy⟩ : ∃ y, Ms[i]? = some y := ⟨_, List.getElem?_eq_getElem (by rw [← C.n]; exact hi)⟩
    have hy1 := take_get (mvR mv) hy
    obtain ⟨x1, hx1, R⟩ := C1.row hy1
    obtain ⟨x0, hx0, er, eq⟩ := SA i x1 hx1
    rw [hu1] at hx0
    cases hx0
    rw [← er]
    have hr := h3 _ (List.mem_of_getElem? hy)
    refine g_tname (k_asg (g_cl (g_cons (g_v (v_ixL (v_var rfl) v_c R.r rfl) (g_cons (g_v (v_var rfl) (g_nil ?_)))))))
    refine ⟨_, _, rfl, W1, x1.l, _, rq, q, mv, rfl, rfl, rfl, R.l, by rw [hr]; decide, by rw [hr]; decide, HM.step s1 hrq (fun _ => by walk_at "no"), fun W2 l' s2 L2 => ?_⟩
    have C2 := C1.step s2 (fun a r _ => by walk_at "no")
    have R2 := C2.e i x1 _ hx1 hy1
    refine g_sub (g_v (v_var rfl) (g_v v_c (g_setL R2.r (j := 0) rfl fun W3 a3 s3 => ⟨W3, rfl, ⟨_, rfl⟩, s1.tr (s2.n1 (SR.of R2.r s3)), _, ?_, SA.set (l := l') hx1⟩)))
    have C3 := C2.setRow (l' := l') (lf' := movedBy y.lf mv) (c' := y.c) hx1 hy1 s3 a3 L2
    rw [← take_set (mvR mv) hy]
    exact C3
  · rintro σ' W1 ⟨⟨v, rfl⟩, s1, As1, C1, SA⟩
    rw [List.length_map, C.n, List.take_length, List.drop_length, List.append_nil] at C1
    exact kQ W1 As1 s1 C1 SA
theorem ok__law_moved (G : TX K mg) : CalX P w K mg base 5 "_law_moved" (sp__law_moved K) [] := let ⟨fd, F⟩ := G.F__law_moved; cal_by G.g__law_moved F (bd__law_moved F) sc__law_moved Sp2.len (body__law_moved G (fd := fd))
end

/-- what the law may change -/
abbrev SLaw : Addr → Option Rl → Prop := fun _ r => r ≠ none ∧ r ≠ some (.own 4)
theorem SLaw.pool {m : Nat} {W W' : Wd} (s : Step (SPool m) W W') : Step SLaw W W' := s.mono fun _ r _ _ (h : isPool m r = true) => by
  refine ⟨fun e => ?_, fun e => ?_⟩
  · subst e; cases h
  · subst e; cases h
theorem SLaw.n0 {W W' : Wd} (s : Step SNone W W') : Step SLaw W W' := s.mono fun _ _ _ _ h => h.elim
theorem SLaw.own {n : Nat} {W W' : Wd} (s : Step (SR (some (.own n))) W W') (h : n ≠ 4) : Step SLaw W W' := s.mono fun _ r _ _ e => by
  have e' : r = some (.own n) := e
  subst e'
  exact ⟨(by intro z; cases z), (by intro z; cases z; exact h rfl)⟩
theorem PoolAt.own {K : PySem.W.Frag} {W W' : Wd} {m n : Nat} {A : PlA} {M : PlM} (c : PoolAt K W m A M) (s : Step (SR (some (.own n))) W W') : PoolAt K W' m A M := c.step s fun a r hr e => by
  have e' : r = some (.own n) := e
  subst e'
  rcases hr with h | h <;> cases h
theorem KeptAt.pool {K : PySem.W.Frag} {W W' : Wd} {kp : Addr} {As : List RwA} {Ms : List RwM} {m : Nat} (h : KeptAt K W kp As Ms) (s : Step (SPool m) W W') : KeptAt K W' kp As Ms := h.step s fun a r hr e => by
  have e' : isPool m r = true := e
  rcases hr with h | h | h | h <;> subst h <;> cases e'
structure LW (K : PySem.W.Frag) (W : Wd) (m : Nat) (A : PlA) (kp : Addr) (many slots size : Int) (M : PlM) (As : List RwA) (Ms : List RwM) : Prop where
  p : PoolAt K W m A M
  k : KeptAt K W kp As Ms
  j : J M Ms
  w : M.wide = size
  i : M.I.ts.length = many.toNat
  o : M.O.ts.length = slots.toNat
  r : 1 ≤ many ∧ many ≤ 64 ∧ 0 ≤ slots ∧ slots ≤ 64 ∧ 1 ≤ size ∧ size ≤ 64
theorem LW.n0 {K : PySem.W.Frag} {W W' : Wd} {m : Nat} {A : PlA} {kp : Addr} {many slots size : Int} {M : PlM} {As : List RwA} {Ms : List RwM} (h : LW K W m A kp many slots size M As Ms) (s : Step SNone W W') : LW K W' m A kp many slots size M As Ms :=
  ⟨h.p.step s (fun a r _ => by walk_at "no"), h.k.step s (fun a r _ => by walk_at "no"), h.j, h.w, h.i, h.o, h.r⟩
theorem LW.full {K : PySem.W.Frag} {W : Wd} {m : Nat} {A : PlA} {kp : Addr} {many slots size : Int} {M : PlM} {As : List RwA} {Ms : List RwM} (h : LW K W m A kp many slots size M As Ms) : ((firstZ M.I.ts = none ∧ firstZ M.O.ts = none) ↔ (Ms.length : Int) = many + slots) ∧ (M.I.ts.count 0 + M.O.ts.count 0 : Nat) = many + slots - Ms.length := by
  have hd := h.j.d
  have hd' : M.I.ts.count 0 + M.O.ts.count 0 + Ms.length = M.I.ts.length + M.O.ts.length := hd
  have hi := h.i
  have ho := h.o
  have hr := h.r
  rw [← count0, ← count0]
  omega
theorem brought_facts (M : PlM) (ns : List Int) (n : Int) : (M.brought ns n).1.wide = M.wide ∧ (M.brought ns n).1.I.ts.length = M.I.ts.length ∧ (M.brought ns n).1.O.ts.length = M.O.ts.length := by
  unfold PlM.brought
  by_cases h : firstZ M.I.ts = none
  · rw [if_pos h, if_pos h]
    simp [PlM.putOut]
  · rw [if_neg h, if_neg h]
    simp
def sp__law_made (K : PySem.W.Frag) : Sp := Sp3 fun a b c H Q E => ∃ W m A kp many slots size M As Ms q ws, H = Wd.H W ∧ a = .ref (PlA.p A) ∧ b = .ref kp ∧ c = .ref q ∧ LW K W m A kp many slots size M As Ms ∧ At W (some (.own 3)) q (.lst (ws.map V.int)) ∧ wordsOk ws size = true ∧ (∀ (i : Nat) u, As[i]? = some u → u.q ≠ q) ∧
  ((Ms.length : Int) = many + slots → ∀ W', Step SLaw W W' → LW K W' m A kp many slots size M As Ms → Q (.bl true) W'.H) ∧
  (¬ (Ms.length : Int) = many + slots → ∀ W' M' As' Ms', Step SLaw W W' → LW K W' m A kp many slots size M' As' Ms' → Ms'.length = Ms.length + 1 → Q (.bl true) W'.H)
section
variable {P : Program} {w : World} {K : PySem.W.Frag} {mg : Str → Option Value} {base : Heap}
theorem body__law_made (G : TX K mg) {fd : FuncData} {f : Addr} : BodyOk P w K mg base 7 ["_law_pool", "_law_kept", "_law_words_here", "_law_found", "_law_moves"] "_law_made" (defScope s__law_made) f (defBody s__law_made) (sp__law_made K) := by
  have iT : TK K := G.tk
  rintro cdv A outer s H vs Q E hr tk po ⟨_, _, _, rfl, W, m, A', kp, many, slots, size, M, As, Ms, q, ws, rfl, rfl, rfl, rfl, L, aq, hok, hq, kF, kQ⟩
  have hu := hu_of hr
  refine ⟨_, (pss_cons (ps_set (i := 3) sc__law_made.nd rfl (Or.inl rfl) pe_non)
        (pss_cons (ps_try_only rfl rfl ⟨by rfl, by rfl, .inl G.g_Full⟩ tk (fun _ _ _ tk po => (pss_one (ps_set (i := 3) sc__law_made.nd rfl (Or.inl rfl) (pe_mt (ok_Pool_made G) hr (by decide) tk (pv 0) (pa_cons (pv 2) pa_nil))))) (fun _ _ _ _ _ _ _ => (pss_one (ps_set (i := 3) sc__law_made.nd rfl (Or.inl rfl) pe_non))))
        (pss_cons (ps_if (pt_cmpR op_isN (pv 3) pe_non (nomark _)) (pss_one (ps_ret (pe_cmpR op_eq (pe_mt0 (ok_Pool_room G) hr (by decide) tk (pv 0)) pe_int (nomark _)))) pss_nil)
        (pss_cons (ps_set (i := 4) sc__law_made.nd rfl (Or.inl rfl) (pe_callTy call_listK (by rfl) G.b_list (by decide +kernel) (pa_cons (pe_ix ix_seq (pv 3) pe_int (fun _ _ => rfl)) pa_nil)))
        (pss_cons (ps_expr (pe_cl (ok__law_moved G) hr (by decide) tk (by rfl) (pa_cons (pv 1) (pa_cons (pv 4) pa_nil))))
        (pss_cons (ps_expr (pe_bm PySem.F.plainAttrs_list PySem.F.slot_list_append PySem.F.type_list_append mt_append (pv 1) (pa_cons (pe_lst (pa_cons (pe_mk (ok_Held_make G) hr (by decide) tk (by rfl) (pa_cons pe_int (pa_cons (pe_ix ix_seq (pv 3) pe_int (fun _ _ => rfl)) pa_nil))) (pa_cons (pv 2) (pa_cons pe_int pa_nil)))) pa_nil)))
        (pss_one (ps_ret pe_bl)))))))), ?_⟩
  try simp only [cxOf_K]
  have C := L.p
  have fl := L.full
  obtain ⟨dx, o⟩ := C.o
  refine k_seq (k_set (g_v v_c ?_))
  refine k_seq ?_
  refine (k_set (g_mt (by walk_at "ev") o rfl (g_cons (g_v (v_var rfl) (g_nil ?_)))))
  refine ⟨_, _, rfl, W, m, _, M, _, q, ws, rfl, rfl, rfl, C, L.j.good, aq, rfl, (by intro z; cases z), wordsOk_len hok L.r.2.2.2.2, fun e => ?_, fun _ => ⟨fun h1 h2 W1 s1 => ?_, fun hne W1 t q' n1 n1' s1 C1 a1 m1 => ?_⟩⟩
  · rw [L.w, hok] at e; cases e
  · refine w_only G.x_Full_Full fun a ha => k_set (g_v v_c ?_)
    refine k_seq (k_yes (s_test (v_isN (v_var rfl))) rfl ?_)
    have L1 := L.n0 s1
    obtain ⟨dx1, o1⟩ := L1.p.o
    refine k_ret (g_op (g_mt (by walk_at "ev") o1 rfl (g_nil ⟨_, rfl, W1, m, _, M, rfl, rfl, L1.p, g_v v_c (g_eq rfl ?_)⟩)))
    have := kF (fl.1.mp ⟨h1, h2⟩) W1 (SLaw.n0 s1) L1
    have e : decide (V.int ((M.I.ts.count 0 + M.O.ts.count 0 : Nat) : Int) = V.int 0) = true := decide_eq_true (by rw [fl.2, fl.1.mp ⟨h1, h2⟩, Int.sub_self])
    rw [e]
    exact this
  · have C0 := L.k.pool s1
    refine k_seq (k_no (s_test (v_isN (v_var rfl))) rfl (k_next ?_))
    obtain ⟨ts, m1a, m1l, m1e⟩ := m1
    refine k_seq (k_set (g_cb (g_cons (g_v (v_ixT (v_var rfl) v_c a1 rfl) (g_nil (g_listof rMv (.inl (SqL.of m1a.h)) fun q2 W2 n2 a2 s2 => ?_))))))
    have m2 : MovesAt W2 rMv q2 (M.brought ws 1).2.2 := ⟨ts, a2, m1l, fun i t m x y => (m1e i t m x y).step s2 (by walk_at "no")⟩
    have C2 := C0.step s2 (fun a r _ => by walk_at "no")
    have P2 := C1.step s2 (fun a r _ => by walk_at "no")
    refine k_seq (k_drop (g_cl (g_cons (g_v (v_var rfl) (g_cons (g_v (v_var rfl) (g_nil ?_)))))))
    refine ⟨_, _, rfl, W2, kp, As, Ms, rMv, q2, _, rfl, rfl, rfl, C2, m2, (by intro z; cases z), fun y hy => (L.j.a y hy).1, fun W3 As3 s3 C3 SA => ?_⟩
    have P3 := P2.own s3
    have a3 := (a1.step s2 (by walk_at "no")).step s3 (by walk_at "no")
    have hok' : wordsOk ws M.wide = true := by rw [L.w]; exact hok
    have J3 := L.j.brought (ns := ws) (n := 1) (putF_lt C) (fun h1 h2 => hne ⟨h1, h2⟩) (by decide) hok'
    have bf := brought_facts M ws 1
    refine k_seq (k_drop ?_)
    refine g_bm (g_v (v_var rfl) ⟨tyl C3.k, ?_⟩)
    refine g_cons (g_lst (g_cons ?_))
    refine g_mk (g_cons (g_v v_c (g_cons (g_v (v_ixT (v_var rfl) v_c a3 rfl) (g_nil (mk_w none fun hp dh W4 n4 a4 s4 => ?_))))))
    refine ⟨_, _, _, rfl, W4, hp, dh, 3, _, rfl, rfl, rfl, rfl, a4, fun _ W5 s5 L5 => ⟨rfl, ?_⟩, fun hn => absurd ⟨by decide, by decide⟩ hn⟩
    have s45 : Step SNone W3 W5 := s4.fresh n4 s5
    refine g_cons (g_v (v_var rfl) (g_cons (g_v v_c (g_nil (new_lr (some (.own 2)) rfl fun rp W6 n6 a6 s6 => ?_)))))
    have s36 := s45.tr s6
    have k6 := (C3.step s36 (fun a r _ => by walk_at "no"))
    have aq6 := (((aq.step s1 (by walk_at "no")).step s2 (by walk_at "no")).step s3 (by walk_at "no")).step s36 (by walk_at "no")
    refine g_nil (g_append k6.k ?_ fun W7 a7 s7 => k_ret (g_v v_c ?_))
    · rw [List.length_map]
      have e1 : As3.length = Ms.length := by rw [C3.n, List.length_map]
      have e2 := L.full.2
      have e3 := L.r
      have : sizeLine = 16777216 := sizeLine_eq
      omega
    have hadd := k6.add (x := ⟨rp, hp, q⟩) (y := ⟨.held 3 ((M.brought ws 1).2.1 : Nat), ws, 1⟩) (fun i u e => ?_) ⟨a6, L5.step s6 (by walk_at "no"), aq6⟩ s7 a7
    · refine kQ (fun e => hne (fl.1.mpr e)) W7 _ _ _ ?_ ⟨((P3.step s36 (fun a r _ => by walk_at "no"))).own (SR.of k6.k s7), hadd, ?_, bf.1.trans L.w, bf.2.1.trans L.i, bf.2.2.trans L.o, L.r⟩ (by rw [List.length_append, List.length_map]; rfl)
      · exact (SLaw.pool s1).tr ((SLaw.n0 s2).tr ((SLaw.own s3 (by decide)).tr ((SLaw.n0 s36).tr (SLaw.own (SR.of k6.k s7) (by decide)))))
      · exact J3.perm (List.perm_append_comm (l₁ := [_]))
    · obtain ⟨y, hy⟩ : ∃ y, (Ms.map (mvR (M.brought ws 1).2.2))[i]? = some y := ⟨_, List.getElem?_eq_getElem (by rw [← C3.n]; exact (List.getElem?_eq_some_iff.mp e).1)⟩
      have R := C3.e i u y e hy
      obtain ⟨x, hx, _, eq⟩ := SA i u e
      exact ⟨fun z => by
        have := R.r.neN (s45.live _ n6)
        exact this z, by rw [eq]; exact hq i x hx⟩
theorem ok__law_made (G : TX K mg) : CalX P w K mg base 8 "_law_made" (sp__law_made K) [] := let ⟨fd, F⟩ := G.F__law_made; cal_by G.g__law_made F (bd__law_made F) sc__law_made Sp3.len (body__law_made G (fd := fd))
end

theorem fetched_facts (M : PlM) (n c : Int) (w : List Int) : (M.fetched n c w).1.wide = M.wide ∧ (M.fetched n c w).1.I.ts.length = M.I.ts.length ∧ (M.fetched n c w).1.O.ts.length = M.O.ts.length := by
  have h := brought_facts (M.emptied n) w c
  unfold PlM.fetched
  refine ⟨h.1, h.2.1, h.2.2.trans ?_⟩
  unfold PlM.emptied
  rw [List.length_set]
theorem set_same {α : Type} {l : List α} {i : Nat} {x : α} (h : l[i]? = some x) : l.set i x = l := by
  refine List.ext_getElem? fun j => ?_
  rw [List.getElem?_set]
  split
  · rename_i e
    subst e
    rw [if_pos (List.getElem?_eq_some_iff.mp h).1, h]
  · rfl
theorem wordsOk_set {w : List Int} {wide z : Int} {k : Nat} (h : wordsOk w wide = true) (hz : isW z = true) : wordsOk (w.set k z) wide = true := by
  unfold wordsOk at h ⊢
  rw [Bool.and_eq_true, List.all_eq_true] at h
  rw [List.length_set, h.1, Bool.true_and, List.all_eq_true]
  intro x hx
  rcases List.mem_or_eq_of_mem_set hx with hx | rfl
  · exact h.2 x hx
  · exact hz
/-- the row's leaf is held or out, and its content is there -/
theorem J.row {M : PlM} {Ms : List RwM} {y : RwM} (j : J M Ms) (h : y ∈ Ms) : (∃ n : Nat, y.lf = .held 3 (n : Nat) ∧ M.I.ts[n]? = some y.c ∧ M.I.ws[n]? = some y.ws ∧ usedZ M.I.ts (n : Nat) = some y.c) ∨ ∃ n : Nat, y.lf = .out 3 (n : Nat) ∧ M.O.ts[n]? = some y.c ∧ M.O.ws[n]? = some y.ws ∧ usedZ M.O.ts (n : Nat) = some y.c := by
  obtain ⟨h1, ⟨b, n, l, hn, ht, hw⟩, hc, _⟩ := j.a y h
  have e : ((n.toNat : Nat) : Int) = n := Int.toNat_of_nonneg hn
  cases b
  · left
    have e2 := locI l
    rw [h1, ← e] at e2
    exact ⟨n.toNat, e2, ht, hw, usedZ_of (atZ_nat ht) (by omega)⟩
  · right
    have e2 := locO l
    rw [h1, ← e] at e2
    exact ⟨n.toNat, e2, ht, hw, usedZ_of (atZ_nat ht) (by omega)⟩
def sp__law_fetched (K : PySem.W.Frag) : Sp := Sp3 fun a b c H Q E => ∃ W m A kp many slots size M As Ms, ∃ (i : Nat) (x : RwA) (y : RwM), H = Wd.H W ∧ a = .ref (PlA.p A) ∧ b = .ref kp ∧ c = .ref (RwA.r x) ∧ LW K W m A kp many slots size M As Ms ∧ As[i]? = some x ∧ Ms[i]? = some y ∧
  (∀ W' M' As' Ms', Step SLaw W W' → LW K W' m A kp many slots size M' As' Ms' → Q (.bl true) W'.H)
section
variable {P : Program} {w : World} {K : PySem.W.Frag} {mg : Str → Option Value} {base : Heap}
theorem body__law_fetched (G : TX K mg) {fd : FuncData} {f : Addr} : BodyOk P w K mg base 7 ["_law_pool", "_law_kept", "_law_row", "_law_found"] "_law_fetched" (defScope s__law_fetched) f (defBody s__law_fetched) (sp__law_fetched K) := by
  have iT : TK K := G.tk
  rintro cdv A outer s H vs Q E hr tk po ⟨_, _, _, rfl, W, m, A', kp, many, slots, size, M, As, Ms, i, x, y, rfl, rfl, rfl, rfl, L, hx, hy, kQ⟩
  have hu := hu_of hr
  refine ⟨_, (pss_cons (ps_if (pt_not (pt_val (pe_callB call_isi (by rfl) G.b_isinstance (by decide +kernel) (pa_cons (pe_ix ix_seq (pv 2) pe_int (fun _ _ => rfl)) (pa_cons (pe_gr G.g_Out) pa_nil))))) (pss_one (ps_ret pe_bl)) pss_nil)
        (pss_cons (ps_set (i := 3) sc__law_fetched.nd rfl (Or.inl rfl) (pe_mt (ok_Pool_fetched G) hr (by decide) tk (pv 0) (pa_cons (pe_fld (pe_ix ix_seq (pv 2) pe_int (fun _ _ => rfl)) rfl) pa_nil)))
        (pss_cons (ps_expr (pe_cl (ok__law_moved G) hr (by decide) tk (by rfl) (pa_cons (pv 1) (pa_cons (pe_ix ix_seq (pv 3) pe_int (fun _ _ => rfl)) pa_nil))))
        (pss_one (ps_ret (pe_and (pe_callB call_isi (by rfl) G.b_isinstance (by decide +kernel) (pa_cons (pe_ix ix_seq (pv 2) pe_int (fun _ _ => rfl)) (pa_cons (pe_gr G.g_Held) pa_nil))) (pe_one (pe_cmpR op_eq (pe_fld (pe_ix ix_seq (pv 2) pe_int (fun _ _ => rfl)) rfl) (pe_ix ix_seq (pv 3) pe_int (fun _ _ => rfl)) (nomark _))))))))), ?_⟩
  try simp only [cxOf_K]
  have C := L.p
  obtain ⟨dx, o⟩ := C.o
  have R := L.k.e i x y hx hy
  have hym := List.mem_of_getElem? hy
  have h1 : Vl _ _ W.H (.ref x.l) := v_ixL (K := K) (ta := tVar 2) (tb := tC (.int 0)) (σ := L2.start ["_law_pool", "_law_kept", "_law_row", "_law_found"] [V.ref A'.p, V.ref kp, V.ref x.r]) (v_var rfl) v_c R.r rfl
  rcases L.j.row hym with ⟨n, ey, ht, hw, hu⟩ | ⟨n, ey, ht, hw, hu⟩
  · refine k_seq (k_yes (s_not (s_B (v_isiC h1 (lf_isOut G R.l)))) (by rw [ey]; rfl) (k_ret (g_v v_c (kQ W M As Ms (Step.refl W) L))))
  · refine k_seq (k_no (s_not (s_B (v_isiC h1 (lf_isOut G R.l)))) (by rw [ey]; rfl) (k_next ?_))
    have Rl := R.l
    rw [ey] at Rl
    obtain ⟨dl, ol⟩ := Rl.o
    refine k_seq (k_set (g_mt (by walk_at "ev") o rfl (g_cons (g_v (v_fld (f := "slot") h1 ol inferInstance rfl) (g_nil ?_)))))
    refine ⟨_, _, rfl, W, m, _, M, (n : Nat), rfl, rfl, rfl, C, L.j.good, fun e => ?_, fun c w hc hw' W1 t q n1 n1' s1 C1 a1 m1 => ?_⟩
    · rw [hu] at e; cases e
    rw [hu] at hc
    rw [Int.toNat_natCast, hw] at hw'
    cases hc; cases hw'
    have F := L.j.fetched (n := (n : Nat)) hy (by rw [ey]; rfl) (putF_lt C)
    have ff := fetched_facts M (n : Nat) y.c y.ws
    have C0 := L.k.pool s1
    refine k_seq (k_drop (g_cl (g_cons (g_v (v_var rfl) (g_cons (g_v (v_ixT (v_var rfl) v_c a1 rfl) (g_nil ?_)))))))
    refine ⟨_, _, rfl, W1, kp, As, Ms, rMv, q, _, rfl, rfl, rfl, C0, m1, (by intro z; cases z), fun y hy => (L.j.a y hy).1, fun W3 As3 s3 C3 SA => ?_⟩
    have hy3 : (Ms.map (mvR (M.fetched (n : Nat) y.c y.ws).2.2))[i]? = some (mvR (M.fetched (n : Nat) y.c y.ws).2.2 y) := by rw [List.getElem?_map, hy]; rfl
    obtain ⟨x3, hx3, R3⟩ := C3.row hy3
    obtain ⟨x0, hx0, er, _⟩ := SA i x3 hx3
    rw [hx] at hx0
    cases hx0
    have R3l := R3.l
    rw [F.2] at R3l
    obtain ⟨dl3, ol3⟩ := R3l.o
    have a3 := a1.step s3 (by walk_at "no")
    have R3r := R3.r
    rw [er] at R3r
    have hv3 : ∀ (tt : V), Vl _ _ W3.H (.ref x3.l) := fun tt => v_ixL (K := K) (ta := tVar 2) (tb := tC (.int 0)) (σ := [some (V.ref A'.p), some (V.ref kp), some (V.ref x.r), some tt]) (v_var rfl) v_c R3r rfl
    have fin : Q (.bl true) W3.H := kQ W3 _ _ _ ((SLaw.pool s1).tr (SLaw.own s3 (by decide))) ⟨C1.own s3, C3, F.1, ff.1.trans L.w, ff.2.1.trans L.i, ff.2.2.trans L.o, L.r⟩
    refine k_ret (v_isiC (hv3 _) (lf_isHeld G R3l) _ ⟨true, rfl, iteT ?_⟩)
    refine g_op (g_v (v_fld (f := "frame") (hv3 _) ol3 inferInstance rfl) (g_v (v_ixT (v_var rfl) v_c a3 rfl) (g_eq rfl ?_)))
    rw [decide_eq_true rfl]
    exact fin
theorem ok__law_fetched (G : TX K mg) : CalX P w K mg base 8 "_law_fetched" (sp__law_fetched K) [] := let ⟨fd, F⟩ := G.F__law_fetched; cal_by G.g__law_fetched F (bd__law_fetched F) sc__law_fetched Sp3.len (body__law_fetched G (fd := fd))
end

def sp__law_put (K : PySem.W.Frag) : Sp := Sp4 fun a b c d H Q E => ∃ W m A kp many slots size M As Ms cell, ∃ (i : Nat) (x : RwA) (y : RwM), H = Wd.H W ∧ a = .ref (PlA.p A) ∧ b = .ref (RwA.r x) ∧ c = .int cell ∧ d = .int size ∧ LW K W m A kp many slots size M As Ms ∧ ib cell ≤ 1048700 ∧ As[i]? = some x ∧ Ms[i]? = some y ∧
  (∀ W' M' As' Ms', Step SLaw W W' → LW K W' m A kp many slots size M' As' Ms' → Q .non W'.H)
section
variable {P : Program} {w : World} {K : PySem.W.Frag} {mg : Str → Option Value} {base : Heap}
theorem body__law_put (G : TX K mg) {fd : FuncData} {f : Addr} : BodyOk P w K mg base 4 ["_law_pool", "_law_row", "_law_cell", "_law_size", "_law_word"] "_law_put" (defScope s__law_put) f (defBody s__law_put) (sp__law_put K) := by
  have iT : TK K := G.tk
  rintro cdv A outer s H vs Q E hr tk po ⟨_, _, _, _, rfl, W, m, A', kp, many, slots, size, M, As, Ms, cell, i, x, y, rfl, rfl, rfl, rfl, rfl, L, hb, hx, hy, kQ⟩
  have hu := hu_of hr
  refine ⟨_, (pss_one (ps_if (pt_val (pe_callB call_isi (by rfl) G.b_isinstance (by decide +kernel) (pa_cons (pe_ix ix_seq (pv 1) pe_int (fun _ _ => rfl)) (pa_cons (pe_gr G.g_Held) pa_nil)))) (pss_cons (ps_set (i := 4) sc__law_put.nd rfl (Or.inl rfl) (pe_op op_mod (pe_op op_mulX (pv 2) pe_int) (pe_op op_pow pe_int pe_int)))
        (pss_cons (ps_expr (pe_mt (ok_Pool_put G) hr (by decide) tk (pv 0) (pa_cons (pe_fld (pe_ix ix_seq (pv 1) pe_int (fun _ _ => rfl)) rfl) (pa_cons (pe_op op_mod (pv 2) (pv 3)) (pa_cons (pv 4) pa_nil)))))
        (pss_one (ps_asg (pv 4) (pg_sub (pe_ix ix_seq (pv 1) pe_int (fun _ _ => rfl)) (pe_op op_mod (pv 2) (pv 3)) set_list (fun _ => rfl)))))) pss_nil)), ?_⟩
  try simp only [cxOf_K]
  have C := L.p
  obtain ⟨dx, o⟩ := C.o
  have R := L.k.e i x y hx hy
  have hym := List.mem_of_getElem? hy
  have h1 : Vl _ _ W.H (.ref x.l) := v_ixL (K := K) (ta := tVar 1) (tb := tC (.int 0)) (σ := L2.start ["_law_pool", "_law_row", "_law_cell", "_law_size", "_law_word"] [V.ref A'.p, V.ref x.r, V.int cell, V.int size]) (v_var rfl) v_c R.r rfl
  rcases L.j.row hym with ⟨n, ey, ht, hw, hu⟩ | ⟨n, ey, ht, hw, hu⟩
  · refine k_yes (s_B (v_isiC h1 (lf_isHeld G R.l))) (by rw [ey]; rfl) ?_
    have Rl := R.l
    rw [ey] at Rl
    obtain ⟨dl, ol⟩ := Rl.o
    have c1 : CMulX cell 48271 := mulx (b := 64) hb (ib64 (by decide) (by decide)) rfl
    have c3 : CPow 2 64 := ⟨by decide, by decide, by decide⟩
    obtain ⟨z, hz⟩ : ∃ z, z = cell * 48271 % 18446744073709551616 := ⟨_, rfl⟩
    have hw0 : isW z = true := by
      have g1 := Int.emod_nonneg (cell * 48271) (b := 18446744073709551616) (by decide)
      have g2 := Int.emod_lt_of_pos (cell * 48271) (b := 18446744073709551616) (by decide)
      unfold isW
      rw [hz, decide_eq_true g1, decide_eq_true g2]; rfl
    refine k_seq (k_set (g_v (v_I (v_I (v_var rfl) v_c c1) (v_I v_c v_c c3) (by decide)) ?_))
    rw [show V.int (cell * 48271 % 2 ^ (64 : Int).toNat) = V.int z by rw [hz]; rfl]
    have h1' : ∀ tt, Vl _ _ W.H (.ref x.l) := fun tt => v_ixL (K := K) (ta := tVar 1) (tb := tC (.int 0)) (σ := [some (V.ref A'.p), some (V.ref x.r), some (V.int cell), some (V.int size), some tt]) (v_var rfl) v_c R.r rfl
    have hsz := L.r.2.2.2.2
    refine k_seq (k_drop (g_mt (by walk_at "ev") o rfl (g_cons (g_v (v_fld (f := "frame") (h1' _) ol inferInstance rfl) (g_cons (g_v (v_I (v_var rfl) (v_var rfl) (by show (0 : Int) < size; omega)) (g_cons (g_v (v_var rfl) (g_nil ?_)))))))))
    have p1 := Int.emod_nonneg cell (b := size) (by omega)
    have p2 := Int.emod_lt_of_pos cell (b := size) (by omega)
    refine ⟨_, _, _, _, rfl, W, m, _, M, (n : Nat), cell % size, z, rfl, rfl, rfl, rfl, rfl, C, fun e => ?_, fun d w hd hw' => ⟨fun e => ?_, fun _ => ⟨fun e => ?_, fun _ => ?_⟩⟩⟩
    · rw [hu] at e; cases e
    · rw [L.w] at e; exact absurd ⟨p1, p2⟩ e
    · rw [hw0] at e; cases e
    rw [hu] at hd
    rw [Int.toNat_natCast, hw] at hw'
    cases hd; cases hw'
    have hok : wordsOk y.ws size = true := by rw [← L.w]; exact (L.j.a y hym).2.2.2
    have hlen : (y.ws.length : Int) = size := by
      unfold wordsOk at hok
      rw [Bool.and_eq_true] at hok
      exact of_decide_eq_true hok.1
    refine ⟨by omega, fun W1 s1 C1 => ?_⟩
    have K1 := L.k.pool s1
    have R1 := K1.e i x y hx hy
    refine k_asg (g_v (v_var rfl) (g_sub (g_v (v_ixL (v_var rfl) v_c R1.r rfl) (g_v (v_I (v_var rfl) (v_var rfl) (by show (0 : Int) < size; omega)) (g_setL R1.q (j := (cell % size).toNat) ?_ fun W2 a2 s2 => ?_)))))
    · unfold ixN
      rw [if_pos p1, List.length_map, if_pos (by omega)]
    rw [map_set'] at a2
    have K2 := K1.setWs hx hy s2 a2
    have s2' := SR.of R1.q s2
    have p := perm_erase hy
    have j1 := (L.j.perm p).upd (k := y.c) (w := y.ws.set (cell % size).toNat z) (b := false) (n := (n : Nat)) (by rw [ey]; rfl) (L.j.a y hym).2.2.1 (by rw [L.w]; exact wordsOk_set hok hw0)
    have j2 := j1.perm (perm_set (⟨y.lf, y.ws.set (cell % size).toNat z, y.c⟩ : RwM) (List.getElem?_eq_some_iff.mp hy).1).symm
    rw [Int.toNat_natCast] at j2
    refine kQ W2 _ _ _ ((SLaw.pool s1).tr (SLaw.own s2' (by decide))) ⟨C1.own s2', K2, ?_, L.w, L.i, L.o, L.r⟩
    refine j2.same ?_ rfl rfl
    show (⟨M.I.ts, M.I.ws.set (n : Int).toNat (y.ws.set (cell % size).toNat z)⟩ : StM) = ⟨M.I.ts.set n y.c, M.I.ws.set n (y.ws.set (cell % size).toNat z)⟩
    rw [set_same ht, Int.toNat_natCast]
  · refine k_no (s_B (v_isiC h1 (lf_isHeld G R.l))) (by rw [ey]; rfl) (k_next (kQ W M As Ms (Step.refl W) L))
theorem ok__law_put (G : TX K mg) : CalX P w K mg base 5 "_law_put" (sp__law_put K) [] := let ⟨fd, F⟩ := G.F__law_put; cal_by G.g__law_put F (bd__law_put F) sc__law_put Sp4.len (body__law_put G (fd := fd))
end

section
variable {K : PySem.W.Frag} {W : Wd} {m : Nat} {A : PlA} {M : PlM} {Ms : List RwM} {y : RwM} {Q : VK} {E : XK}
theorem more_of {x : Addr} (C : PoolAt K W m A M) (L : LeafAt K W x y.lf) (j : J M Ms) (h : y ∈ Ms) (q : ∀ W' M1 b (n : Nat), y.lf.loc = some (b, (n : Int)) → Step (SPool m) W W' → PoolAt K W' m A M1 → M1.I = (M.setAt b n (y.c + 1) y.ws).I → M1.O = (M.setAt b n (y.c + 1) y.ws).O → M1.wide = M.wide → Q .non W'.H) : sp_Pool_more K [.ref A.p, .ref x] W.H Q E := by
  refine ⟨_, _, rfl, W, m, A, M, x, y.lf, rfl, rfl, rfl, C, L, ?_⟩
  rcases j.row h with ⟨n, ey, ht, hw, hu⟩ | ⟨n, ey, ht, hw, hu⟩
  · rw [ey]
    refine ⟨fun c hc W' s C => ?_, fun e => by rw [hu] at e; cases e⟩
    rw [hu] at hc
    cases hc
    rw [Int.toNat_natCast] at C
    refine q W' _ false n (by rw [ey]; rfl) s C ?_ rfl rfl
    show (⟨M.I.ts.set n (y.c + 1), M.I.ws⟩ : StM) = ⟨M.I.ts.set n (y.c + 1), M.I.ws.set n y.ws⟩
    rw [set_same hw]
  · rw [ey]
    refine ⟨fun c hc W' s C => ?_, fun e => by rw [hu] at e; cases e⟩
    rw [hu] at hc
    cases hc
    rw [Int.toNat_natCast] at C
    refine q W' _ true n (by rw [ey]; rfl) s C rfl ?_ rfl
    show (⟨M.O.ts.set n (y.c + 1), M.O.ws⟩ : StM) = ⟨M.O.ts.set n (y.c + 1), M.O.ws.set n y.ws⟩
    rw [set_same hw]
theorem less_of {x : Addr} (C : PoolAt K W m A M) (L : LeafAt K W x y.lf) (j : J M Ms) (h : y ∈ Ms) (q : ∀ W' M1 b (n : Nat), y.lf.loc = some (b, (n : Int)) → Step (SPool m) W W' → PoolAt K W' m A M1 → M1.I = (M.setAt b n (y.c - 1) (if y.c = 1 then [] else y.ws)).I → M1.O = (M.setAt b n (y.c - 1) (if y.c = 1 then [] else y.ws)).O → M1.wide = M.wide → Q .non W'.H) : sp_Pool_less K [.ref A.p, .ref x] W.H Q E := by
  refine ⟨_, _, rfl, W, m, A, M, x, y.lf, rfl, rfl, rfl, C, L, ?_⟩
  have ew : ∀ {ws : List (List Int)} {n : Nat}, ws[n]? = some y.ws → (if y.c = 1 then ws.set n [] else ws) = ws.set n (if y.c = 1 then [] else y.ws) := fun {ws n} hw => by
    by_cases e : y.c = 1
    · rw [if_pos e, if_pos e]
    · rw [if_neg e, if_neg e, set_same hw]
  rcases j.row h with ⟨n, ey, ht, hw, hu⟩ | ⟨n, ey, ht, hw, hu⟩
  · rw [ey]
    refine ⟨fun c hc W' s C => ?_, fun e => by rw [hu] at e; cases e⟩
    rw [hu] at hc
    cases hc
    rw [Int.toNat_natCast, ew hw] at C
    exact q W' _ false n (by rw [ey]; rfl) s C rfl rfl rfl
  · rw [ey]
    refine ⟨fun c hc W' s C => ?_, fun e => by rw [hu] at e; cases e⟩
    rw [hu] at hc
    cases hc
    rw [Int.toNat_natCast, ew hw] at C
    exact q W' _ true n (by rw [ey]; rfl) s C rfl rfl rfl
theorem words_of {x : Addr} (C : PoolAt K W m A M) (L : LeafAt K W x y.lf) (j : J M Ms) (h : y ∈ Ms) (q : ∀ W' q, W.H q = none → Step SNone W W' → At W' none q (.lst (y.ws.map V.int)) → Q (.ref q) W'.H) : sp_Pool_words K [.ref A.p, .ref x] W.H Q E := by
  refine ⟨_, _, rfl, W, m, A, M, x, y.lf, rfl, rfl, rfl, C, L, ?_⟩
  rcases j.row h with ⟨n, ey, ht, hw, hu⟩ | ⟨n, ey, ht, hw, hu⟩
  · rw [ey]
    refine ⟨fun c w hc hw' W' p n1 s a => ?_, fun e => by rw [hu] at e; cases e⟩
    rw [Int.toNat_natCast, hw] at hw'
    cases hw'
    exact q W' p n1 s a
  · rw [ey]
    refine ⟨fun c w hc hw' W' p n1 s a => ?_, fun e => by rw [hu] at e; cases e⟩
    rw [Int.toNat_natCast, hw] at hw'
    cases hw'
    exact q W' p n1 s a
theorem count_of {x : Addr} (C : PoolAt K W m A M) (L : LeafAt K W x y.lf) (j : J M Ms) (h : y ∈ Ms) (q : ∀ W', Step SNone W W' → Q (.int y.c) W'.H) : sp_Pool_count K [.ref A.p, .ref x] W.H Q E := by
  refine ⟨_, _, rfl, W, m, A, M, x, y.lf, rfl, rfl, rfl, C, L, ?_⟩
  rcases j.row h with ⟨n, ey, ht, hw, hu⟩ | ⟨n, ey, ht, hw, hu⟩
  · rw [ey]
    exact ⟨fun c hc W' s => by rw [hu] at hc; cases hc; exact q W' s, fun e => by rw [hu] at e; cases e⟩
  · rw [ey]
    exact ⟨fun c hc W' s => by rw [hu] at hc; cases hc; exact q W' s, fun e => by rw [hu] at e; cases e⟩
end
theorem LW.facts {K : PySem.W.Frag} {W W' : Wd} {m : Nat} {A : PlA} {kp : Addr} {many slots size : Int} {M M1 : PlM} {As As1 : List RwA} {Ms Ms1 : List RwM} {b : Bool} {n : Nat} {k : Int} {w : List Int} (L : LW K W m A kp many slots size M As Ms) (p : PoolAt K W' m A M1) (kk : KeptAt K W' kp As1 Ms1) (j : J (M.setAt b n k w) Ms1)
    (hI : M1.I = (M.setAt b n k w).I) (hO : M1.O = (M.setAt b n k w).O) (hw : M1.wide = M.wide) : LW K W' m A kp many slots size M1 As1 Ms1 := by
  refine ⟨p, kk, j.same hI hO (by rw [wide_setAt]; exact hw), hw.trans L.w, ?_, ?_, L.r⟩
  · rw [hI, ← L.i]
    cases b
    · exact List.length_set
    · rfl
  · rw [hO, ← L.o]
    cases b
    · rfl
    · exact List.length_set
def sp__law_done (K : PySem.W.Frag) : Sp := Sp4 fun a b c d H Q E => ∃ W m A kp many slots size M As Ms cell, H = Wd.H W ∧ a = .ref (PlA.p A) ∧ b = .ref kp ∧ c = .int cell ∧ d = .int size ∧ LW K W m A kp many slots size M As Ms ∧ ib cell ≤ 1048700 ∧
  (∀ W' M' As' Ms', Step SLaw W W' → LW K W' m A kp many slots size M' As' Ms' → ((cell % 8 < 3 ∨ Ms.length = 0) → (Ms'.length = Ms.length ↔ (Ms.length : Int) = many + slots)) → Q (.bl true) W'.H)
section
variable {P : Program} {w : World} {K : PySem.W.Frag} {mg : Str → Option Value} {base : Heap}
theorem body__law_done (G : TX K mg) {fd : FuncData} {f : Addr} : BodyOk P w K mg base 8 ["_law_pool", "_law_kept", "_law_cell", "_law_size", "_law_way", "_law_at", "_law_row"] "_law_done" (defScope s__law_done) f (defBody s__law_done) (sp__law_done K) := by
  have iT : TK K := G.tk
  rintro cdv A outer s H vs Q E hr tk po ⟨_, _, _, _, rfl, W, m, A', kp, many, slots, size, M, As, Ms, cell, rfl, rfl, rfl, rfl, rfl, L, hb, kQ⟩
  have hu := hu_of hr
  refine ⟨_, (pss_cons (ps_set (i := 4) sc__law_done.nd rfl (Or.inl rfl) (pe_op op_mod (pv 2) pe_int))
        (pss_cons (ps_if (pw_or (pt_cmpR op_lt (pv 4) pe_int (nomark _)) (pw_or1 (pt_cmpR (op_eq0 hr.units) (pv 1) (pe_lst pa_nil) (nomark _)))).pt (pss_one (ps_ret (pe_cl (ok__law_made G) hr (by decide) tk (by rfl) (pa_cons (pv 0) (pa_cons (pv 1) (pa_cons (pe_cl (ok__law_words G) hr (by decide) tk (by rfl) (pa_cons (pe_op op_fdivW (pv 2) pe_int) (pa_cons (pv 3) pa_nil))) pa_nil)))))) pss_nil)
        (pss_cons (ps_set (i := 5) sc__law_done.nd rfl (Or.inl rfl) (pe_op op_mod (pe_op op_fdivW (pv 2) pe_int) (pe_callB call_len (by rfl) G.b_len (by decide +kernel) (pa_cons (pv 1) pa_nil))))
        (pss_cons (ps_set (i := 6) sc__law_done.nd rfl (Or.inl rfl) (pe_ix ix_seq (pv 1) (pv 5) (fun _ _ => rfl)))
        (pss_cons (ps_if (pt_cmpR op_lt (pv 4) pe_int (nomark _)) (pss_one (ps_ret (pe_cl (ok__law_fetched G) hr (by decide) tk (by rfl) (pa_cons (pv 0) (pa_cons (pv 1) (pa_cons (pv 6) pa_nil)))))) pss_nil)
        (pss_cons (ps_if (pt_cmpR op_eq (pv 4) pe_int (nomark _)) (pss_one (ps_expr (pe_cl (ok__law_put G) hr (by decide) tk (by rfl) (pa_cons (pv 0) (pa_cons (pv 6) (pa_cons (pe_op op_fdivW (pv 2) pe_int) (pa_cons (pv 3) pa_nil))))))) pss_nil)
        (pss_cons (ps_if (pt_cmpR op_eq (pv 4) pe_int (nomark _)) (pss_cons (ps_expr (pe_mt (ok_Pool_more G) hr (by decide) tk (pv 0) (pa_cons (pe_ix ix_seq (pv 6) pe_int (fun _ _ => rfl)) pa_nil)))
        (pss_one (ps_asg (pe_op op_add (pe_ix ix_seq (pv 6) pe_int (fun _ _ => rfl)) pe_int) (pg_sub (pv 6) pe_int set_list (fun _ => rfl))))) pss_nil)
        (pss_cons (ps_if (pt_cmpR op_eq (pv 4) pe_int (nomark _)) (pss_cons (ps_expr (pe_mt (ok_Pool_less G) hr (by decide) tk (pv 0) (pa_cons (pe_ix ix_seq (pv 6) pe_int (fun _ _ => rfl)) pa_nil)))
        (pss_cons (ps_asg (pe_op op_sub (pe_ix ix_seq (pv 6) pe_int (fun _ _ => rfl)) pe_int) (pg_sub (pv 6) pe_int set_list (fun _ => rfl)))
        (pss_one (ps_if (pt_cmpR op_eq (pe_ix ix_seq (pv 6) pe_int (fun _ _ => rfl)) pe_int (nomark _)) (pss_one (ps_expr (pe_bm PySem.F.plainAttrs_list PySem.F.slot_list_pop PySem.F.type_list_pop mt_popAt (pv 1) (pa_cons (pv 5) pa_nil)))) pss_nil)))) pss_nil)
        (pss_one (ps_ret pe_bl)))))))))), ?_⟩
  try simp only [cxOf_K]
  have C := L.p
  obtain ⟨dx, o⟩ := C.o
  have fd8 : CDivW cell 8 := ⟨by decide, by decide +kernel⟩
  have fd64 : CDivW cell 64 := ⟨by decide, by decide +kernel⟩
  have hr := L.r
  refine k_seq (k_set (g_v (v_I (v_var rfl) v_c (by decide)) ?_))
  refine k_seq (k_if (g_or (g_test (g_v (v_I0 (v_var rfl) v_c) ?_))))
  refine g_bl ?_
  refine ite2 (fun h => ?_) (fun h => ?_)
  · have h := of_decide_eq_true h
    refine iteT (k_ret (g_cl (g_cons (g_v (v_var rfl) (g_cons (g_v (v_var rfl) (g_cons ?_)))))))
    refine g_cl (g_cons (g_v (v_I (v_var rfl) v_c fd8) (g_cons (g_v (v_var rfl) (g_nil ?_)))))
    refine ⟨_, _, rfl, W, cell / 8, size, rfl, rfl, rfl, hr.2.2.2.2.1, hr.2.2.2.2.2, ib_fdiv (by decide) hb, fun W2 q n2 s2 a2 => g_nil ?_⟩
    refine ⟨_, _, _, rfl, W2, m, _, kp, many, slots, size, M, As, Ms, q, _, rfl, rfl, rfl, rfl, L.n0 s2, a2, lawWords_ok hr.2.2.2.2.1, fun i u e => ?_, fun hf W3 s3 L3 => kQ W3 M As Ms ((SLaw.n0 s2).tr s3) L3 (fun _ => ⟨fun _ => hf, fun _ => rfl⟩), fun hf W3 M3 As3 Ms3 s3 L3 hl => kQ W3 M3 As3 Ms3 ((SLaw.n0 s2).tr s3) L3 (fun _ => ⟨fun e => by omega, fun e => absurd e hf⟩)⟩
    obtain ⟨y, hy⟩ : ∃ y, Ms[i]? = some y := ⟨_, List.getElem?_eq_getElem (by rw [← L.k.n]; exact (List.getElem?_eq_some_iff.mp e).1)⟩
    exact (L.k.e i u y e hy).q.neN n2
  have h3 : ¬ cell % 8 < 3 := fun e => h (decide_eq_true e)
  refine g_test (g_op (g_v (v_var rfl) (g_lst (g_nil (new_l rfl fun e0 W1 n1 a1 s1 => ?_)))))
  have L1 := L.n0 s1
  refine g_eq0 L1.k.k a1 (g_bl ?_)
  refine ite2 (fun h => ?_) (fun h => ?_)
  · have h := of_decide_eq_true h
    have h0 : Ms.length = 0 := by
      rw [← L.k.n]
      have := congrArg List.length h
      rw [List.length_map] at this
      exact this
    refine k_ret (g_cl (g_cons (g_v (v_var rfl) (g_cons (g_v (v_var rfl) (g_cons ?_))))))
    refine g_cl (g_cons (g_v (v_I (v_var rfl) v_c fd8) (g_cons (g_v (v_var rfl) (g_nil ?_)))))
    refine ⟨_, _, rfl, W1, cell / 8, size, rfl, rfl, rfl, hr.2.2.2.2.1, hr.2.2.2.2.2, ib_fdiv (by decide) hb, fun W2 q n2 s2 a2 => g_nil ?_⟩
    refine ⟨_, _, _, rfl, W2, m, _, kp, many, slots, size, M, As, Ms, q, _, rfl, rfl, rfl, rfl, L1.n0 s2, a2, lawWords_ok hr.2.2.2.2.1, fun i u e => ?_, fun hf W3 s3 L3 => kQ W3 M As Ms ((SLaw.n0 (s1.tr s2)).tr s3) L3 (fun _ => ⟨fun _ => hf, fun _ => rfl⟩), fun hf W3 M3 As3 Ms3 s3 L3 hl => kQ W3 M3 As3 Ms3 ((SLaw.n0 (s1.tr s2)).tr s3) L3 (fun _ => ⟨fun e => by omega, fun e => absurd e hf⟩)⟩
    obtain ⟨y, hy⟩ : ∃ y, Ms[i]? = some y := ⟨_, List.getElem?_eq_getElem (by rw [← L.k.n]; exact (List.getElem?_eq_some_iff.mp e).1)⟩
    exact (L1.k.e i u y e hy).q.neN n2
  have hne : 0 < Ms.length := by
    rw [← L.k.n]
    refine Nat.pos_of_ne_zero fun e => h (decide_eq_true ?_)
    rw [List.length_eq_zero_iff.mp e]; rfl
  have kQ' : ∀ W' M' As' Ms', Step SLaw W1 W' → LW K W' m A' kp many slots size M' As' Ms' → Q (.bl true) W'.H := fun W' M' As' Ms' s l => kQ W' M' As' Ms' ((SLaw.n0 s1).tr s) l fun e => by
    rcases e with e | e
    · exact absurd e h3
    · omega
  clear kQ h
  have lenE : ((As.map fun x => V.ref x.r).length : Int) = (Ms.length : Int) := by rw [List.length_map, L.k.n]
  have q1 := Int.emod_nonneg (cell / 8) (b := (Ms.length : Int)) (by omega)
  have q2 := Int.emod_lt_of_pos (cell / 8) (b := (Ms.length : Int)) (by omega)
  refine k_next (k_seq (k_set (g_v (v_I (v_I (v_var rfl) v_c fd8) (v_len (v_var rfl) (len_l L1.k.k)) (by show (0 : Int) < _; omega)) ?_)))
  rw [lenE]
  obtain ⟨at', hat⟩ : ∃ at', at' = (cell / 8 % (Ms.length : Int)).toNat := ⟨_, rfl⟩
  have eat : cell / 8 % (Ms.length : Int) = (at' : Nat) := by omega
  rw [eat]
  obtain ⟨y, hy⟩ : ∃ y, Ms[at']? = some y := ⟨_, List.getElem?_eq_getElem (by omega)⟩
  obtain ⟨x, hx, R⟩ := L1.k.row hy
  have hym := List.mem_of_getElem? hy
  refine k_seq (k_set (g_v (v_ixL (v_var rfl) (v_var rfl) L1.k.k (atZ_mapV (f := fun x : RwA => V.ref x.r) (atZ_nat hx))) ?_))
  have p := perm_erase hy
  have o1 := o.step s1 (by walk_at "no")
  have jc := (L.j.a y hym)
  refine k_seq (k_ifT (s_test (v_I0 (v_var rfl) v_c)) (fun h => ?_) (fun h => k_next ?_))
  · refine k_ret (g_cl (g_cons (g_v (v_var rfl) (g_cons (g_v (v_var rfl) (g_cons (g_v (v_var rfl) (g_nil ?_))))))))
    exact ⟨_, _, _, rfl, W1, m, _, kp, many, slots, size, M, As, Ms, at', x, y, rfl, rfl, rfl, rfl, L1, hx, hy, kQ'⟩
  refine k_seq (k_ifT (s_test (v_eq (v_var rfl) v_c rfl)) (fun h => ?_) (fun h5 => k_next ?_))
  · have h := of_decide_eq_true h
    injection h with h
    refine k_drop (g_cl (g_cons (g_v (v_var rfl) (g_cons (g_v (v_var rfl) (g_cons (g_v (v_I (v_var rfl) v_c fd64) (g_cons (g_v (v_var rfl) (g_nil ?_))))))))))
    refine ⟨_, _, _, _, rfl, W1, m, _, kp, many, slots, size, M, As, Ms, cell / 64, at', x, y, rfl, rfl, rfl, rfl, rfl, L1, ib_fdiv (by decide) hb, hx, hy, fun W2 M2 As2 Ms2 s2 L2 => ?_⟩
    refine k_seq (k_no (s_test (v_eq (v_var rfl) v_c rfl)) (by rw [h]; decide) (k_next ?_))
    refine k_seq (k_no (s_test (v_eq (v_var rfl) v_c rfl)) (by rw [h]; decide) (k_next ?_))
    exact k_ret (g_v v_c (kQ' W2 M2 As2 Ms2 s2 L2))
  have h1 : ∀ {σ : L2.St}, σ[6]? = some (some (V.ref x.r)) → Vl (tOp (rIx K) (tVar 6) (tC (.int 0))) σ W1.H (.ref x.l) := fun e => v_ixL (v_var e) v_c R.r rfl
  refine k_seq (k_ifT (s_test (v_eq (v_var rfl) v_c rfl)) (fun h => ?_) (fun h6 => k_next ?_))
  · have h := of_decide_eq_true h
    injection h with h
    refine k_seq (k_drop (g_mt (v_var rfl) o1 rfl (g_cons (g_v (h1 rfl) (g_nil ?_)))))
    refine more_of L1.p R.l L.j hym fun W2 M2 b n l s2 P2 e1 e2 e3 => ?_
    have K2 := L1.k.pool s2
    have R2 := K2.e at' x y hx hy
    refine k_asg (g_v (v_I0 (v_ixL (v_var rfl) v_c R2.r rfl) v_c) (g_sub (g_v (v_var rfl) (g_v v_c (g_setL R2.r (j := 2) rfl fun W3 a3 s3 => ?_)))))
    have K3 := K2.setRow (l' := x.l) (lf' := y.lf) (c' := y.c + 1) hx hy s3 a3 R2.l
    have j1 := ((L.j.perm p).upd (k := y.c + 1) (w := y.ws) l (by omega) jc.2.2.2).perm (perm_set (⟨y.lf, y.ws, y.c + 1⟩ : RwM) (List.getElem?_eq_some_iff.mp hy).1).symm
    rw [Int.toNat_natCast] at j1
    have s3' := SR.of R2.r s3
    refine k_seq (k_no (s_test (v_eq (v_var rfl) v_c rfl)) (by rw [h]; decide) (k_next ?_))
    exact k_ret (g_v v_c (kQ' W3 _ _ _ ((SLaw.pool s2).tr (SLaw.own s3' (by decide))) (L1.facts (P2.own s3') K3 j1 e1 e2 e3)))
  refine k_seq (k_ifT (s_test (v_eq (v_var rfl) v_c rfl)) (fun h => ?_) (fun h7 => k_next ?_))
  · refine k_seq (k_drop (g_mt (v_var rfl) o1 rfl (g_cons (g_v (h1 rfl) (g_nil ?_)))))
    refine less_of L1.p R.l L.j hym fun W2 M2 b n l s2 P2 e1 e2 e3 => ?_
    have K2 := L1.k.pool s2
    have R2 := K2.e at' x y hx hy
    refine k_seq (k_asg (g_v (v_I0 (v_ixL (v_var rfl) v_c R2.r rfl) v_c) (g_sub (g_v (v_var rfl) (g_v v_c (g_setL R2.r (j := 2) rfl fun W3 a3 s3 => ?_))))))
    have K3 := K2.setRow (l' := x.l) (lf' := y.lf) (c' := y.c - 1) hx hy s3 a3 R2.l
    have s3' := SR.of R2.r s3
    have P3 := P2.own s3'
    have zS : Step SLaw W1 W3 := (SLaw.pool s2).tr (SLaw.own s3' (by decide))
    have a3' : At W3 (some (.own 2)) x.r (.lst [.ref x.l, .ref x.q, .int (y.c - 1)]) := a3
    have hlt := (List.getElem?_eq_some_iff.mp hy).1
    refine k_ifT (s_test (v_eq (v_ixL (v_var rfl) v_c a3' rfl) v_c rfl)) (fun hz => ?_) (fun hz => k_next ?_)
    · have hz := of_decide_eq_true hz
      injection hz with hz
      have hc1 : y.c = 1 := by omega
      rw [if_pos hc1, hz] at e1 e2
      refine k_drop (g_bm (g_v (v_var rfl) ⟨tyl K3.k, g_cons (g_v (v_var rfl) (g_nil (g_popAt (k := at') (y := V.ref x.r) K3.k (by omega) ?_ ?_ ?_ fun W4 a4 s4 => ?_)))⟩))
      · have := L.full.2; omega
      · refine (ixN_seq ?_).1
        unfold ixN
        rw [if_pos (by omega), List.length_map, List.length_set, if_pos (by rw [L.k.n]; omega)]
        rfl
      · rw [List.getElem?_map, List.getElem?_set_self (by rw [L.k.n]; exact hlt)]; rfl
      · have K4 := K3.drop at' s4 a4
        have s4' := SR.of K3.k s4
        have j1 := (L.j.perm p).rem l
        rw [Int.toNat_natCast] at j1
        have em : (Ms.set at' (⟨y.lf, y.ws, y.c - 1⟩ : RwM)).eraseIdx at' = Ms.eraseIdx at' := List.eraseIdx_set_eq
        rw [em] at K4
        exact k_ret (g_v v_c (kQ' W4 _ _ _ (zS.tr (SLaw.own s4' (by decide))) (L1.facts (P3.own s4') K4 j1 e1 e2 e3)))
    · have hc1 : ¬ y.c = 1 := fun e => by rw [e] at hz; exact absurd hz (by decide)
      rw [if_neg hc1] at e1 e2
      have j1 := ((L.j.perm p).upd (k := y.c - 1) (w := y.ws) l (by omega) jc.2.2.2).perm (perm_set (⟨y.lf, y.ws, y.c - 1⟩ : RwM) hlt).symm
      rw [Int.toNat_natCast] at j1
      exact k_ret (g_v v_c (kQ' W3 _ _ _ zS (L1.facts P3 K3 j1 e1 e2 e3)))
  exact k_ret (g_v v_c (kQ' W1 M As Ms (Step.refl W1) L1))
theorem ok__law_done (G : TX K mg) : CalX P w K mg base 9 "_law_done" (sp__law_done K) [] := let ⟨fd, F⟩ := G.F__law_done; cal_by G.g__law_done F (bd__law_done F) sc__law_done Sp4.len (body__law_done G (fd := fd))
end

theorem g_noPart {σ : L2.St} {H : Hp} {Q : Option Int → Hp → Prop} (q : Q none H) : tNoPart σ H Q := q
theorem g_part {σ : L2.St} {H : Hp} {i : Int} {Q : Option Int → Hp → Prop} (q : Q (some i) H) : tPart (tC (.int i)) σ H Q := ⟨i, rfl, q⟩
theorem g_sl {σ : L2.St} {H : Hp} {Q : VK} {r : V → Option Int → Option Int → Hp → VK → Prop} {te : TE} {tl th : TO} (q : te σ H fun x H1 => tl σ H1 fun l H2 => th σ H2 fun u H3 => r x l u H3 Q) : tSl r te tl th σ H Q := q
theorem k_dput {td ty tv : TE} {D : Ends} {σ : L2.St} {H : Hp} (q : tv σ H fun v H1 => td σ H1 fun x H2 => ty σ H2 fun y H3 => ∃ a H4, x = .ref a ∧ DPut H3 a y v H4 ∧ D.nx σ H4) : sDPut td ty tv D σ H := q
theorem g_dputT {W : Wd} {r r2 : Option Rl} {a b : Addr} {kvs : List (List L2.Key × V)} {k : List L2.Key} {v : V} {R : Hp → Prop} (oa : At W r a (.dT kvs)) (ob : At W r2 b (.tup (k.map kV))) (hl : kvs.length < 1000) (q : ∀ W', At W' r a (.dT (putK kvs k v)) → Step (SAt a) W W' → R W'.H) : ∃ a' H4, V.ref a = .ref a' ∧ DPut W.H a' (.ref b) v H4 ∧ R H4 :=
  ⟨a, _, rfl, DPut.t oa.h ob.h (by have : sizeLine = 16777216 := sizeLine_eq; omega), q (W.put oa _) (W.put_at oa _) (W.put_step oa _)⟩
theorem g_andV {σ : L2.St} {H : Hp} {Q : VK} {ta tb : TE} (q : ta σ H fun x H1 => ∃ c, x = .bl c ∧ if c = true then tb σ H1 Q else Q (.bl false) H1) : tAndV ta tb σ H Q := q
/-- a list that is made for the loop -/
theorem k_forLe {K : PySem.W.Frag} {σ : L2.St} {H0 : Hp} {tl : TE} {tb : TS} {g : TG} {D : Ends} (props : Addr → Wd → Prop) (hv : ∀ Q : VK, (∀ a W1, props a W1 → Q (.ref a) (Wd.H W1)) → tl σ H0 Q) (k : ∀ a W1, props a W1 → tFor (iList K (tC (.ref a))) g tb D σ (Wd.H W1)) : tFor (iList K tl) g tb D σ H0 := hv _ k
/-- a row's count comes to its place -/
def addR (b : Bool) (t : List Int) (y : RwM) : List Int := match y.lf.loc with
  | some (b', n) => if b' = b then t.set n.toNat (t.getD n.toNat 0 + y.c) else t
  | none => t
theorem addR_len (b : Bool) (t : List Int) (y : RwM) : (addR b t y).length = t.length := by
  unfold addR
  split
  · split
    · exact List.length_set
    · rfl
  · rfl
theorem addR_all (b : Bool) : ∀ (Ms : List RwM) (t : List Int), (∀ y ∈ Ms, ∀ b n, y.lf.loc = some (b, n) → 0 ≤ n) → (Ms.Pairwise fun x y => x.lf.loc ≠ y.lf.loc) → (Ms.foldl (addR b) t).length = t.length ∧ ∀ (n : Nat) k, t[n]? = some k →
    (∀ y ∈ Ms, y.lf.loc = some (b, (n : Int)) → (Ms.foldl (addR b) t)[n]? = some (k + y.c)) ∧ ((∀ y ∈ Ms, y.lf.loc ≠ some (b, (n : Int))) → (Ms.foldl (addR b) t)[n]? = some k)
  | [], t, _, _ => ⟨rfl, fun n k h => ⟨fun y hy => absurd hy (by simp), fun _ => h⟩⟩
  | z :: Ms, t, h0, hp => by
    obtain ⟨p1, p2⟩ := List.pairwise_cons.mp hp
    obtain ⟨e1, e2⟩ := addR_all b Ms (addR b t z) (fun y hy => h0 y (List.mem_cons_of_mem _ hy)) p2
    refine ⟨by rw [List.foldl_cons, e1, addR_len], fun n k h => ?_⟩
    rw [List.foldl_cons]
    by_cases hz : z.lf.loc = some (b, (n : Int))
    · have ez : (addR b t z)[n]? = some (k + z.c) := by
        unfold addR
        rw [hz]
        show (if b = b then _ else _ : List Int)[n]? = _
        rw [if_pos rfl, Int.toNat_natCast, List.getElem?_set_self (List.getElem?_eq_some_iff.mp h).1, getD_of h]
      have hno : ∀ y ∈ Ms, y.lf.loc ≠ some (b, (n : Int)) := fun y hy e => p1 y hy (by rw [hz, e])
      refine ⟨fun y hy ly => ?_, fun hn => absurd hz (hn z List.mem_cons_self)⟩
      rcases List.mem_cons.mp hy with rfl | hy
      · exact (e2 n _ ez).2 hno
      · exact absurd ly (hno y hy)
    · have ez : (addR b t z)[n]? = some k := by
        unfold addR
        split
        · rename_i b' n' e
          split
          · rename_i eb
            have hn' := h0 z List.mem_cons_self b' n' e
            rw [List.getElem?_set_ne (fun q => hz (by rw [e, eb, ← q, Int.toNat_of_nonneg hn']))]
            exact h
          · exact h
        · exact h
      refine ⟨fun y hy ly => ?_, fun hn => (e2 n k ez).2 fun y hy => hn y (List.mem_cons_of_mem _ hy)⟩
      rcases List.mem_cons.mp hy with rfl | hy
      · exact absurd ly hz
      · exact (e2 n k ez).1 y hy ly
theorem J.told {M : PlM} {Ms : List RwM} (j : J M Ms) (b : Bool) : Ms.foldl (addR b) (List.replicate (M.ts b).length 0) = M.ts b := by
  obtain ⟨e1, e2⟩ := addR_all b Ms (List.replicate (M.ts b).length 0) (fun y hy b n e => by
    obtain ⟨_, ⟨b', n', l, hn, _⟩, _⟩ := j.a y hy
    rw [e] at l; cases l; exact hn) j.b
  rw [List.length_replicate] at e1
  refine List.ext_getElem? fun n => ?_
  cases h : (M.ts b)[n]? with
  | none =>
    rw [List.getElem?_eq_none_iff] at h ⊢
    rw [e1]; exact h
  | some c =>
    have hn := (List.getElem?_eq_some_iff.mp h).1
    have e3 := e2 n 0 (by rw [List.getElem?_replicate, if_pos hn])
    have hyc : ∀ y ∈ Ms, y.lf.loc = some (b, (n : Int)) → y.c = c ∧ 1 ≤ c := fun y hy ly => by
      obtain ⟨_, ⟨b', n', l, hn, ht, _⟩, hc, _⟩ := j.a y hy
      rw [ly] at l
      cases l
      rw [Int.toNat_natCast, h] at ht
      cases ht
      exact ⟨rfl, hc⟩
    by_cases hc : c = 0
    · rw [hc]
      exact e3.2 fun y hy ly => by have := (hyc y hy ly).2; omega
    · obtain ⟨y, hy, ly⟩ := j.c b n c h hc
      rw [e3.1 y hy ly, (hyc y hy ly).1, Int.zero_add]
/-- the key of a row: its kind and its place -/
def Lf.key : Lf → List L2.Key
  | .held _ f => [.inr "held", .inl f] | .out _ f => [.inr "out", .inl f] | _ => []
theorem key_inj {x y : Lf} (hx : x.loc ≠ none) (hy : y.loc ≠ none) (h : x.key = y.key) : x.loc = y.loc := by
  cases x <;> cases y <;> simp_all [Lf.key, Lf.loc] <;> exact absurd h.1 (by decide +kernel)
theorem putK_new {κ : Type} [DecidableEq κ] {kvs : List (κ × V)} {k : κ} {v : V} (h : ∀ p ∈ kvs, p.1 ≠ k) : putK kvs k v = kvs ++ [(k, v)] := by
  unfold putK
  rw [if_neg]
  rw [Bool.not_eq_true, List.any_eq_false]
  intro p hp
  simpa using h p hp
def sp__law_state (K : PySem.W.Frag) : Sp := Sp4 fun a b c d H Q E => ∃ W m A kp many slots size M As Ms, H = Wd.H W ∧ a = .ref (PlA.p A) ∧ b = .ref kp ∧ c = .int many ∧ d = .int slots ∧ LW K W m A kp many slots size M As Ms ∧ ∀ W', Step SNone W W' → Q (.bl true) W'.H
section
variable {P : Program} {w : World} {K : PySem.W.Frag} {mg : Str → Option Value} {base : Heap}
theorem body__law_state (G : TX K mg) {fd : FuncData} {f : Addr} : BodyOk P w K mg base 5 ["_law_pool", "_law_kept", "_law_many", "_law_slots", "_law_inner", "_law_outer", "_law_marks", "_law_leaf", "_law_words_here", "_law_count", "_law_named", "_law_row"] "_law_state" (defScope s__law_state) f (defBody s__law_state) (sp__law_state K) := by
  have iT : TK K := G.tk
  rintro cdv A outer s H vs Q E hr tk po ⟨_, _, _, _, rfl, W, m, A', kp, many, slots, size, M, As, Ms, rfl, rfl, rfl, rfl, rfl, L, kQ⟩
  have hu := hu_of hr
  refine ⟨_, (pss_cons (ps_set (i := 4) sc__law_state.nd rfl (Or.inl rfl) (pe_op op_rep (pe_lst (pa_cons pe_int pa_nil)) (pv 2)))
        (pss_cons (ps_set (i := 5) sc__law_state.nd rfl (Or.inl rfl) (pe_op op_rep (pe_lst (pa_cons pe_int pa_nil)) (pv 3)))
        (pss_cons (ps_set (i := 6) sc__law_state.nd rfl (Or.inl rfl) (pe_mt0 (ok_Pool_marks G) hr (by decide) tk (pv 0)))
        (pss_cons (ps_for po rfl (pi_list (pv 1)) (pg_unl rfl (pgs_cons (pg_name (i := 7) sc__law_state.nd rfl (Or.inl rfl)) (pgs_cons (pg_name (i := 8) sc__law_state.nd rfl (Or.inl rfl)) (pgs_cons (pg_name (i := 9) sc__law_state.nd rfl (Or.inl rfl)) pgs_nil))))
        (pss_cons (ps_if (pw_or (pt_cmpR (op_neD hr.units) (pe_mt (ok_Pool_words G) hr (by decide) tk (pv 0) (pa_cons (pv 7) pa_nil)) (pv 8) (nomark _)) (pw_or (pt_cmpR op_ne (pe_mt (ok_Pool_count G) hr (by decide) tk (pv 0) (pa_cons (pv 7) pa_nil)) (pv 9) (nomark _)) (pw_or1 (pt_cmpR (op_neD hr.units) (pe_mt0 (ok_Pool_marks G) hr (by decide) tk (pv 0)) (pv 6) (nomark _))))).pt (pss_one (ps_ret pe_bl)) pss_nil)
        (pss_one (ps_if (pt_val (pe_callB call_isi (by rfl) G.b_isinstance (by decide +kernel) (pa_cons (pv 7) (pa_cons (pe_gr G.g_Held) pa_nil)))) (pss_one (ps_asg (pe_op op_add (pe_ix ix_seq (pv 4) (pe_fld (pv 7) rfl) (fun _ _ => rfl)) (pv 9)) (pg_sub (pv 4) (pe_fld (pv 7) rfl) set_list (fun _ => rfl)))) (pss_one (ps_asg (pe_op op_add (pe_ix ix_seq (pv 5) (pe_fld (pv 7) rfl) (fun _ _ => rfl)) (pv 9)) (pg_sub (pv 5) (pe_fld (pv 7) rfl) set_list (fun _ => rfl))))))))
        (pss_cons (ps_set (i := 10) sc__law_state.nd rfl (Or.inl rfl) pe_dnewT)
        (pss_cons (ps_for po rfl (pi_list (pv 1)) (pg_name (i := 11) sc__law_state.nd rfl (Or.inl rfl))
        (pss_one (ps_dput hu (pv 10) (pe_op op_catT (pe_slice sl_tup (pe_orE (pe_mt0 (ok_Held_row G) hr (by decide) tk (pe_ix ix_seq (pv 11) pe_int (fun _ _ => rfl))) (pe_mt0 (ok_Out_row G) hr (by decide) tk (pe_ix ix_seq (pv 11) pe_int (fun _ _ => rfl)))) po_none (po_some pe_int)) (pe_slice sl_tup (pe_orE (pe_mt0 (ok_Held_row G) hr (by decide) tk (pe_ix ix_seq (pv 11) pe_int (fun _ _ => rfl))) (pe_mt0 (ok_Out_row G) hr (by decide) tk (pe_ix ix_seq (pv 11) pe_int (fun _ _ => rfl)))) (po_some pe_int) po_none)) pe_bl rfl)))
        (pss_cons (ps_if (pw_or (pt_cmpR op_ne (pe_callB call_len_dT (by rfl) G.b_len (by decide +kernel) (pa_cons (pv 10) pa_nil)) (pe_callB call_len (by rfl) G.b_len (by decide +kernel) (pa_cons (pv 1) pa_nil)) (nomark _)) (pw_or1 (pt_cmpR op_ne (pe_mt0 (ok_Pool_room G) hr (by decide) tk (pv 0)) (pe_op op_sub (pe_op op_add (pv 2) (pv 3)) (pe_callB call_len (by rfl) G.b_len (by decide +kernel) (pa_cons (pv 1) pa_nil))) (nomark _)))).pt (pss_one (ps_ret pe_bl)) pss_nil)
        (pss_one (ps_ret (pe_and (pe_cmpR (op_eqD hr.units) (pe_mt0 (ok_Pool_frames G) hr (by decide) tk (pv 0)) (pv 4) (nomark _)) (pe_one (pe_cmpR (op_eqD hr.units) (pe_mt0 (ok_Pool_slots G) hr (by decide) tk (pv 0)) (pv 5) (nomark _))))))))))))), ?_⟩
  try simp only [cxOf_K]
  have hr := L.r
  have f1 := L.full.2
  have hMs : Ms.length ≤ 128 := by omega
  obtain ⟨dx, o⟩ := L.p.o
  refine k_seq (k_set (g_op (g_lst (g_cons (g_v v_c (g_nil (new_l rfl fun z1 W1 n1 a1 s1 => ?_)))))))
  refine g_v (v_var rfl) (g_rep (some (.own 5)) a1 (by omega) (by omega) fun li W2 n2 a2 s2 => ?_)
  refine k_seq (k_set (g_op (g_lst (g_cons (g_v v_c (g_nil (new_l rfl fun z2 W3 n3 a3 s3 => ?_)))))))
  refine g_v (v_var rfl) (g_rep (some (.own 6)) a3 (by omega) (by omega) fun lo W4 n4 a4 s4 => ?_)
  have z4 : Step SNone W W4 := ((s1.tr s2).tr s3).tr s4
  have nli : W.H li = none := s1.live _ n2
  have nlo : W.H lo = none := s1.live _ (s2.live _ (s3.live _ n4))
  have o4 := o.step z4 (by walk_at "no")
  refine k_seq (k_set (g_mt (v_var rfl) o4 rfl (g_nil ?_)))
  refine ⟨_, rfl, W4, m, _, M, rfl, rfl, (L.n0 z4).p, fun W5 lm n5 s5 a5 => ?_⟩
  have z5 := z4.tr s5
  have ai5 := ((a2.step s3 (by walk_at "no")).step s4 (by walk_at "no")).step s5 (by walk_at "no")
  have ao5 := a4.step s5 (by walk_at "no")
  have L5 := L.n0 z5
  rw [show List.replicate many.toNat (V.int 0) = (List.replicate many.toNat (0 : Int)).map V.int by rw [List.map_replicate]] at ai5
  rw [show List.replicate slots.toNat (V.int 0) = (List.replicate slots.toNat (0 : Int)).map V.int by rw [List.map_replicate]] at ao5
  refine k_seq (k_forL (v_var rfl) (SqL.of L5.k.k.h) (fun i σ' W' => (∃ v7 v8 v9, σ' = [some (.ref A'.p), some (.ref kp), some (.int many), some (.int slots), some (.ref li), some (.ref lo), some (.ref lm), v7, v8, v9, none, none]) ∧ Step SNone W W' ∧ At W' (some (.own 5)) li (.lst (((Ms.take i).foldl (addR false) (List.replicate many.toNat 0)).map V.int)) ∧ At W' (some (.own 6)) lo (.lst (((Ms.take i).foldl (addR true) (List.replicate slots.toNat 0)).map V.int)) ∧ At W' none lm (.lst (M.lit.map V.bl)))
    ⟨⟨none, none, none, rfl⟩, z5, ai5, ao5, a5⟩ (fun i σ' W' _ ⟨_, s, _⟩ => SqL.of (L.n0 s).k.k.h) ?_ ?_)
  · rintro i x σ' W6 hx ⟨⟨v7, v8, v9, rfl⟩, z6, ai6, ao6, am6⟩
    have L6 := L.n0 z6
    rw [List.getElem?_map] at hx
    obtain ⟨x, hxi, rfl⟩ := Option.map_eq_some_iff.mp hx
    have hi := (List.getElem?_eq_some_iff.mp hxi).1
    obtain ⟨y, hy⟩ : ∃ y, Ms[i]? = some y := ⟨_, List.getElem?_eq_getElem (by rw [← L.k.n]; exact hi)⟩
    have hym := List.mem_of_getElem? hy
    have R := L6.k.e i x y hxi hy
    have o6 := o.step z6 (by walk_at "no")
    refine g_unl (SqL.of R.r.h) rfl (g_tcons (g_tname (g_tcons (g_tname (g_tcons (g_tname (g_tnil ?_)))))))
    refine k_seq (k_if (g_or (g_test (g_op (g_mt (v_var rfl) o6 rfl (g_cons (g_v (v_var rfl) (g_nil ?_))))))))
    refine words_of L6.p R.l L.j hym fun W7 q7 n7 s7 a7 => ?_
    have L7 := L6.n0 s7
    have R7 := L7.k.e i x y hxi hy
    have o7 := o6.step s7 (by walk_at "no")
    refine g_v (v_var rfl) (g_neI a7 R7.q (g_bl ?_))
    rw [decide_eq_true rfl]
    refine iteF (g_or (g_test (g_op (g_mt (v_var rfl) o7 rfl (g_cons (g_v (v_var rfl) (g_nil ?_)))))))
    refine count_of L7.p R7.l L.j hym fun W8 s8 => ?_
    have L8 := L7.n0 s8
    have o8 := o7.step s8 (by walk_at "no")
    refine g_v (v_var rfl) (g_ne rfl (g_bl ?_))
    rw [decide_eq_true rfl]
    refine iteF (g_test (g_op (g_mt (v_var rfl) o8 rfl (g_nil ?_))))
    refine ⟨_, rfl, W8, m, _, M, rfl, rfl, L8.p, fun W9 q9 n9 s9 a9 => ?_⟩
    have z9 := ((z6.tr s7).tr s8).tr s9
    have am9 := ((am6.step s7 (by walk_at "no")).step s8 (by walk_at "no")).step s9 (by walk_at "no")
    have ai9 := ((ai6.step s7 (by walk_at "no")).step s8 (by walk_at "no")).step s9 (by walk_at "no")
    have ao9 := ((ao6.step s7 (by walk_at "no")).step s8 (by walk_at "no")).step s9 (by walk_at "no")
    refine g_v (v_var rfl) (g_neB a9 am9 (g_bl ?_))
    rw [decide_eq_true rfl]
    refine iteF (k_next ?_)
    have L9 := L.n0 z9
    have R9 := L9.k.e i x y hxi hy
    have hT := addR_all
    have Rl := R9.l
    rcases L.j.row hym with ⟨n, ey, ht, hw, hu⟩ | ⟨n, ey, ht, hw, hu⟩
    · rw [ey] at Rl
      obtain ⟨dl, ol⟩ := Rl.o
      refine k_yes (s_B (v_isiC (v_var rfl) (lf_isHeld G Rl))) rfl ?_
      have hlen : ((Ms.take i).foldl (addR false) (List.replicate many.toNat 0)).length = many.toNat := by
        rw [(addR_all false (Ms.take i) _ (fun y hy b n e => by
          obtain ⟨_, ⟨b', n', l, hn, _⟩, _⟩ := L.j.a y (List.mem_of_mem_take hy)
          rw [e] at l; cases l; exact hn) (L.j.b.sublist (List.take_sublist _ _))).1, List.length_replicate]
      have hn : n < many.toNat := by rw [← L.i]; exact (List.getElem?_eq_some_iff.mp ht).1
      have hg : ((Ms.take i).foldl (addR false) (List.replicate many.toNat 0))[n]? = some (((Ms.take i).foldl (addR false) (List.replicate many.toNat 0)).getD n 0) := by rw [List.getD_eq_getElem?_getD, List.getElem?_eq_getElem (by rw [hlen]; exact hn)]; rfl
      refine k_asg (g_v (v_I0 (v_ixL (v_var rfl) (v_fld (f := "frame") (v_var rfl) ol inferInstance rfl) ai9 (atZ_mapV (f := V.int) (atZ_nat hg))) (v_var rfl)) (g_sub (g_v (v_var rfl) (g_v (v_fld (f := "frame") (v_var rfl) ol inferInstance rfl) (g_setL ai9 (j := n) (atZ_ixM (f := V.int) (atZ_nat hg)) fun W10 a10 s10 => ?_)))))
      have s10' := SR.of ai9 s10
      refine ⟨W10, rfl, ⟨_, _, _, rfl⟩, z9.fresh nli s10, ?_, ?_, am9.step s10' (by walk_at "no")⟩
      · rw [list_snoc_take hy, List.foldl_append]
        rw [map_set'] at a10
        have : [y].foldl (addR false) ((Ms.take i).foldl (addR false) (List.replicate many.toNat 0)) = ((Ms.take i).foldl (addR false) (List.replicate many.toNat 0)).set n (((Ms.take i).foldl (addR false) (List.replicate many.toNat 0)).getD n 0 + y.c) := by
          show addR false _ y = _
          unfold addR
          rw [ey]
          rfl
        rw [this]
        exact a10
      · rw [list_snoc_take hy, List.foldl_append]
        have : [y].foldl (addR true) ((Ms.take i).foldl (addR true) (List.replicate slots.toNat 0)) = (Ms.take i).foldl (addR true) (List.replicate slots.toNat 0) := by
          show addR true _ y = _
          unfold addR
          rw [ey]
          rfl
        rw [this]
        exact ao9.step s10' (by walk_at "no")
    · rw [ey] at Rl
      obtain ⟨dl, ol⟩ := Rl.o
      refine k_no (s_B (v_isiC (v_var rfl) (lf_isHeld G Rl))) rfl ?_
      have hlen : ((Ms.take i).foldl (addR true) (List.replicate slots.toNat 0)).length = slots.toNat := by
        rw [(addR_all true (Ms.take i) _ (fun y hy b n e => by
          obtain ⟨_, ⟨b', n', l, hn, _⟩, _⟩ := L.j.a y (List.mem_of_mem_take hy)
          rw [e] at l; cases l; exact hn) (L.j.b.sublist (List.take_sublist _ _))).1, List.length_replicate]
      have hn : n < slots.toNat := by rw [← L.o]; exact (List.getElem?_eq_some_iff.mp ht).1
      have hg : ((Ms.take i).foldl (addR true) (List.replicate slots.toNat 0))[n]? = some (((Ms.take i).foldl (addR true) (List.replicate slots.toNat 0)).getD n 0) := by rw [List.getD_eq_getElem?_getD, List.getElem?_eq_getElem (by rw [hlen]; exact hn)]; rfl
      refine k_asg (g_v (v_I0 (v_ixL (v_var rfl) (v_fld (f := "slot") (v_var rfl) ol inferInstance rfl) ao9 (atZ_mapV (f := V.int) (atZ_nat hg))) (v_var rfl)) (g_sub (g_v (v_var rfl) (g_v (v_fld (f := "slot") (v_var rfl) ol inferInstance rfl) (g_setL ao9 (j := n) (atZ_ixM (f := V.int) (atZ_nat hg)) fun W10 a10 s10 => ?_)))))
      have s10' := SR.of ao9 s10
      refine ⟨W10, rfl, ⟨_, _, _, rfl⟩, z9.fresh nlo s10, ?_, ?_, am9.step s10' (by walk_at "no")⟩
      · rw [list_snoc_take hy, List.foldl_append]
        have : [y].foldl (addR false) ((Ms.take i).foldl (addR false) (List.replicate many.toNat 0)) = (Ms.take i).foldl (addR false) (List.replicate many.toNat 0) := by
          show addR false _ y = _
          unfold addR
          rw [ey]
          rfl
        rw [this]
        exact ai9.step s10' (by walk_at "no")
      · rw [list_snoc_take hy, List.foldl_append]
        rw [map_set'] at a10
        have : [y].foldl (addR true) ((Ms.take i).foldl (addR true) (List.replicate slots.toNat 0)) = ((Ms.take i).foldl (addR true) (List.replicate slots.toNat 0)).set n (((Ms.take i).foldl (addR true) (List.replicate slots.toNat 0)).getD n 0 + y.c) := by
          show addR true _ y = _
          unfold addR
          rw [ey]
          rfl
        rw [this]
        exact a10
  · rintro σ' W6 ⟨⟨v7, v8, v9, rfl⟩, z6, ai6, ao6, am6⟩
    rw [List.length_map, L.k.n, List.take_length] at ai6 ao6
    have e1 := L.j.told false
    have e2 := L.j.told true
    rw [show (M.ts false).length = many.toNat from L.i] at e1
    rw [show (M.ts true).length = slots.toNat from L.o] at e2
    rw [e1] at ai6
    rw [e2] at ao6
    refine k_seq (k_set (g_newT (some (.own 7)) fun d W7 n7 a7 s7 => ?_))
    have nd : W.H d = none := z6.live _ n7
    have L7 := L.n0 (z6.tr s7)
    refine k_seq (k_forL (v_var rfl) (SqL.of L7.k.k.h) (fun i σ' W' => (∃ v7 v8 v9 v11, σ' = [some (.ref A'.p), some (.ref kp), some (.int many), some (.int slots), some (.ref li), some (.ref lo), some (.ref lm), v7, v8, v9, some (.ref d), v11]) ∧ Step SNone W W' ∧ At W' (some (.own 5)) li (.lst (M.I.ts.map V.int)) ∧ At W' (some (.own 6)) lo (.lst (M.O.ts.map V.int)) ∧ At W' (some (.own 7)) d (.dT ((Ms.take i).map fun y => (y.lf.key, V.bl true))))
      ⟨⟨_, _, _, none, rfl⟩, z6.tr s7, ai6.step s7 (by walk_at "no"), ao6.step s7 (by walk_at "no"), a7⟩ (fun i σ' W' _ ⟨_, s, _⟩ => SqL.of (L.n0 s).k.k.h) ?_ ?_)
    · rintro i x σ' W8 hx ⟨⟨v7, v8, v9, v11, rfl⟩, z8, ai8, ao8, ad8⟩
      have L8 := L.n0 z8
      rw [List.getElem?_map] at hx
      obtain ⟨x, hxi, rfl⟩ := Option.map_eq_some_iff.mp hx
      have hi := (List.getElem?_eq_some_iff.mp hxi).1
      obtain ⟨y, hy⟩ : ∃ y, Ms[i]? = some y := ⟨_, List.getElem?_eq_getElem (by rw [← L.k.n]; exact hi)⟩
      have hym := List.mem_of_getElem? hy
      have R := L8.k.e i x y hxi hy
      have Rl := R.l
      have hput : ∀ (W9 : Wd) (p : Addr), Step SNone W8 W9 → At W9 none p (.tup (y.lf.key.map kV)) → ∀ σ9 : L2.St, (∃ v7 v8 v9 v11, σ9 = [some (V.ref A'.p), some (.ref kp), some (.int many), some (.int slots), some (.ref li), some (.ref lo), some (.ref lm), v7, v8, v9, some (.ref d), v11]) → ∃ a H4, V.ref d = .ref a ∧ DPut W9.H a (.ref p) (V.bl true) H4 ∧ ∃ W3, H4 = Wd.H W3 ∧ (∃ v7 v8 v9 v11, σ9 = [some (V.ref A'.p), some (.ref kp), some (.int many), some (.int slots), some (.ref li), some (.ref lo), some (.ref lm), v7, v8, v9, some (.ref d), v11]) ∧ Step SNone W W3 ∧ At W3 (some (.own 5)) li (.lst (M.I.ts.map V.int)) ∧ At W3 (some (.own 6)) lo (.lst (M.O.ts.map V.int)) ∧ At W3 (some (.own 7)) d (.dT ((Ms.take (i + 1)).map fun y => (y.lf.key, V.bl true))) := fun W9 p s9 ap σ9 hσ => by
        have ad9 := ad8.step s9 (by walk_at "no")
        refine g_dputT ad9 ap (by rw [List.length_map, List.length_take]; omega) fun W10 a10 s10 => ?_
        have s10' := SR.of ad9 s10
        refine ⟨W10, rfl, hσ, (z8.tr s9).fresh nd s10, (ai8.step s9 (by walk_at "no")).step s10' (by walk_at "no"), (ao8.step s9 (by walk_at "no")).step s10' (by walk_at "no"), ?_⟩
        rw [putK_new] at a10
        · rw [list_snoc_take hy, List.map_append]; exact a10
        · intro p hp e
          obtain ⟨z, hz, rfl⟩ := List.mem_map.mp hp
          have hpw := L.j.b.sublist (List.take_sublist (i + 1) Ms)
          rw [list_snoc_take hy] at hpw
          have hne := (List.pairwise_append.mp hpw).2.2 z hz y List.mem_cons_self
          have loc : ∀ u ∈ Ms, u.lf.loc ≠ none := fun u hu e => by
            obtain ⟨_, ⟨b, n, l, _⟩, _⟩ := L.j.a u hu
            rw [l] at e; cases e
          exact hne (key_inj (loc z (List.mem_of_mem_take hz)) (loc y hym) e)
      refine g_tname (k_dput (g_v v_c (g_v (v_var rfl) (g_op (g_sl ?_)))))
      rcases L.j.row hym with ⟨n, ey, ht, hw, hu⟩ | ⟨n, ey, ht, hw, hu⟩
      · rw [ey] at Rl
        obtain ⟨dl, ol⟩ := Rl.o
        refine g_inl (g_mt (v_ixL (v_var rfl) v_c R.r rfl) ol rfl (g_nil ⟨_, rfl, W8, x.l, dl, 3, n, rfl, rfl, ol, fun W9 t9 n9 s9 a9 => ?_⟩))
        refine g_noPart (g_part (g_slT a9 (show ¬ (HT.sIx 3 0 none = 0 ∧ HT.sIx 3 3 (some 1) = 3) by decide) fun p10 W10 n10 a10 s10 => ?_))
        have a10' : At W10 none p10 (.tup [V.str "held"]) := a10
        have s810 := s9.tr s10
        have ol10 := ol.step s810 (by walk_at "no")
        have R10 := R.r.step s810 (by walk_at "no")
        refine g_sl (g_inl (g_mt (v_ixL (v_var rfl) v_c R10 rfl) ol10 rfl (g_nil ⟨_, rfl, W10, x.l, dl, 3, n, rfl, rfl, ol10, fun W11 t11 n11 s11 a11 => ?_⟩)))
        refine g_part (g_noPart (g_slT a11 (show ¬ (HT.sIx 3 0 (some 2) = 0 ∧ HT.sIx 3 3 none = 3) by decide) fun p12 W12 n12 a12 s12 => ?_))
        have a12' : At W12 none p12 (.tup [V.int (n : Nat)]) := a12
        refine g_catT ((a10'.step s11 (by walk_at "no")).step s12 (by walk_at "no")) a12' (by simp) (by simp) rfl fun p13 W13 n13 a13 s13 => ?_
        exact hput W13 p13 (((s810.tr s11).tr s12).tr s13) (by rw [ey]; exact a13) _ ⟨_, _, _, _, rfl⟩
      · rw [ey] at Rl
        obtain ⟨dl, ol⟩ := Rl.o
        refine g_inr (g_mt (v_ixL (v_var rfl) v_c R.r rfl) ol rfl (g_nil ⟨_, rfl, W8, x.l, dl, 3, n, rfl, rfl, ol, fun W9 t9 n9 s9 a9 => ?_⟩))
        refine g_noPart (g_part (g_slT a9 (show ¬ (HT.sIx 3 0 none = 0 ∧ HT.sIx 3 3 (some 1) = 3) by decide) fun p10 W10 n10 a10 s10 => ?_))
        have a10' : At W10 none p10 (.tup [V.str "out"]) := a10
        have s810 := s9.tr s10
        have ol10 := ol.step s810 (by walk_at "no")
        have R10 := R.r.step s810 (by walk_at "no")
        refine g_sl (g_inr (g_mt (v_ixL (v_var rfl) v_c R10 rfl) ol10 rfl (g_nil ⟨_, rfl, W10, x.l, dl, 3, n, rfl, rfl, ol10, fun W11 t11 n11 s11 a11 => ?_⟩)))
        refine g_part (g_noPart (g_slT a11 (show ¬ (HT.sIx 3 0 (some 2) = 0 ∧ HT.sIx 3 3 none = 3) by decide) fun p12 W12 n12 a12 s12 => ?_))
        have a12' : At W12 none p12 (.tup [V.int (n : Nat)]) := a12
        refine g_catT ((a10'.step s11 (by walk_at "no")).step s12 (by walk_at "no")) a12' (by simp) (by simp) rfl fun p13 W13 n13 a13 s13 => ?_
        exact hput W13 p13 (((s810.tr s11).tr s12).tr s13) (by rw [ey]; exact a13) _ ⟨_, _, _, _, rfl⟩
    · rintro σ' W8 ⟨⟨v7, v8, v9, v11, rfl⟩, z8, ai8, ao8, ad8⟩
      rw [List.length_map, L.k.n, List.take_length] at ad8
      have L8 := L.n0 z8
      have o8 := o.step z8 (by walk_at "no")
      refine k_seq (k_if (g_or (g_test (g_op (g_cb (g_cons (g_v (v_var rfl) (g_nil (g_lenT ad8 ?_)))))))))
      refine g_v (v_len (v_var rfl) (len_l L8.k.k)) (g_ne rfl (g_bl ?_))
      have e5 : decide (V.int (((Ms.map fun y => (y.lf.key, V.bl true)).length : Nat) : Int) = V.int (((As.map fun x => V.ref x.r).length : Nat) : Int)) = true := decide_eq_true (by rw [List.length_map, List.length_map, L.k.n])
      rw [e5]
      refine iteF (g_test (g_op (g_mt (v_var rfl) o8 rfl (g_nil ⟨_, rfl, W8, m, _, M, rfl, rfl, L8.p, ?_⟩))))
      refine g_v (v_I0 (v_I0 (v_var rfl) (v_var rfl)) (v_len (v_var rfl) (len_l L8.k.k))) (g_ne rfl (g_bl ?_))
      have e6 : decide (V.int ((M.I.ts.count 0 + M.O.ts.count 0 : Nat) : Int) = V.int (many + slots - (((As.map fun x => V.ref x.r).length : Nat) : Int))) = true := decide_eq_true (by rw [f1, List.length_map, L.k.n])
      rw [e6]
      refine iteF (k_next (k_ret (g_andV (g_op (g_mt (v_var rfl) o8 rfl (g_nil ⟨_, rfl, W8, m, _, M, rfl, rfl, L8.p, fun W9 q9 n9 s9 a9 => ?_⟩))))))
      refine g_v (v_var rfl) (g_eqI a9 (ai8.step s9 (by walk_at "no")) ⟨true, by rw [decide_eq_true rfl], iteT ?_⟩)
      refine g_op (g_mt (v_var rfl) (o8.step s9 (by walk_at "no")) rfl (g_nil ⟨_, rfl, W9, m, _, M, rfl, rfl, (L8.n0 s9).p, fun W10 q10 n10 s10 a10 => ?_⟩))
      refine g_v (v_var rfl) (g_eqI a10 ((ao8.step s9 (by walk_at "no")).step s10 (by walk_at "no")) ?_)
      rw [decide_eq_true rfl]
      exact kQ W10 ((z8.tr s9).tr s10)
theorem ok__law_state (G : TX K mg) : CalX P w K mg base 6 "_law_state" (sp__law_state K) [] := let ⟨fd, F⟩ := G.F__law_state; cal_by G.g__law_state F (bd__law_state F) sc__law_state Sp4.len (body__law_state G (fd := fd))
end

theorem J.new {n k z : Int} : J (PlM.new n k z) [] where
  a := fun y h => absurd h (by simp)
  b := .nil
  c := fun b i c h hc => by
    have : c = 0 := by
      cases b
      · have h' : (List.replicate n.toNat (0 : Int))[i]? = some c := h
        rw [List.getElem?_replicate] at h'
        split at h'
        · exact (Option.some.inj h').symm
        · cases h'
      · have h' : (List.replicate k.toNat (0 : Int))[i]? = some c := h
        rw [List.getElem?_replicate] at h'
        split at h'
        · exact (Option.some.inj h').symm
        · cases h'
    exact absurd this hc
  d := by
    show (List.replicate n.toNat (0 : Int)).count 0 + (List.replicate k.toNat (0 : Int)).count 0 + 0 = (List.replicate n.toNat (0 : Int)).length + (List.replicate k.toNat (0 : Int)).length
    rw [List.count_replicate_self, List.count_replicate_self, List.length_replicate, List.length_replicate]
    rfl
  e := fun b => by
    cases b
    · show (List.replicate n.toNat ([] : List Int)).length = (List.replicate n.toNat (0 : Int)).length
      rw [List.length_replicate, List.length_replicate]
    · show (List.replicate k.toNat ([] : List Int)).length = (List.replicate k.toNat (0 : Int)).length
      rw [List.length_replicate, List.length_replicate]
def cutI (xs : List Int) (lo hi : Option Int) : List Int := (xs.drop (HT.sIx xs.length 0 lo)).take (HT.sIx xs.length xs.length hi - HT.sIx xs.length 0 lo)
theorem cutI_map (xs : List Int) (lo hi : Option Int) : cutV (xs.map V.int) lo hi = (cutI xs lo hi).map V.int := by
  unfold cutV cutI
  rw [List.length_map, List.map_take, List.map_drop]
def sp_law (K : PySem.W.Frag) : Sp := Sp1 fun a H Q E => ∃ W p xs, H = Wd.H W ∧ a = .ref p ∧ ScrAt K W p (List.map V.int xs) ∧ (∀ z ∈ xs, ib z ≤ 1048576) ∧ ∀ W', Q (.bl true) (Wd.H W')
section
variable {P : Program} {w : World} {K : PySem.W.Frag} {mg : Str → Option Value} {base : Heap}
theorem body_law (G : TX K mg) {fd : FuncData} {f : Addr} : BodyOk P w K mg base 9 ["_law_script", "_law_many", "_law_slots", "_law_size", "_law_pool", "_law_kept", "_law_raw", "_law_cell", "_law_full", "_law_before"] "law" (defScope s_law) f (defBody s_law) (sp_law K) := by
  have iT : TK K := G.tk
  rintro cdv A outer s H vs Q E hr tk po ⟨_, rfl, W, p, xs, rfl, rfl, S, hb, kQ⟩
  have hu := hu_of hr
  refine ⟨_, (pss_cons (ps_set (i := 1) sc_law.nd rfl (Or.inl rfl) (pe_op op_add pe_int (pe_op op_mod (pe_cl (ok__law_cell_at G) hr (by decide) tk (by rfl) (pa_cons (pv 0) (pa_cons pe_int pa_nil))) pe_int)))
        (pss_cons (ps_set (i := 2) sc_law.nd rfl (Or.inl rfl) (pe_op op_mod (pe_cl (ok__law_cell_at G) hr (by decide) tk (by rfl) (pa_cons (pv 0) (pa_cons pe_int pa_nil))) pe_int))
        (pss_cons (ps_set (i := 3) sc_law.nd rfl (Or.inl rfl) (pe_op op_add pe_int (pe_op op_mod (pe_cl (ok__law_cell_at G) hr (by decide) tk (by rfl) (pa_cons (pv 0) (pa_cons pe_int pa_nil))) pe_int)))
        (pss_cons (ps_set (i := 4) sc_law.nd rfl (Or.inl rfl) (pe_mk (ok_Pool_make G) hr (by decide) tk (by rfl) (pa_cons (pv 1) (pa_cons (pv 2) (pa_cons (pv 3) pa_nil)))))
        (pss_cons (ps_set (i := 5) sc_law.nd rfl (Or.inl rfl) (pe_lst pa_nil))
        (pss_cons (ps_for po rfl (pi_list (pe_slice sl_list (pv 0) (po_some pe_int) (po_some pe_int))) (pg_name (i := 6) sc_law.nd rfl (Or.inl rfl))
        (pss_cons (ps_set (i := 7) sc_law.nd rfl (Or.inl rfl) (pe_cl (ok__law_mixed G) hr (by decide) tk (by rfl) (pa_cons (pv 6) pa_nil)))
        (pss_cons (ps_set (i := 8) sc_law.nd rfl (Or.inl rfl) (pe_cmpR op_eq (pe_callB call_len (by rfl) G.b_len (by decide +kernel) (pa_cons (pv 5) pa_nil)) (pe_op op_add (pv 1) (pv 2)) (nomark _)))
        (pss_cons (ps_set (i := 9) sc_law.nd rfl (Or.inl rfl) (pe_callB call_len (by rfl) G.b_len (by decide +kernel) (pa_cons (pv 5) pa_nil)))
        (pss_cons (ps_if (pw_or (pt_not (pt_val (pe_cl (ok__law_done G) hr (by decide) tk (by rfl) (pa_cons (pv 4) (pa_cons (pv 5) (pa_cons (pv 7) (pa_cons (pv 3) pa_nil))))))) (pw_or1 (pt_not (pt_val (pe_cl (ok__law_state G) hr (by decide) tk (by rfl) (pa_cons (pv 4) (pa_cons (pv 5) (pa_cons (pv 1) (pa_cons (pv 2) pa_nil))))))))).pt (pss_one (ps_ret pe_bl)) pss_nil)
        (pss_one (ps_if (pw_and (pw_or (pt_cmpR op_lt (pe_op op_mod (pv 7) pe_int) pe_int (nomark _)) (pw_or1 (pt_cmpR op_eq (pv 9) pe_int (nomark _)))).pt (pw_and1 (pt_cmpR op_ne (pe_cmpR op_eq (pe_callB call_len (by rfl) G.b_len (by decide +kernel) (pa_cons (pv 5) pa_nil)) (pv 9) (nomark _)) (pv 8) (nomark _)))).pt (pss_one (ps_ret pe_bl)) pss_nil)))))))
        (pss_one (ps_ret pe_bl)))))))), ?_⟩
  try simp only [cxOf_K]
  refine k_seq (k_set (g_op (g_v v_c (g_op (g_cl (g_cons (g_v (v_var rfl) (g_cons (g_v v_c (g_nil ⟨_, _, rfl, p, xs, 0, rfl, rfl, S.sq, ?_⟩))))))))))
  refine g_v v_c (g_I (by decide) (g_I0 ?_))
  refine k_seq (k_set (g_op (g_cl (g_cons (g_v (v_var rfl) (g_cons (g_v v_c (g_nil ⟨_, _, rfl, p, xs, 1, rfl, rfl, S.sq, ?_⟩))))))))
  refine g_v v_c (g_I (by decide) ?_)
  refine k_seq (k_set (g_op (g_v v_c (g_op (g_cl (g_cons (g_v (v_var rfl) (g_cons (g_v v_c (g_nil ⟨_, _, rfl, p, xs, 2, rfl, rfl, S.sq, ?_⟩))))))))))
  refine g_v v_c (g_I (by decide) (g_I0 ?_))
  obtain ⟨many, hm⟩ : ∃ many, many = 1 + xs.getD 0 0 % 3 := ⟨_, rfl⟩
  obtain ⟨slots, hs⟩ : ∃ slots, slots = xs.getD 1 0 % 6 := ⟨_, rfl⟩
  obtain ⟨size, hz⟩ : ∃ size, size = 1 + xs.getD 2 0 % 4 := ⟨_, rfl⟩
  rw [← hm, ← hs, ← hz]
  have hr : 1 ≤ many ∧ many ≤ 64 ∧ 0 ≤ slots ∧ slots ≤ 64 ∧ 1 ≤ size ∧ size ≤ 64 := by omega
  clear hm hs hz
  refine k_seq (k_set (g_mk (g_cons (g_v (v_var rfl) (g_cons (g_v (v_var rfl) (g_cons (g_v (v_var rfl) (g_nil (mk_w none fun pp dp W1 n1 a1 s1 => ?_))))))))))
  refine ⟨_, _, _, _, rfl, W1, 0, pp, dp, many, slots, size, rfl, rfl, rfl, rfl, rfl, a1, fun hn => absurd hr hn, fun _ W2 A s2 hp C2 => ⟨rfl, ?_⟩⟩
  subst hp
  have z2 : Step SNone W W2 := s1.fresh n1 s2
  refine k_seq (k_set (g_lst (g_nil (new_lr (some (.own 1)) rfl fun kp W3 n3 a3 s3 => ?_))))
  have z3 := z2.tr s3
  have S3 := S.step z3 (by walk_at "no")
  have L3 : LW K W3 0 A kp many slots size (PlM.new many slots size) [] [] := ⟨C2.step s3 (fun a r _ => by walk_at "no"), ⟨a3, rfl, fun i x y e => by simp at e, fun i j x y e => by simp at e⟩, J.new, rfl, by simp [PlM.new], by simp [PlM.new], hr⟩
  refine k_seq (k_forLe (fun a W4 => Step SNone W3 W4 ∧ At W4 (some (.own 4)) a (.lst ((cutI xs (some 3) (some 80)).map V.int))) (fun Q' h => ?_) (fun a W4 ⟨s4, a4⟩ => ?_))
  · refine g_sl (g_v (v_var rfl) (g_part (g_part (g_slL (some (.own 4)) S3.sq fun a W4 n4 a4 s4 => h a W4 ⟨s4, ?_⟩))))
    rw [cutI_map] at a4
    exact a4
  · refine k_forL v_c (SqL.of a4.h) (fun i σ' W' => (∃ v6 v7 v8 v9, σ' = [some (.ref p), some (.int many), some (.int slots), some (.int size), some (.ref A.p), some (.ref kp), v6, v7, v8, v9]) ∧ Step SLaw W4 W' ∧ ∃ M As Ms, LW K W' 0 A kp many slots size M As Ms) ⟨⟨none, none, none, none, rfl⟩, Step.refl W4, _, _, _, L3.n0 s4⟩ (fun i σ' W' _ ⟨_, s, _⟩ => SqL.of (a4.step s (fun e => e.2 rfl)).h) ?_ ?_
    · rintro i x σ' W5 hx ⟨⟨v6, v7, v8, v9, rfl⟩, s5, M, As, Ms, L⟩
      rw [List.getElem?_map] at hx
      obtain ⟨raw, hraw, rfl⟩ := Option.map_eq_some_iff.mp hx
      have hmem : raw ∈ xs := List.mem_of_mem_drop (List.mem_of_mem_take (List.mem_of_getElem? hraw))
      refine g_tname (k_seq (k_set (g_cl (g_cons (g_v (v_var rfl) (g_nil ⟨_, rfl, raw, rfl, hb raw hmem, ?_⟩))))))
      have hlen := len_l (K := K) L.k.k
      have hl : (As.map fun x => V.ref x.r).length = Ms.length := by rw [List.length_map, L.k.n]
      rw [hl] at hlen
      refine k_seq (k_set (g_v (v_eq (v_len (v_var rfl) hlen) (v_I0 (v_var rfl) (v_var rfl)) rfl) ?_))
      refine k_seq (k_set (g_v (v_len (v_var rfl) hlen) ?_))
      refine k_seq (k_if (g_or (g_not (g_testB (g_cl (g_cons (g_v (v_var rfl) (g_cons (g_v (v_var rfl) (g_cons (g_v (v_var rfl) (g_cons (g_v (v_var rfl) (g_nil ?_))))))))))))))
      refine ⟨_, _, _, _, rfl, W5, 0, A, kp, many, slots, size, M, As, Ms, mixed raw, rfl, rfl, rfl, rfl, rfl, L, ib_mixed (hb raw hmem), fun W6 M6 As6 Ms6 s6 L6 hsame => g_bl ?_⟩
      refine iteF (g_not (g_testB (g_cl (g_cons (g_v (v_var rfl) (g_cons (g_v (v_var rfl) (g_cons (g_v (v_var rfl) (g_cons (g_v (v_var rfl) (g_nil ?_)))))))))))) 
      refine ⟨_, _, _, _, rfl, W6, 0, A, kp, many, slots, size, M6, As6, Ms6, rfl, rfl, rfl, rfl, rfl, L6, fun W7 s7 => g_bl ?_⟩
      refine iteF (k_next ?_)
      have L7 := L6.n0 s7
      have hlen7 := len_l (K := K) L7.k.k
      have hl7 : (As6.map fun x => V.ref x.r).length = Ms6.length := by rw [List.length_map, L6.k.n]
      rw [hl7] at hlen7
      have fin : ∃ W8 : Wd, W7.H = W8.H ∧ (∃ v6 v7 v8 v9, [some (V.ref p), some (V.int many), some (V.int slots), some (V.int size), some (V.ref A.p), some (V.ref kp), some (V.int raw), some (V.int (mixed raw)), some (V.bl (decide (V.int (Ms.length : Nat) = V.int (many + slots)))), some (V.int (Ms.length : Nat))] = [some (.ref p), some (.int many), some (.int slots), some (.int size), some (.ref A.p), some (.ref kp), v6, v7, v8, v9]) ∧ Step SLaw W4 W8 ∧ ∃ M As Ms, LW K W8 0 A kp many slots size M As Ms := ⟨W7, rfl, ⟨_, _, _, _, rfl⟩, (s5.tr s6).tr (SLaw.n0 s7), _, _, _, L7⟩
      have hI : ∀ a b : Int, decide (V.int a = V.int b) = decide (a = b) := fun a b => decide_eq_decide.mpr ⟨fun e => by injection e, fun e => by rw [e]⟩
      refine k_ifT (s_and (s_or (s_test (v_I0 (v_I (v_var rfl) v_c (by decide)) v_c)) fun _ => s_test (v_eq (v_var rfl) v_c rfl)) fun hd => s_test (v_ne (v_eq (v_len (v_var rfl) hlen7) (v_var rfl) rfl) (v_var rfl) rfl)) (fun h => ?_) (fun h => k_next fin)
      exfalso
      rw [hI, hI, hI] at h
      simp only [Bool.and_eq_true, Bool.or_eq_true, decide_eq_true_eq, Bool.not_eq_true', decide_eq_false_iff_not] at h
      obtain ⟨h1, h2⟩ := h
      have hc : mixed raw % 8 < 3 ∨ Ms.length = 0 := h1.imp id (fun e => by omega)
      refine h2 (congrArg V.bl (decide_eq_decide.mpr ⟨fun e => (hsame hc).mp (by omega), fun e => ?_⟩))
      have := (hsame hc).mpr e
      omega
    · rintro σ' W5 ⟨⟨v6, v7, v8, v9, rfl⟩, _⟩
      exact k_ret (g_v v_c (kQ W5))
theorem ok_law (G : TX K mg) : CalX P w K mg base 10 "law" (sp_law K) [] := let ⟨fd, F⟩ := G.F_law; cal_by G.g_law F (bd_law F) sc_law Sp1.len (body_law G (fd := fd))
end

theorem fin {P : Program} {w : World} {K : PySem.W.Frag} {h : Heap} {mg : Str → Option Value} {f : Addr} (G : TX K mg) (KX : K.In h) (hfa : mg "law" = some (.ref f)) :
    ∃ (K : PySem.W.Frag) (fd : FuncData) (sp : Sp), K.In h ∧ (∀ (s : Shared) (u : Value), BindsTo s fd ⟨[u], []⟩ [("_law_script", u)]) ∧
      (∀ (H : Hp) (a : Addr) (ns : List Int), ns.length ≤ 63 → (∀ z ∈ ns, Builtin.Int.intBits z ≤ 1048576) → Only H → SqL K H a (ns.map V.int) → sp [.ref a] H (fun v _ => v = .bl true) fun _ _ _ => False) ∧
      ∀ base : Heap, K.In base → base.Ns mainGlobals mg → FnOk P w K mg base (L2.CX P w) 10 f fd ["_law_script"] sp := by
  obtain ⟨fd, F⟩ := G.F_law
  have e := hfa.symm.trans G.g_law
  cases e
  have b := FunD.bindsA (ps := ["_law_script"]) F fun _ _ _ _ _ _ us hl => match us, hl with | [_], _ => rfl
  exact ⟨K, fd, sp_law K, KX, fun s u => b s [u] rfl, fun H a ns hl hb hO hS => ⟨_, rfl, ⟨H, fun _ => none, fun _ _ => rfl⟩, a, ns, rfl, rfl, ScrAt.of (fun _ => rfl) hS, hb, fun W' => rfl⟩, fun base _ _ => fn_by F sc_law Sp1.len (body_law G (fd := fd))⟩
set_option maxHeartbeats 0
abbrev R : PySem.W.OpenRow := PySem.W.OpenLaw.row PySem.Challenge.rw_leafframe_k29_pool_contents
abbrev hk : PySem.W.Hook := hookY 5 fa fn exB
def ob (s : PySem.W.SharedT) : He.AlD × Bool := obsY 5 fa fn exB (HandSHeadRun.getT s)
theorem ob_eq (s : PySem.W.SharedT) : ob s = hk.obs s.abs := obsY_eq (HandSHeadRun.getT_eq s)
def loose : List PySem.Str := (["_wall", "__name__", "LeafError", "NoShape", "NoAddress", "NoNumber", "Full", "NoWord", "NoRights", "MOST_FRAMES", "Hand", "READ", "WRITE", "Leaf", "Held", "Out", "MOST_NUMBERS", "Counts", "MOST_WORDS", "is_word", "Store", "moved_by", "count_in", "Pool", "_law_cell_at", "_law_words", "_law_moved", "_law_made", "_law_fetched", "_law_put"] : List PySem.Str) ++ ((["_law_done", "_law_state", "_law_mixed"] : List PySem.Str))
theorem run (w : World) : HandSHeadRun.RunEq R (PySem.W.view R.prog [39]) hk ob 60000 loose w := by
  intro os
  kernel_rfl

end LF
set_option maxHeartbeats 0
open PySem PySem.W PySem.Calls PyProof.Rows in
theorem PySem.Challenge.cw_leafframe_k29_pool_contents_holds : PySem.Challenge.rw_leafframe_k29_pool_contents.Holds := by
  w_on; o_law
  refine HandSHeadRun.head_any (r := OpenLaw.row PySem.Challenge.rw_leafframe_k29_pool_contents) (q := view (OpenLaw.row PySem.Challenge.rw_leafframe_k29_pool_contents).prog [39]) (H := LF.hk) (ob := LF.ob) (M := 60000) (loose := LF.loose) (d := HandSHeadRun.topDef (OpenLaw.row PySem.Challenge.rw_leafframe_k29_pool_contents).prog 39) (kwd := []) LF.ob_eq
    (by kernel_rfl) (fun s => by kernel_rfl) LF.run (by kernel_rfl) (by kernel_rfl) (by kernel_rfl) (by rfl) (by first | assumption | decide +kernel) (by decide +kernel) ⟨rfl, rfl, rfl, rfl, rfl, by decide +kernel⟩ ?hw ?hc
  case hw => w_witness2
  case hc =>
    refine L2.walk_ofEB (l := PySem.Challenge.rw_leafframe_k29_pool_contents) (n := 63) (k := 10) (x := "_law_script") (CX := fun w => L2.CX (PySem.Challenge.rw_leafframe_k29_pool_contents).prog w) rfl (by decide) (by kernel_rfl) ⟨rfl, by decide, by decide⟩ ?F (fun w H s e s' h => by
      obtain ⟨_, _, _, _, _, _, _, _, _, _, _, _, h⟩ := h
      exact h)
    intro w mg f h Y G hmg0
    obtain ⟨K, KX, c⟩ := Y
    have hmg : mg ("law" : PySem.Str) = some (.ref f) := by
      have e : (HandSHeadRun.topDef (OpenLaw.row PySem.Challenge.rw_leafframe_k29_pool_contents).prog 39).name = ("law" : PySem.Str) := by kernel_rfl
      rw [← e]
      exact hmg0
    exact LF.fin (w := w) ⟨⟨c.1, c.2⟩, h, KX, G⟩ KX hmg

