import PyProof.Rows.All
import Wide.All
import OpenK.AllK
import Wide.FinOn
import Lean
import PySem.Challenge.RW_pq0002_01
open PySem PySem.W PyProof.Rows PySem.Calls
set_option Elab.async false
set_option maxRecDepth 100000
set_option maxHeartbeats 8000000
set_option linter.all false
namespace Mine
def view : Program := { PySem.Challenge.pw_pq0002_01 with main := { PySem.Challenge.pw_pq0002_01.main with body := ((((PySem.Challenge.pw_pq0002_01.main.body.eraseIdx 16).eraseIdx 11).eraseIdx 9).eraseIdx 5).eraseIdx 1 } }
abbrev loo : List Str := [Str.ofString "A", Str.ofString "B", Str.ofString "C"]
abbrev lvs : List (Str × WData) := [(Str.ofString "A", WData.tuple [WData.str { cps := #[63, 97] }]), (Str.ofString "B", WData.tuple [WData.str { cps := #[63, 98] }]), (Str.ofString "C", WData.tuple [WData.str { cps := #[63, 99] }])]
theorem said9 : OpenLaw.wellSaid PySem.Challenge.rw_pq0002_01 = true := by kernel_rfl
local macro_rules | `(tactic| o_law) => `(tactic| refine holds_law said9 fun said => ?_)
local macro_rules | `(tactic| k_qdec) => `(tactic| kernel_rfl)
local macro_rules | `(tactic| o_head $H:term) => `(tactic| (apply holds_open (q := view) (loose := loo) (Xt := fun s => xlAt view lvs s && recOk (RowW.records (OpenRow.toRowW PySem.Challenge.rw_pq0002_01.row)) s) (XP := XL view lvs) (Yf := Hook.obs $H) (Ya := Hook.val $H) (YP := Hook.says $H) (N := 3696) (left := by refine LeftO.of_split "special-get-raises" ?_; intro w; kernel_rfl) (hY := Hook.of $H) (hYk := Hook.keeps $H) (hX := fun s e => xl_of s (Bool.and_eq_true_iff.mp e).1) (hXk := XL.keeps) (hdef := by rfl) (hp := by rfl) (hk := by rfl) (hRf := fun s e => recFacts_of (Bool.and_eq_true_iff.mp e).2) (hwr := by rfl) (k1 := by first | assumption | decide +kernel) (ok := by decide +kernel) (hb := ⟨rfl, rfl, rfl, rfl, rfl, by decide +kernel⟩)))
open_top hd for PySem.Challenge.rw_pq0002_01
local macro_rules | `(tactic| k_lt $h:ident) => `(tactic| skip)
local macro_rules | `(tactic| walk_at $s:str) => `(tactic| k_extra $s)
local macro_rules | `(tactic| k_all) => `(tactic| k_extra "my k_all")
local macro_rules | `(tactic| k_enter) => `(tactic| k_extra "my k_enter")
local macro_rules | `(tactic| k_inst) => `(tactic| k_extra "my k_inst")
local macro_rules | `(tactic| k_mem) => `(tactic| k_extra "my k_mem")
local macro_rules | `(tactic| k_ne) => `(tactic| k_extra "my k_ne")
local macro_rules | `(tactic| k_room) => `(tactic| k_extra "my k_room")
local macro_rules | `(tactic| k_units) => `(tactic| k_extra "my k_units")
local macro_rules | `(tactic| ktr_room) => `(tactic| k_extra "my ktr_room")
local macro_rules | `(tactic| ktr_units) => `(tactic| k_extra "my ktr_units")
local macro_rules | `(tactic| omega) => `(tactic| k_extra "my omega")
local macro_rules | `(tactic| units_room) => `(tactic| k_extra "my units_room")
local macro_rules | `(tactic| x_close) => `(tactic| k_extra "my x_close")
theorem o1 {a b c : Nat} (h : a ≤ b) (e : Nat.ble b c = true) : a ≤ c := Nat.le_trans h (Nat.le_of_ble_eq_true e)
theorem o2 {a b c : Nat} (h : a < b) (e : Nat.ble b c = true) : a < c := Nat.lt_of_lt_of_le h (Nat.le_of_ble_eq_true e)
theorem o3 {a b c : Nat} (h : a ≤ b) (e : Nat.ble (b + 1) c = true) : a < c := Nat.lt_of_le_of_lt h (Nat.le_of_ble_eq_true e)
theorem o4 {a b c : Nat} (h : a < b) (e : Nat.ble b (c + 1) = true) : a ≤ c := Nat.le_of_lt_succ (o2 h e)
theorem o5 {a b c d : Nat} (h : a < b) (e : Nat.ble (c + b) d = true) : a + c < d := Nat.lt_of_lt_of_le (Nat.add_lt_add_right h c) (Nat.add_comm c b ▸ Nat.le_of_ble_eq_true e)
theorem o6 {a b c d x : Nat} (h : a < b) (e : Nat.ble (c + x + b) d = true) : a + c + x < d := Nat.add_assoc a c x ▸ o5 h e
theorem o7 {a b c d : Nat} (h : a ≤ b) (e : Nat.ble (b + c) d = true) : a + c ≤ d := Nat.le_trans (Nat.add_le_add_right h c) (Nat.le_of_ble_eq_true e)
theorem o8 {a b c d : Nat} (h : a ≤ b) (e : Nat.ble (c + b) d = true) : c + a ≤ d := Nat.le_trans (Nat.add_le_add_left h c) (Nat.le_of_ble_eq_true e)
theorem o9 {a b c d : Nat} (h : a < b) (e : Nat.ble (c + b) (d + 1) = true) : a + c ≤ d := Nat.le_of_lt_succ (o5 h e)
theorem p1 {a k x b C X : Nat} (h : a < b) (hx : x ≤ X) (e : Nat.ble (b + k * X) C = true) : a + k * x < C := Nat.lt_of_lt_of_le (Nat.add_lt_add_of_lt_of_le h (Nat.mul_le_mul_left k hx)) (Nat.le_of_ble_eq_true e)
theorem p2 {a k x b c C X : Nat} (h : a < b) (hx : x ≤ X) (e : Nat.ble (c + b + k * X) C = true) : a + c + k * x < C := p1 (o5 h (Nat.ble_eq_true_of_le (Nat.le_refl _))) hx e
theorem p3 {a k x b c d C X : Nat} (h : a < b) (hx : x ≤ X) (e : Nat.ble (c + d + b + k * X) C = true) : a + c + d + k * x < C := p1 (o6 h (Nat.ble_eq_true_of_le (Nat.le_refl _))) hx e
theorem p4 {a k x y b c C : Nat} (h : a + k * x < b) (hx : y + 1 ≤ x) (e : (Nat.ble c k && Nat.ble b C) = true) : a + c + k * y < C := by
  have e' := (Bool.and_eq_true_iff.mp e)
  refine Nat.lt_of_lt_of_le (Nat.lt_of_le_of_lt ?_ h) (Nat.le_of_ble_eq_true e'.2)
  rw [Nat.add_assoc, Nat.add_comm c]
  exact Nat.add_le_add_left (Nat.le_trans (Nat.add_le_add_left (Nat.le_of_ble_eq_true e'.1) _) (Nat.mul_le_mul_left k hx)) a
theorem p5 {a X b c C : Nat} (h : a + X < b) (e : Nat.ble (c + b) C = true) : a + c + X < C := Nat.add_right_comm a X c ▸ o5 h e
theorem p6 {a W k x b c C X : Nat} (h : a + W < b) (hx : x ≤ X) (e : (Nat.ble (c + k * X) W && Nat.ble b C) = true) : a + c + k * x < C := by
  have e' := (Bool.and_eq_true_iff.mp e)
  rw [Nat.add_assoc]
  exact Nat.lt_of_lt_of_le (Nat.lt_of_le_of_lt (Nat.add_le_add_left (Nat.le_trans (Nat.add_le_add_left (Nat.mul_le_mul_left k hx) c) (Nat.le_of_ble_eq_true e'.1)) a) h) (Nat.le_of_ble_eq_true e'.2)
theorem q1 {a b c d : Nat} (h : a = b) (h2 : b ≤ c) (e : Nat.ble c d = true) : a ≤ d := h ▸ o1 h2 e
theorem q2 {a b c d : Nat} (h : a ≤ b) (h2 : b < c) (e : Nat.ble c d = true) : a < d := Nat.lt_of_le_of_lt h (o2 h2 e)
theorem q3 {a b c d : Nat} (h : a ≤ b) (h2 : b < c) (e : Nat.ble c (d + 1) = true) : a ≤ d := Nat.le_of_lt_succ (q2 h h2 e)
theorem q4 {a b c d x : Nat} (h : a ≤ b) (h2 : b < c) (e : Nat.ble (x + c) d = true) : a + x < d := o5 (Nat.lt_of_le_of_lt h h2) e
theorem q5 {a b c d : Nat} (h : a < b) (h2 : b < c) (e : Nat.ble c d = true) : a < d := Nat.lt_trans h (o2 h2 e)
theorem q6 {a b c d : Nat} (h : a + b ≤ c) (e : Nat.ble c d = true) : a ≤ d := Nat.le_trans (Nat.le_add_right a b) (o1 h e)
theorem q7 {a b B C d : Nat} (h : a ≤ B) (h2 : b ≤ C) (e : Nat.ble (B + C) d = true) : a + b ≤ d := Nat.le_trans (Nat.add_le_add h h2) (Nat.le_of_ble_eq_true e)
theorem q8 {a b B d : Nat} (h : a ≤ B) (h2 : b ≤ B) (e : Nat.ble B d = true) : max a b ≤ d := Nat.le_trans (Nat.max_le.mpr ⟨h, h2⟩) (Nat.le_of_ble_eq_true e)
theorem q9 {a b d : Nat} (h : a ≤ d) (h2 : b ≤ d) : max a b + 1 ≤ d + 1 := Nat.succ_le_succ (Nat.max_le.mpr ⟨h, h2⟩)
theorem o0 {a b c : Nat} (h : a ≤ b) (e : Nat.ble b c = true) : 0 + a ≤ c := (Nat.zero_add a).symm ▸ o1 h e
theorem q0 {a b c d : Nat} (h : a + b ≤ c) (e : Nat.ble c d = true) : b + a ≤ d := Nat.add_comm a b ▸ o1 h e
theorem r0 {a b c d : Nat} (h : b + a ≤ c) (e : Nat.ble c d = true) : a ≤ d := Nat.le_trans (Nat.le_add_left a b) (o1 h e)
theorem r1 {a x y c d : Nat} (h : y = x) (h2 : a + x ≤ c) (e : Nat.ble c d = true) : a + y ≤ d := h ▸ o1 h2 e
theorem r2 {a b c : Nat} (h : a ≤ b + 1) (h2 : b ≤ c) : a ≤ c + 1 := Nat.le_trans h (Nat.succ_le_succ h2)
theorem r4 {a b c : Nat} (h : a = b + 1) (h2 : b ≤ c) : a ≤ c + 1 := h ▸ Nat.succ_le_succ h2
theorem r5 {a b c d f : Nat} (h : a = b + 1) (h2 : b ≤ c) (h3 : c < d) (e : Nat.ble (1 + d) f = true) : a < f := h ▸ q4 h2 h3 e
theorem r6 {y v p B C : Nat} (h : y = v) (h2 : v ≤ p) (h3 : p ≤ B) (e : Nat.ble (B + 1) C = true) : y < C := h ▸ o3 (Nat.le_trans h2 h3) e
theorem r7 {a y v p B C : Nat} (h0 : a ≤ y) (h : y = v) (h2 : v ≤ p) (h3 : p ≤ B) (e : Nat.ble B C = true) : a ≤ C := Nat.le_trans h0 (h ▸ o1 (Nat.le_trans h2 h3) e)
theorem r8 {a b c B d : Nat} (h : a ≤ b + c) (h2 : b ≤ B) (e : Nat.ble (B + c) d = true) : a ≤ d := Nat.le_trans h (o7 h2 e)
theorem r9 {V : Nat} : V + V ≤ 3 * V := Nat.two_mul V ▸ Nat.mul_le_mul_right V (by decide)
theorem i1 {k : Int} (h : 0 ≤ k) : 0 ≤ k + 1 := Int.add_nonneg h (by decide)
theorem i2 {k l : Int} (h : k + 1 ≤ l) : k ≤ l := Int.le_of_lt h
theorem i3 {k l m : Int} (h : k + 1 ≤ l) (h2 : l ≤ m) : k ≤ m := Int.le_trans (Int.le_of_lt h) h2
theorem i4 {k l : Int} (h2 : k + 1 ≤ l) (h : 0 ≤ k) : 0 ≤ l := Int.le_trans h (Int.le_of_lt h2)
theorem i5 {k l : Int} (h2 : k ≤ l) (h : 0 ≤ k) : 0 ≤ l := Int.le_trans h h2
theorem i6 {k : Int} : k ≤ k + 1 := Int.le_of_lt (Int.lt_succ k)
theorem i7 {k : Int} : k ≤ k + 1 + 1 := Int.le_trans i6 i6
theorem i8 {c l : Int} (h : c ≤ l) (e : (0 : Int) ≤ c) : 0 ≤ l := Int.le_trans e h
theorem i9 {c l : Int} (h : c ≤ l) (e : (0 : Int) ≤ c) : 0 ≤ l + 1 := i1 (i8 h e)
theorem j1 {f : Int} {d : Nat} (h : f = ((d + 1 : Nat) : Int)) : 0 < f := h ▸ Int.natCast_pos.mpr (Nat.succ_pos d)
theorem j2 {f : Int} {d : Nat} (h : f = ((d + 1 : Nat) : Int)) : f - 1 = (d : Int) := h ▸ Int.add_sub_cancel (d : Int) 1
theorem j3 {n B : Nat} {C : Int} (h : n ≤ B) (e : (B : Int) < C) : (n : Int) < C := Int.lt_of_le_of_lt (Int.ofNat_le.mpr h) e
theorem j4 {n B : Nat} {C : Int} (h : n ≤ B) (e : (B : Int) ≤ C) : (n : Int) ≤ C := Int.le_trans (Int.ofNat_le.mpr h) e
theorem j5 {n : Nat} {C : Int} (e : C < 0) : C < (n : Int) := Int.lt_of_lt_of_le e (Int.natCast_nonneg n)
theorem j6 {n B : Nat} {C : Nat} (h : n ≤ B) (e : Nat.ble (B + 1) C = true) : (n : Int).natAbs < C := o3 (show (n : Int).natAbs ≤ B from h) e
theorem j7 {x y : Nat} (h : x ≤ y) : (x : Int) ≤ (y : Int) := Int.ofNat_le.mpr h
theorem j8 {k C D : Int} (h : k < C) (e : C ≤ D) : k < D := Int.lt_of_lt_of_le h e
theorem j9 {k C D c : Int} (h : k < C) (e : C + c ≤ D) : k + c < D := Int.lt_of_lt_of_le (Int.add_lt_add_right h _) e
theorem j0 {k l C D c : Int} (h : k ≤ l + c) (h2 : l < C) (e : C + c ≤ D) : k < D := Int.lt_of_le_of_lt h (j9 h2 e)
theorem l1 {k C D : Int} (h : k ≤ C) (e : C < D) : k < D := Int.lt_of_le_of_lt h e
theorem l2 {k C D c : Int} (h : k ≤ C) (e : C + c < D) : k + c < D := Int.lt_of_le_of_lt (Int.add_le_add_right h c) e
theorem l3 {n C : Nat} {D : Int} (h : (n : Int) < (C : Int)) (e : (C : Int) ≤ D) : (n : Int) < D := Int.lt_of_lt_of_le h e
theorem z4 {r : Int} (h : 0 ≤ r) (h2 : r < 4) : r = 0 ∨ r = 1 ∨ r = 2 ∨ r = 3 :=
  match r, h, h2 with
  | (n : Nat), _, h2 => match n, Int.ofNat_lt.mp h2 with
    | 0, _ => .inl rfl
    | 1, _ => .inr (.inl rfl)
    | 2, _ => .inr (.inr (.inl rfl))
    | 3, _ => .inr (.inr (.inr rfl))
theorem z6 {r : Int} (_ : 0 ≤ r) (h2 : r < 6) : r < 2 ∨ r = 2 ∨ (3 ≤ r ∧ r ≤ 5) :=
  (Int.lt_or_le r 2).imp_right fun h => (Int.lt_or_eq_of_le h).elim (fun h => .inr ⟨h, Int.le_of_lt_add_one h2⟩) fun h => .inl h.symm
theorem z3 {r : Int} (h : 3 ≤ r ∧ r ≤ 5) : r = 3 ∨ r = 4 ∨ r = 5 :=
  (Int.lt_or_eq_of_le h.1).elim (fun h1 => (Int.lt_or_eq_of_le (show (4 : Int) ≤ r from h1)).elim (fun h2 => .inr (.inr (Int.le_antisymm h.2 h2))) fun h2 => .inr (.inl h2.symm)) fun h1 => .inl h1.symm
theorem z2 {r : Int} (h : 3 ≤ r ∧ r ≤ 5) (h2 : r < 2) : False := absurd (Int.lt_of_le_of_lt h.1 h2) (by decide)
theorem w10 : True := by
  w_top off
  k_with_none
  k_with "my omega" => (first
      | ((with_reducible show @LE.le Nat _ _ _); first | exact Nat.le_of_ble_eq_true rfl | with_reducible (first | exact o1 ‹_› (by decide) | exact o4 ‹_› (by decide) | exact o7 ‹_› (by decide) | exact o8 ‹_› (by decide) | exact o9 ‹_› (by decide) | exact q6 ‹_› (by decide) | exact q0 ‹_› (by decide) | exact r0 ‹_› (by decide) | exact q1 ‹_› ‹_› (by decide) | exact q3 ‹_› ‹_› (by decide) | exact q7 ‹_› ‹_› (by decide) | exact q8 ‹_› ‹_› (by decide) | exact q9 ‹_› ‹_› | exact r1 ‹_› ‹_› (by decide) | exact r2 ‹_› ‹_› | exact r4 ‹_› ‹_› | exact r8 ‹_› ‹_› (by decide) | exact o0 ‹_› (by decide) | exact Nat.add_le_add ‹_› ‹_› | exact Nat.le_add_left _ _ | exact Nat.le_of_lt ‹_›))
      | ((with_reducible show @LT.lt Nat _ _ _); first | exact Nat.le_of_ble_eq_true rfl | with_reducible (first | exact o2 ‹_› (by decide) | exact o3 ‹_› (by decide) | exact o5 ‹_› (by decide) | exact o6 ‹_› (by decide) | exact p5 ‹_› (by decide) | exact j6 ‹_› (by decide) | exact q2 ‹_› ‹_› (by decide) | exact q4 ‹_› ‹_› (by decide) | exact q5 ‹_› ‹_› (by decide) | exact p1 ‹_› ‹_› (by decide) | exact p2 ‹_› ‹_› (by decide) | exact p3 ‹_› ‹_› (by decide) | exact p4 ‹_› ‹_› (by decide) | exact p6 ‹_› ‹_› (by decide)))
      | ((with_reducible show @LE.le Int _ _ _); first | decide +kernel | with_reducible (first | exact i1 ‹_› | exact i2 ‹_› | exact i6 | exact i7 | exact j7 ‹_› | exact j4 ‹_› (by decide +kernel) | exact i8 ‹_› (by decide +kernel) | exact i9 ‹_› (by decide +kernel) | exact i3 ‹_› ‹_› | exact i4 ‹_› ‹_› | exact i5 ‹_› ‹_›))
      | ((with_reducible show @LT.lt Int _ _ _); first | decide +kernel | with_reducible (first | exact j1 ‹_› | exact j5 (by decide +kernel) | exact j3 ‹_› (by decide +kernel) | exact j8 ‹_› (by decide +kernel) | exact j9 ‹_› (by decide +kernel) | exact l1 ‹_› (by decide +kernel) | exact l2 ‹_› (by decide +kernel) | exact l3 ‹_› (by decide +kernel) | exact j0 ‹_› ‹_› (by decide +kernel)))
      | ((with_reducible show @Ne Nat _ _); with_reducible (first | exact Nat.ne_of_gt ‹_› | exact Nat.ne_of_lt ‹_› | exact Nat.succ_ne_self _ | exact (Nat.succ_ne_self _).symm))
      | with_reducible (first | exact j2 ‹_› | exact z4 ‹_› ‹_› | exact z6 ‹_› ‹_› | exact z3 ‹_› | exact z2 ‹_› ‹_›))
  trivial
theorem warm (w : World) : hd.heap_1 w.params = hd.heap_1 w.params ∧ PySem.Challenge.rw_pq0002_01 = PySem.Challenge.rw_pq0002_01 := by
  k_fill
  exact ⟨rfl, rfl⟩
noncomputable abbrev LO : List Str := looseW view [Str.ofString "A", Str.ofString "B", Str.ofString "C"]
abbrev stockObj (lc : Addr) (k : Int) (tk : Tok) (n : Nat) : Obj := listOf #[.ref lc, .int k tk] n
abbrev tupObj (vs : Array Value) (n : Nat) : Obj := { cls := .type "tuple", data := .seq vs n }
def Ret (Q : Value → Shared → Prop) (v : Value) (s : Shared) : Prop := Q v s
theorem ret_of {α : Type} {M : Model} {A : Around} {t : Sem Value} {Q : Value → Shared → Prop} {E : Value → Shared → Prop} {s : Shared} (h : wpAny M A t (Ret Q) E s) : wpAny M A t Q E s := wpAny_mono h (fun _ _ h => h) fun _ _ h => h
inductive Nm | zero | x | y | succ
def Nm.str : Nm → Str
  | .zero => Str.ofString "zero"
  | .x => Str.ofString "x"
  | .y => Str.ofString "y"
  | .succ => Str.ofString "succ"

inductive Tm | nm (n : Nm) | suc (t : Tm) | plus (t u : Tm) | times (t u : Tm)
def Tm.depth : Tm → Nat
  | .nm _ => 0
  | .suc t => t.depth + 1
  | .plus t u => max t.depth u.depth + 1
  | .times t u => max t.depth u.depth + 1

inductive TmIn (news : List (Addr × Obj)) : Value → Tm → Prop where
  | nm {a : Addr} {tk : Tok} {n : Nm} {e : Nat} : (a, tupObj #[.str n.str tk] e) ∈ news → TmIn news (.ref a) (.nm n)
  | suc {a : Addr} {tk : Tok} {e : Nat} {v : Value} {t : Tm} : (a, tupObj #[.str (Str.ofString "succ") tk, v] e) ∈ news → TmIn news v t → TmIn news (.ref a) (.suc t)
  | plus {a : Addr} {tk : Tok} {e : Nat} {v u : Value} {t r : Tm} : (a, tupObj #[.str (Str.ofString "plus") tk, v, u] e) ∈ news → TmIn news v t → TmIn news u r → TmIn news (.ref a) (.plus t r)
  | times {a : Addr} {tk : Tok} {e : Nat} {v u : Value} {t r : Tm} : (a, tupObj #[.str (Str.ofString "times") tk, v, u] e) ∈ news → TmIn news v t → TmIn news u r → TmIn news (.ref a) (.times t r)
theorem TmIn.mono {news news' : List (Addr × Obj)} {v : Value} {t : Tm} (h : TmIn news v t) (hs : ∀ p ∈ news, p ∈ news') : TmIn news' v t := by
  induction h with
  | nm hm => exact .nm (hs _ hm)
  | suc hm _ ih => exact .suc (hs _ hm) ih
  | plus hm _ _ ih1 ih2 => exact .plus (hs _ hm) ih1 ih2
  | times hm _ _ ih1 ih2 => exact .times (hs _ hm) ih1 ih2

abbrev namesObj (t1 t2 t3 t4 : Tok) (n : Nat) : Obj := listOf #[.str (Str.ofString "zero") t1, .str (Str.ofString "x") t2, .str (Str.ofString "y") t3, .str (Str.ofString "succ") t4] n

def pw : Nat → Nat
  | 0 => 1
  | n + 1 => 2 * pw n + 1
theorem ne_of_lt_all {l tl : List (Addr × Obj)} {b : Addr} {o : Obj} (h : ∀ q ∈ l, ∀ p ∈ tl, q.1 < p.1) (hm : (b, o) ∈ l) : ∀ p ∈ tl, p.1 ≠ b := fun p hp => Nat.ne_of_gt (h _ hm p hp)
theorem Off3.append {I C D : Addr} : ∀ {l r : List (Addr × Obj)}, LCg.Off3 I C D l → LCg.Off3 I C D r → LCg.Off3 I C D (l ++ r)
  | [], _, _, h => h
  | _ :: _, _, h1, h2 => ⟨h1.1, Off3.append h1.2 h2⟩
theorem Off3.of_sub {I C D : Addr} {l r : List (Addr × Obj)} (h : ∀ p ∈ l, p.1 ≠ I ∧ p.1 ≠ C ∧ p.1 ≠ D) (hs : ∀ p ∈ r, p ∈ l) : LCg.Off3 I C D r := LCg.Off3.of fun p hp => h p (hs p hp)
theorem Off3.of_lt {I C D : Addr} {oI oC oD : Obj} {l r : List (Addr × Obj)} (h : ∀ q ∈ l, ∀ p ∈ r, q.1 < p.1) (hI : (I, oI) ∈ l) (hC : (C, oC) ∈ l) (hD : (D, oD) ∈ l) : LCg.Off3 I C D r := LCg.Off3.of fun p hp => ⟨Nat.ne_of_gt (h _ hI p hp), Nat.ne_of_gt (h _ hC p hp), Nat.ne_of_gt (h _ hD p hp)⟩
theorem off_at {I C D b : Addr} {o : Obj} {l : List (Addr × Obj)} (h : ∀ p ∈ l, p.1 ≠ I ∧ p.1 ≠ C ∧ p.1 ≠ D) (hm : (b, o) ∈ l) : (@Ne Nat b I) ∧ (@Ne Nat b C) ∧ (@Ne Nat b D) := h _ hm
theorem off_I {I C D b : Addr} {o : Obj} {l : List (Addr × Obj)} (h : ∀ p ∈ l, p.1 ≠ I ∧ p.1 ≠ C ∧ p.1 ≠ D) (hm : (b, o) ∈ l) : @Ne Nat I b := fun e => (h _ hm).1 e.symm
theorem off_C {I C D b : Addr} {o : Obj} {l : List (Addr × Obj)} (h : ∀ p ∈ l, p.1 ≠ I ∧ p.1 ≠ C ∧ p.1 ≠ D) (hm : (b, o) ∈ l) : @Ne Nat C b := fun e => (h _ hm).2.1 e.symm
theorem off_D {I C D b : Addr} {o : Obj} {l : List (Addr × Obj)} (h : ∀ p ∈ l, p.1 ≠ I ∧ p.1 ≠ C ∧ p.1 ≠ D) (hm : (b, o) ∈ l) : @Ne Nat D b := fun e => (h _ hm).2.2 e.symm
theorem allLt_left {D : Addr} {l r : List (Addr × Obj)} (h : AllLt D (l ++ r)) : ∀ p ∈ l, p.1 < D := fun p hp => tb_ltOf h p (List.mem_append_left _ hp)
theorem AllNe.append {α : Type} {P : α → Prop} {l r : List α} (h1 : ∀ p ∈ l, P p) (h2 : ∀ p ∈ r, P p) : ∀ p ∈ l ++ r, P p := fun p hp => (List.mem_append.mp hp).elim (h1 p) (h2 p)

def Tm.data : Tm → PyData
  | .nm n => .tuple [.str n.str]
  | .suc t => .tuple [.str (Str.ofString "succ"), t.data]
  | .plus t u => .tuple [.str (Str.ofString "plus"), t.data, u.data]
  | .times t u => .tuple [.str (Str.ofString "times"), t.data, u.data]
def Tm.isZero : Tm → Bool
  | .nm .zero => true
  | _ => false
theorem TmIn.reads {h₀ h : Heap} {L : Addr} {news : List (Addr × Obj)} {v : Value} {t : Tm} (N : News h₀ L h news) (hin : TmIn news v t) : ∃ as, Reads h v t.data as := by
  induction hin with
  | nm hm => exact ⟨_, .tuple (N _ hm).1 rfl rfl (.cons (.str _ _) .nil)⟩
  | suc hm _ ih => obtain ⟨as, ih⟩ := ih; exact ⟨_, .tuple (N _ hm).1 rfl rfl (.cons (.str _ _) (.cons ih .nil))⟩
  | plus hm _ _ ih1 ih2 => obtain ⟨as, ih1⟩ := ih1; obtain ⟨bs, ih2⟩ := ih2; exact ⟨_, .tuple (N _ hm).1 rfl rfl (.cons (.str _ _) (.cons ih1 (.cons ih2 .nil)))⟩
  | times hm _ _ ih1 ih2 => obtain ⟨as, ih1⟩ := ih1; obtain ⟨bs, ih2⟩ := ih2; exact ⟨_, .tuple (N _ hm).1 rfl rfl (.cons (.str _ _) (.cons ih1 (.cons ih2 .nil)))⟩
theorem Nm.ok (n : Nm) : PyData.canLay0 (.str n.str) = true := by cases n <;> decide +kernel
theorem op_ok : PyData.canLay0 (.str (Str.ofString "succ")) = true ∧ PyData.canLay0 (.str (Str.ofString "plus")) = true ∧ PyData.canLay0 (.str (Str.ofString "times")) = true ∧ PyData.canLay0 (.str (Str.ofString "zero")) = true := by decide +kernel
theorem Tm.canLay (t : Tm) : t.data.canLay0 = true := by
  induction t with
  | nm n => simp only [Tm.data, PyData.canLay0, PyData.canLayAll0, Bool.and_true]; exact n.ok
  | suc t ih => simp only [Tm.data, PyData.canLayAll0, Bool.and_true, Bool.and_eq_true]; rw [PyData.canLay0]; simp only [PyData.canLayAll0, Bool.and_true, Bool.and_eq_true]; exact ⟨op_ok.1, ih⟩
  | plus t u ih1 ih2 => simp only [Tm.data]; rw [PyData.canLay0]; simp only [PyData.canLayAll0, Bool.and_true, Bool.and_eq_true]; exact ⟨op_ok.2.1, ih1, ih2⟩
  | times t u ih1 ih2 => simp only [Tm.data]; rw [PyData.canLay0]; simp only [PyData.canLayAll0, Bool.and_true, Bool.and_eq_true]; exact ⟨op_ok.2.2.1, ih1, ih2⟩
theorem Tm.dataDepth (t : Tm) : t.data.depth = t.depth + 1 := by
  induction t with
  | nm n => simp [Tm.data, PyData.depth, PyData.depthAll, Tm.depth]
  | suc t ih => simp [Tm.data, PyData.depth, PyData.depthAll, Tm.depth, ih]
  | plus t u ih1 ih2 => simp [Tm.data, PyData.depth, PyData.depthAll, Tm.depth, ih1, ih2]
  | times t u ih1 ih2 => simp [Tm.data, PyData.depth, PyData.depthAll, Tm.depth, ih1, ih2]
theorem strs_ne : ((Str.ofString "succ" == Str.ofString "zero") = false ∧ (Str.ofString "plus" == Str.ofString "zero") = false ∧ (Str.ofString "times" == Str.ofString "zero") = false) := by decide +kernel
theorem Tm.eqv_zero (t : Tm) : PyData.eqv t.data (.tuple [.str (Str.ofString "zero")]) = t.isZero := by
  cases t with
  | nm n => cases n <;> (simp only [Tm.data, PyData.eqv, PyData.eqvAll, Tm.isZero, Bool.and_true, Nm.str]; decide +kernel)
  | suc t => simp only [Tm.data, PyData.eqv, PyData.eqvAll, Tm.isZero, strs_ne.1, Bool.false_and]
  | plus t u => simp only [Tm.data, PyData.eqv, PyData.eqvAll, Tm.isZero, strs_ne.2.1, Bool.false_and]
  | times t u => simp only [Tm.data, PyData.eqv, PyData.eqvAll, Tm.isZero, strs_ne.2.2, Bool.false_and]
section
variable {prog : Program} {w : World} {A : Around} {E : Value → Shared → Prop} {s : Shared} {h₀ : Heap} {L a z : Addr} {news all : List (Addr × Obj)} {t : Tm} {tk : Tok} {e : Nat} {Q : Value → Shared → Prop}
theorem eq_zero (N : News h₀ L s.heap all) (hin : TmIn news (.ref a) t) (hs : ∀ p ∈ news, p ∈ all) (hz : (z, tupObj #[.str (Str.ofString "zero") tk] e) ∈ all) (hd : t.depth ≤ 60) (hu : A.units + 64 < cLine) (h : Q (.bool t.isZero) s) :
    wpAny (model prog w) A (compareOp .Eq (.ref a) (.ref z)) Q E s := by
  obtain ⟨as, R⟩ := (hin.mono hs).reads N
  refine eq_dataH R (reads_tuple_at (N _ hz).1 rfl rfl (.cons (.str _ _) .nil)) ?_ ?_ hu (by rw [Tm.eqv_zero]; exact h)
  · show (t.data.canLay0 && decide (t.data.depth ≤ 64)) = true
    rw [Tm.canLay, Tm.dataDepth]; simp; omega
  · decide +kernel
theorem eq_zero_f (N : News h₀ L s.heap all) (hin : TmIn news (.ref a) t) (hs : ∀ p ∈ news, p ∈ all) (hz : (z, tupObj #[.str (Str.ofString "zero") tk] e) ∈ all) (ht : t.isZero = false) (hd : t.depth ≤ 60) (hu : A.units + 64 < cLine) (h : Q (.bool false) s) :
    wpAny (model prog w) A (compareOp .Eq (.ref a) (.ref z)) Q E s := eq_zero N hin hs hz hd hu (by rw [ht]; exact h)
theorem eq_zero_t (N : News h₀ L s.heap all) (hin : TmIn news (.ref a) t) (hs : ∀ p ∈ news, p ∈ all) (hz : (z, tupObj #[.str (Str.ofString "zero") tk] e) ∈ all) (ht : t.isZero = true) (hd : t.depth ≤ 60) (hu : A.units + 64 < cLine) (h : Q (.bool true) s) :
    wpAny (model prog w) A (compareOp .Eq (.ref a) (.ref z)) Q E s := eq_zero N hin hs hz hd hu (by rw [ht]; exact h)
end
theorem newsCons {h₀ h : Heap} {L : Addr} {p : Addr × Obj} {news : List (Addr × Obj)} (N : News h₀ L h news) (hm : p ∈ news) : News h₀ L h (p :: news) := fun q hq => by
  rcases List.mem_cons.mp hq with rfl | hq
  · exact N _ hm
  · exact N _ hq
theorem for1 {α : Type} {P : α → Prop} {t : α} (h : P t) {q : α} (e : q = t ∨ q = t) : P q := e.elim (fun e => e ▸ h) fun e => e ▸ h
theorem for2 {α : Type} {P : α → Prop} {t r : α} (h1 : P t) (h2 : P r) {q : α} (e : q = t ∨ q = r) : P q := e.elim (fun e => e ▸ h1) fun e => e ▸ h2
theorem rm0 {a B C : Nat} (h : a < B) (e : Nat.ble B C = true) : a < C := Nat.lt_of_lt_of_le h (Nat.le_of_ble_eq_true e)
theorem rm1 {a B c C : Nat} (h : a < B) (e : Nat.ble (c + B) C = true) : a + c < C := o5 h e
theorem rm2 {a x B C : Nat} (h : a + x < B) (e : Nat.ble B C = true) : a < C := Nat.lt_of_le_of_lt (Nat.le_add_right a x) (o2 h e)
theorem rm3 {a x B c C : Nat} (h : a + x < B) (e : Nat.ble (c + B) C = true) : a + c < C := o5 (Nat.lt_of_le_of_lt (Nat.le_add_right a x) h) e
theorem rm7 {a x B c C : Nat} (h : a + x < B) (e : Nat.ble (c + B) C = true) : a + c + x < C := p5 h e
theorem rm8 {a k x b C : Nat} (h : x ≤ b) (e : Nat.ble (a + k * b + 1) C = true) : a + k * x < C := Nat.lt_of_le_of_lt (Nat.add_le_add_left (Nat.mul_le_mul_left k h) a) (Nat.le_of_ble_eq_true e)
theorem le3i {n : Nat} (h : (n : Int) < 4) : n ≤ 3 := Nat.le_of_lt_succ (Int.ofNat_lt.mp h)
theorem le2i {n : Nat} (h : (n : Int) < 3) : n ≤ 2 := Nat.le_of_lt_succ (Int.ofNat_lt.mp h)
theorem rm4 {a k x B c C : Nat} (h : a + k * (x + 1) < B) (e : (Nat.ble c k && Nat.ble B C) = true) : a + c + k * x < C := p4 h (Nat.le_refl _) e
theorem rm5 {a k x y B c C : Nat} (h : a + k * (max x y + 1) < B) (e : (Nat.ble c k && Nat.ble B C) = true) : a + c + k * x < C := rm4 (Nat.lt_of_le_of_lt (Nat.add_le_add_left (Nat.mul_le_mul_left k (Nat.succ_le_succ (Nat.le_max_left x y))) a) h) e
theorem rm6 {a k x y B c C : Nat} (h : a + k * (max x y + 1) < B) (e : (Nat.ble c k && Nat.ble B C) = true) : a + c + k * y < C := rm4 (Nat.lt_of_le_of_lt (Nat.add_le_add_left (Nat.mul_le_mul_left k (Nat.succ_le_succ (Nat.le_max_right x y))) a) h) e
theorem um1 {a B c d : Nat} (h : a < B) (e : Nat.ble (c + d + B) 9900 = true) : a + c + d < cLine := cLine_is ▸ o6 h e
theorem um2 {a x B c d : Nat} (h : a + x < B) (e : Nat.ble (c + d + B) 9900 = true) : a + c + d < cLine := um1 (Nat.lt_of_le_of_lt (Nat.le_add_right a x) h) e
theorem um3 {a B c : Nat} (h : a < B) (e : Nat.ble (c + B) 9900 = true) : a + c < cLine := cLine_is ▸ o5 h e
theorem um5 {a B c d x : Nat} (h : a < B) (e : Nat.ble (c + (d + x) + B) 9900 = true) : a + c + d + x < cLine := by rw [Nat.add_assoc (a + c)]; exact um1 h e
theorem um4 {a x B c : Nat} (h : a + x < B) (e : Nat.ble (c + B) 9900 = true) : a + c < cLine := um3 (Nat.lt_of_le_of_lt (Nat.le_add_right a x) h) e
theorem dm0 {x B : Nat} (h : x + 1 ≤ B) : x ≤ B := Nat.le_of_succ_le h
theorem dm1 {x y B : Nat} (h : max x y + 1 ≤ B) : x ≤ B := Nat.le_trans (Nat.le_max_left x y) (Nat.le_of_succ_le h)
theorem dm2 {x y B : Nat} (h : max x y + 1 ≤ B) : y ≤ B := Nat.le_trans (Nat.le_max_right x y) (Nat.le_of_succ_le h)
theorem sub_self (l : List (Addr × Obj)) : ∀ p ∈ l, p ∈ l := fun _ h => h
theorem sub_cons {a : Addr × Obj} {l r : List (Addr × Obj)} (h : ∀ p ∈ l, p ∈ r) : ∀ p ∈ l, p ∈ a :: r := fun p hp => .tail _ (h p hp)
theorem sub_left {l r q : List (Addr × Obj)} (h : ∀ p ∈ l, p ∈ r) : ∀ p ∈ l, p ∈ r ++ q := fun p hp => List.mem_append_left _ (h p hp)
theorem sub_right {l r q : List (Addr × Obj)} (h : ∀ p ∈ l, p ∈ r) : ∀ p ∈ l, p ∈ q ++ r := fun p hp => List.mem_append_right _ (h p hp)
section
variable {g h : Heap} {L : Addr} {cm : Str → Option Value} {n₁ n₂ n₃ n₄ n₅ : Str} {c₁ c₂ c₃ c₄ c₅ : Addr} {news : List (Addr × Obj)} {R : Prop}
theorem cells_in1 (k : ∀ o₁, o₁.data = .cell (cm n₁) → News g L h ((c₁, o₁) :: news) → R) {cells : List (Addr × Obj)} (N : News g L h (cells ++ news)) (Y : CellsAre cm [(n₁, c₁)] cells) : R := by
  obtain ⟨o₁, rfl, h₁⟩ := Y.one; exact k o₁ h₁ N
theorem cells_in2 (k : ∀ o₁ o₂, o₁.data = .cell (cm n₁) → o₂.data = .cell (cm n₂) → News g L h ((c₁, o₁) :: (c₂, o₂) :: news) → R) {cells : List (Addr × Obj)} (N : News g L h (cells ++ news)) (Y : CellsAre cm [(n₁, c₁), (n₂, c₂)] cells) : R := by
  obtain ⟨o₁, o₂, rfl, h₁, h₂⟩ := Y.two; exact k o₁ o₂ h₁ h₂ N
theorem cells_in3 (k : ∀ o₁ o₂ o₃, o₁.data = .cell (cm n₁) → o₂.data = .cell (cm n₂) → o₃.data = .cell (cm n₃) → News g L h ((c₁, o₁) :: (c₂, o₂) :: (c₃, o₃) :: news) → R) {cells : List (Addr × Obj)} (N : News g L h (cells ++ news)) (Y : CellsAre cm [(n₁, c₁), (n₂, c₂), (n₃, c₃)] cells) : R := by
  obtain ⟨o₁, o₂, o₃, rfl, h₁, h₂, h₃⟩ := Y.three; exact k o₁ o₂ o₃ h₁ h₂ h₃ N
theorem cells_in4 (k : ∀ o₁ o₂ o₃ o₄, o₁.data = .cell (cm n₁) → o₂.data = .cell (cm n₂) → o₃.data = .cell (cm n₃) → o₄.data = .cell (cm n₄) → News g L h ((c₁, o₁) :: (c₂, o₂) :: (c₃, o₃) :: (c₄, o₄) :: news) → R) {cells : List (Addr × Obj)} (N : News g L h (cells ++ news)) (Y : CellsAre cm [(n₁, c₁), (n₂, c₂), (n₃, c₃), (n₄, c₄)] cells) : R := by
  obtain ⟨o₁, o₂, o₃, o₄, rfl, h₁, h₂, h₃, h₄⟩ := Y.four; exact k o₁ o₂ o₃ o₄ h₁ h₂ h₃ h₄ N
end
section
variable {α : Type} {a x₁ x₂ x₃ x₄ x₅ x₆ x₇ x₈ : α} {l : List α}
theorem mem_p1 : a ∈ x₁ :: a :: l := .tail _ (.head _)
theorem mem_p2 : a ∈ x₁ :: x₂ :: a :: l := .tail _ (.tail _ (.head _))
theorem mem_p3 : a ∈ x₁ :: x₂ :: x₃ :: a :: l := .tail _ (.tail _ (.tail _ (.head _)))
theorem mem_p4 : a ∈ x₁ :: x₂ :: x₃ :: x₄ :: a :: l := .tail _ (.tail _ (.tail _ (.tail _ (.head _))))
theorem mem_p5 : a ∈ x₁ :: x₂ :: x₃ :: x₄ :: x₅ :: a :: l := .tail _ (.tail _ (.tail _ (.tail _ (.tail _ (.head _)))))
theorem mem_p6 : a ∈ x₁ :: x₂ :: x₃ :: x₄ :: x₅ :: x₆ :: a :: l := .tail _ (.tail _ (.tail _ (.tail _ (.tail _ (.tail _ (.head _))))))
theorem mem_p7 : a ∈ x₁ :: x₂ :: x₃ :: x₄ :: x₅ :: x₆ :: x₇ :: a :: l := .tail _ (.tail _ (.tail _ (.tail _ (.tail _ (.tail _ (.tail _ (.head _)))))))
theorem mem_p8 : a ∈ x₁ :: x₂ :: x₃ :: x₄ :: x₅ :: x₆ :: x₇ :: x₈ :: a :: l := .tail _ (.tail _ (.tail _ (.tail _ (.tail _ (.tail _ (.tail _ (.tail _ (.head _))))))))
theorem mem_up8 (h : a ∈ l) : a ∈ x₁ :: x₂ :: x₃ :: x₄ :: x₅ :: x₆ :: x₇ :: x₈ :: l := .tail _ (.tail _ (.tail _ (.tail _ (.tail _ (.tail _ (.tail _ (.tail _ (h))))))))
end
section
variable {D X a : Addr} {o : Obj} {l r : List (Addr × Obj)}
theorem lt_all (h : ∀ p ∈ l, p.1 < D) (hm : (a, o) ∈ l) : @LT.lt Nat _ a D := h _ hm
theorem ne_gt9 (h : ∀ p ∈ l, p.1 < D) (hm : (a, o) ∈ l) : @Ne Nat D a := Nat.ne_of_gt (h _ hm)
theorem ne_lt9 (h : ∀ p ∈ l, p.1 < D) (hm : (a, o) ∈ l) : @Ne Nat a D := Nat.ne_of_lt (h _ hm)
theorem ne_gt_u1 (h : ∀ p ∈ l, p.1 < D) (hm : (a, o) ∈ l) : @Ne Nat (D + 1) a := Nat.ne_of_gt (Nat.lt_of_lt_of_le (h _ hm) (Nat.le_add_right D 1))
theorem ne_lt_u1 (h : ∀ p ∈ l, p.1 < D) (hm : (a, o) ∈ l) : @Ne Nat a (D + 1) := Nat.ne_of_lt (Nat.lt_of_lt_of_le (h _ hm) (Nat.le_add_right D 1))
theorem ne_gt_u2 (h : ∀ p ∈ l, p.1 < D) (hm : (a, o) ∈ l) : @Ne Nat (D + 1 + 1) a := Nat.ne_of_gt (Nat.lt_of_lt_of_le (h _ hm) (Nat.le_add_right D 2))
theorem ne_lt_u2 (h : ∀ p ∈ l, p.1 < D) (hm : (a, o) ∈ l) : @Ne Nat a (D + 1 + 1) := Nat.ne_of_lt (Nat.lt_of_lt_of_le (h _ hm) (Nat.le_add_right D 2))
theorem ne_gt_u3 (h : ∀ p ∈ l, p.1 < D) (hm : (a, o) ∈ l) : @Ne Nat (D + 1 + 1 + 1) a := Nat.ne_of_gt (Nat.lt_of_lt_of_le (h _ hm) (Nat.le_add_right D 3))
theorem ne_lt_u3 (h : ∀ p ∈ l, p.1 < D) (hm : (a, o) ∈ l) : @Ne Nat a (D + 1 + 1 + 1) := Nat.ne_of_lt (Nat.lt_of_lt_of_le (h _ hm) (Nat.le_add_right D 3))
theorem ne_gt_u4 (h : ∀ p ∈ l, p.1 < D) (hm : (a, o) ∈ l) : @Ne Nat (D + 1 + 1 + 1 + 1) a := Nat.ne_of_gt (Nat.lt_of_lt_of_le (h _ hm) (Nat.le_add_right D 4))
theorem ne_lt_u4 (h : ∀ p ∈ l, p.1 < D) (hm : (a, o) ∈ l) : @Ne Nat a (D + 1 + 1 + 1 + 1) := Nat.ne_of_lt (Nat.lt_of_lt_of_le (h _ hm) (Nat.le_add_right D 4))
theorem all_ne_u0 (h : ∀ p ∈ r, p.1 < D) (hs : ∀ p ∈ l, p ∈ r) : ∀ p ∈ l, p.1 ≠ D := fun p hp => Nat.ne_of_lt (Nat.lt_of_lt_of_le (h p (hs p hp)) (Nat.le_add_right D 0))
theorem all_ne_u1 (h : ∀ p ∈ r, p.1 < D) (hs : ∀ p ∈ l, p ∈ r) : ∀ p ∈ l, p.1 ≠ D + 1 := fun p hp => Nat.ne_of_lt (Nat.lt_of_lt_of_le (h p (hs p hp)) (Nat.le_add_right D 1))
theorem all_ne_u2 (h : ∀ p ∈ r, p.1 < D) (hs : ∀ p ∈ l, p ∈ r) : ∀ p ∈ l, p.1 ≠ D + 1 + 1 := fun p hp => Nat.ne_of_lt (Nat.lt_of_lt_of_le (h p (hs p hp)) (Nat.le_add_right D 2))
theorem all_ne_u3 (h : ∀ p ∈ r, p.1 < D) (hs : ∀ p ∈ l, p ∈ r) : ∀ p ∈ l, p.1 ≠ D + 1 + 1 + 1 := fun p hp => Nat.ne_of_lt (Nat.lt_of_lt_of_le (h p (hs p hp)) (Nat.le_add_right D 3))
theorem all_ne_u4 (h : ∀ p ∈ r, p.1 < D) (hs : ∀ p ∈ l, p ∈ r) : ∀ p ∈ l, p.1 ≠ D + 1 + 1 + 1 + 1 := fun p hp => Nat.ne_of_lt (Nat.lt_of_lt_of_le (h p (hs p hp)) (Nat.le_add_right D 4))
theorem lt_all_u1 {a : Addr} {o : Obj} (h : ∀ p ∈ l, p.1 < D) (hm : (a + 1, o) ∈ l) : @LT.lt Nat _ a D := Nat.lt_of_le_of_lt (Nat.le_add_right a 1) (h _ hm)
theorem lt_all_u2 {a : Addr} {o : Obj} (h : ∀ p ∈ l, p.1 < D) (hm : (a + 1 + 1, o) ∈ l) : @LT.lt Nat _ a D := Nat.lt_of_le_of_lt (Nat.le_add_right a 2) (h _ hm)
theorem lt_all_u3 {a : Addr} {o : Obj} (h : ∀ p ∈ l, p.1 < D) (hm : (a + 1 + 1 + 1, o) ∈ l) : @LT.lt Nat _ a D := Nat.lt_of_le_of_lt (Nat.le_add_right a 3) (h _ hm)
theorem lt_all_u4 {a : Addr} {o : Obj} (h : ∀ p ∈ l, p.1 < D) (hm : (a + 1 + 1 + 1 + 1, o) ∈ l) : @LT.lt Nat _ a D := Nat.lt_of_le_of_lt (Nat.le_add_right a 4) (h _ hm)
theorem allLt_sub (h : ∀ p ∈ l, p.1 < D) (hs : ∀ p ∈ r, p ∈ l) : AllLt D r := allLt_of fun p hp => h p (hs p hp)
end
theorem news_of {h₀ h : Heap} {L : Addr} {l all : List (Addr × Obj)} (N : News h₀ L h all) (hs : ∀ p ∈ l, p ∈ all) : News h₀ L h l := fun p hp => N p (hs p hp)
theorem sub_tr {l r q : List (Addr × Obj)} (h : ∀ p ∈ l, p ∈ r) (h2 : ∀ p ∈ r, p ∈ q) : ∀ p ∈ l, p ∈ q := fun p hp => h2 p (h p hp)
theorem off1_mem {D : Addr} {l : List (Addr × Obj)} (h : LCg.Off1 D l) : ∀ p ∈ l, p.1 ≠ D := by
  induction l with
  | nil => intro p hp; cases hp
  | cons q l ih =>
    intro p hp
    rcases List.mem_cons.mp hp with rfl | hp
    · exact h.1
    · exact ih h.2 p hp
theorem ne_all9 {D a : Addr} {o : Obj} {l : List (Addr × Obj)} (h : ∀ p ∈ l, p.1 ≠ D) (hm : (a, o) ∈ l) : @Ne Nat a D := h _ hm
theorem ne_all9s {D a : Addr} {o : Obj} {l : List (Addr × Obj)} (h : ∀ p ∈ l, p.1 ≠ D) (hm : (a, o) ∈ l) : @Ne Nat D a := Ne.symm (h _ hm)
theorem all_ne_sub9 {D : Addr} {l r : List (Addr × Obj)} (h : ∀ p ∈ l, p.1 ≠ D) (hs : ∀ p ∈ r, p ∈ l) : ∀ p ∈ r, p.1 ≠ D := fun p hp => h p (hs p hp)
theorem sub_ex {n i : Nat} (h : i < n) : ∃ j, n - i = j + 1 := ⟨(n - i).pred, (Nat.succ_pred_eq_of_pos (Nat.sub_pos_of_lt h)).symm⟩
theorem sub_lt3 {n i : Nat} (h : i < n) : n + 1 - (i + 1) < n + 1 - i := by rw [Nat.succ_sub (Nat.le_of_lt h), Nat.succ_sub_succ]; exact Nat.lt_succ_self _
theorem sub_eq3 {n i j : Nat} (h : n - i = j + 1) : n - (i + 1) = j := congrArg Nat.pred h
theorem le_suc3 {a b c : Nat} (h : a ≤ b) (h2 : b ≤ c) : a ≤ c + 1 := Nat.le_succ_of_le (Nat.le_trans h h2)
section
variable {prog : Program} {w : World} {A : Around} {E : Value → Shared → Prop} {s : Shared} {h₀ : Heap} {L : Addr} {m : Str → Option Value} {env : Env}
def TupSrc (prog : Program) (w : World) (A : Around) (h₀ : Heap) (L : Addr) (m : Str → Option Value) (env : Env) (elt : Expr) (x : Str) (scope : Scope) (cl : List (Str × Addr)) (Fin : Shared → List Value → List (Addr × Obj) → Prop) (xv : Value) (s₁ : Shared) : Prop :=
  ∃ ax its k news, xv = .ref ax ∧ A.handled = none ∧ Fr h₀ L s₁.heap m ∧ News h₀ L s₁.heap news ∧ (ax, tupObj its k) ∈ news ∧ its.size ≤ sizeLine ∧
    ∀ g, LCg.CompRest prog w A h₀ L m env elt x scope cl { s₁ with heap := g } (fun nw => (ax, tupObj its k) ∈ nw) (fun i v => its[i]? = some v) (Fin { s₁ with heap := g }) its.size 0 [] news
theorem TupSrc.of {elt : Expr} {x : Str} {scope : Scope} {cl : List (Str × Addr)} {Fin : Shared → List Value → List (Addr × Obj) → Prop} {ax : Addr} {its : Array Value} {k : Nat} {news : List (Addr × Obj)} {s₁ : Shared}
    (hh : A.handled = none) (F : Fr h₀ L s₁.heap m) (N : News h₀ L s₁.heap news) (hm : (ax, tupObj its k) ∈ news) (hsz : its.size ≤ sizeLine)
    (h : ∀ g, LCg.CompRest prog w A h₀ L m env elt x scope cl { s₁ with heap := g } (fun nw => (ax, tupObj its k) ∈ nw) (fun i v => its[i]? = some v) (Fin { s₁ with heap := g }) its.size 0 [] news) :
    TupSrc prog w A h₀ L m env elt x scope cl Fin (.ref ax) s₁ := ⟨ax, its, k, news, rfl, hh, F, N, hm, hsz, h⟩
theorem comp_tup {elt iter : Expr} {x : Str} {px : Pos} {scope : Scope} {cl : List (Str × Addr)} {pos : Pos} {Q : Value → Shared → Prop} (_F₀ : Fr h₀ L s.heap m)
    (hclos : closureFor scope env = pure cl) (hcell : ∀ y ∈ scope.names, y.2 ≠ .cell) (hkind : scope.kind = .function)
    (hnames : ∀ y ∈ scope.names, y.2 = .local → scope.names.lookup y.1 = some .local) (hx : scope.names.lookup x = some .local)
    (h : wpAny (model prog w) A (eval iter env) (fun xv s₁ => TupSrc prog w A h₀ L m env elt x scope cl (fun s₂ => LCg.FinE h₀ L m s₂ Q) xv s₁) E s)
    (hs : ∀ x, foldedSetIterable iter env x = pure x := by intro _; rfl) :
    wpAny (model prog w) A (eval (.ListComp elt [⟨.Name x px, iter, [], 0⟩] scope pos) env) Q E s := by
  rw [eval_ListComp]
  refine wpAny_comprehension_free (use := none) rfl hs hclos hkind hnames (wpAny_mono h (fun xv s₁ h₁ => ?_) fun _ _ e => e)
  obtain ⟨ax, its, k, news, rfl, hh, F, N, hm, hsz, R⟩ := h₁
  have ht : s₁.heap.IsTuple ax its := ⟨_, (N _ hm).1, rfl, _, rfl⟩
  have hlt : ax < s₁.heap.objs.size := Heap.lt_size (N _ hm).1
  refine wpAny_pyIter_tuple ht ?_
  have up : ∀ b o, s₁.heap.get? b = some o → (s₁.heap.push { cls := .type "tuple_iterator", data := .fields #[.ref ax, .int 0 0] }).get? b = some o := fun b o e => Heap.get?_push_of_some _ e
  refine LCg.block_U (Walks.tuple hh s₁.heap.objs.size ax (Nat.ne_of_lt hlt) its) hsz (fun i h st => ?_) (fun i h h' o nw st e e' kk NN S => ?_) hcell hkind hx ⟨⟨_, Heap.get?_push_size _ rfl, rfl, rfl⟩, ht.push _⟩ (fun b hb => ?_)
    (F.keeps up) (N.grown up) (Nat.ne_of_lt F.ns.lt) (next_is_new F) (fun p hp => Nat.ne_of_lt (Heap.lt_size (N p hp).1)) hm (R _) ?_
  · obtain ⟨o, e, _⟩ := st.1
    exact ⟨o, e⟩
  · refine ⟨?_, ⟨_, (NN _ S).1, rfl, _, rfl⟩⟩
    obtain ⟨o', q, r⟩ := st.1
    rw [e] at q
    cases q
    exact ⟨o, e', r⟩
  · show b < (s₁.heap.push _).objs.size
    rw [Heap.size_push]
    rcases List.mem_cons.mp hb with rfl | hb
    · exact Nat.lt_succ_self _
    · rw [List.mem_singleton.mp hb]; exact Nat.lt_succ_of_lt hlt
  · intro D C h tk m' ys news' F' N' o1 hn hC₀ hD₀ hCL hDL hCD offC fin
    refine ⟨m', hn, fun h'' hs'' => fin D h'' tk (F'.change hs'' hCL hC₀) (fun p hp => ?_) o1⟩
    refine ⟨hs''.extBut _ _ ?_ (N' p hp).1, (N' p hp).2⟩
    rcases List.mem_cons.mp hp with rfl | hp
    · exact Ne.symm hCD
    · exact offC p hp
theorem comp_tup_assign {elt iter : Expr} {x y : Str} {px py : Pos} {scope : Scope} {cl : List (Str × Addr)} {pos spos : Pos} {Q : Flow → Shared → Prop} (_F₀ : Fr h₀ L s.heap m) (hLe : env.locals = L)
    (hsw : swapsWith (.ListComp elt [⟨.Name x px, iter, [], 0⟩] scope pos) (some (.Name y py)) spos.line env = pure true)
    (hclos : closureFor scope env = pure cl) (hcell : ∀ z ∈ scope.names, z.2 ≠ .cell) (hkind : scope.kind = .function)
    (hnames : ∀ z ∈ scope.names, z.2 = .local → scope.names.lookup z.1 = some .local) (hx : scope.names.lookup x = some .local)
    (hy : env.kindOf y = some .local) (hp : (env.scope.kind == .class || (env.scope.kind == .module && env.locals != env.globals)) = false)
    (h : wpAny (model prog w) A (eval iter env) (fun xv s₁ => TupSrc prog w A h₀ L m env elt x scope cl (fun s₂ => LCg.FinA h₀ L m s₂ y Q) xv s₁) E s)
    (hs : ∀ x, foldedSetIterable iter env x = pure x := by intro _; rfl) :
    wpAny (model prog w) A (exec (.Assign [.Name y py] (.ListComp elt [⟨.Name x px, iter, [], 0⟩] scope pos) spos) env) Q E s := by
  subst hLe
  rw [exec_Assign_Name_used _ _ _ _ hsw]
  refine wpAny_bind (wpAny_standAt (wpAny_bind ?_))
  show wpAny _ A (do let _ ← comprehension (.ListComp elt [⟨.Name x px, iter, [], 0⟩] scope pos) scope env _ (newList []) false (eval iter env) (some (assign (.Name y py) env))) _ _ s
  refine wpAny_bind (wpAny_mono (wpAny_comprehension_free (use := some (assign (.Name y py) env)) (Q := fun _ s' => Q .next s') rfl hs hclos hkind hnames
    (wpAny_mono h (fun xv s₁ h₁ => ?_) fun _ _ e => e)) (fun _ s' hq => wpAny_pure (wpAny_pure hq)) fun _ _ e => e)
  obtain ⟨ax, its, k, news, rfl, hh, F, N, hm, hsz, R⟩ := h₁
  have ht : s₁.heap.IsTuple ax its := ⟨_, (N _ hm).1, rfl, _, rfl⟩
  have hlt : ax < s₁.heap.objs.size := Heap.lt_size (N _ hm).1
  refine wpAny_pyIter_tuple ht ?_
  have up : ∀ b o, s₁.heap.get? b = some o → (s₁.heap.push { cls := .type "tuple_iterator", data := .fields #[.ref ax, .int 0 0] }).get? b = some o := fun b o e => Heap.get?_push_of_some _ e
  refine LCg.block_U (Walks.tuple hh s₁.heap.objs.size ax (Nat.ne_of_lt hlt) its) hsz (fun i h st => ?_) (fun i h h' o nw st e e' kk NN S => ?_) hcell hkind hx ⟨⟨_, Heap.get?_push_size _ rfl, rfl, rfl⟩, ht.push _⟩ (fun b hb => ?_)
    (F.keeps up) (N.grown up) (Nat.ne_of_lt F.ns.lt) (next_is_new F) (fun p hp => Nat.ne_of_lt (Heap.lt_size (N p hp).1)) hm (R _) ?_
  · obtain ⟨o, e, _⟩ := st.1
    exact ⟨o, e⟩
  · refine ⟨?_, ⟨_, (NN _ S).1, rfl, _, rfl⟩⟩
    obtain ⟨o', q, r⟩ := st.1
    rw [e] at q
    cases q
    exact ⟨o, e', r⟩
  · show b < (s₁.heap.push _).objs.size
    rw [Heap.size_push]
    rcases List.mem_cons.mp hb with rfl | hb
    · exact Nat.lt_succ_self _
    · rw [List.mem_singleton.mp hb]; exact Nat.lt_succ_of_lt hlt
  · intro D C h' tk m' ys news' F' N' o1 hn hC₀ hD₀ hCL hDL hCD offC fin
    show wpAny _ A (assign (.Name y py) env (.ref D)) _ _ _
    refine wpAny_assign_Name (wpAny_storeName_local hy F'.ns (fun h₂ hn₂ hs₂ => ?_) hp)
    have hL₀ : h₀.get? env.locals = none := Heap.get?_none_of_le F'.above
    have F₂ : Fr h₀ env.locals h₂ (fun z => if z = y then some (.ref D) else m z) := ⟨hn₂, fun b o e => hs₂.extBut b o (fun q => by rw [q, hL₀] at e; cases e) (F'.keep b o e), F'.above⟩
    refine ⟨m', hn.sameBut hs₂ hCL, fun h'' hs'' => fin D h'' _ (F₂.change hs'' hCL hC₀) (fun p hp => ?_) o1⟩
    have z : h₂.get? p.1 = some p.2 := hs₂.extBut _ _ (N' p hp).2.1 (N' p hp).1
    refine ⟨hs''.extBut _ _ ?_ z, (N' p hp).2⟩
    rcases List.mem_cons.mp hp with rfl | hp
    · exact Ne.symm hCD
    · exact offC p hp
theorem slice_tup1 {value slice : Expr} {t : Addr} {items : Array Value} {zs : List Value} {k : Nat} {u : Tok} {news : List (Addr × Obj)} {Q : Value → Shared → Prop} (F : Fr h₀ L s.heap m) (N : News h₀ L s.heap news) (hm : (t, tupObj items k) ∈ news) (h1 : 1 ≤ items.size) (e : items.toList.drop 1 = zs)
    (h : ∀ D h', Fr h₀ L h' m → News h₀ L h' ((D, tupObj zs.toArray 0) :: news) → (∀ p ∈ news, p.1 < D) → Q (.ref D) { s with heap := h' })
    (hs : subscripted slice false (.ref t) (.ref s.heap.objs.size) = operate [.ref s.heap.objs.size, .ref t] (getItem (.ref t) (.ref s.heap.objs.size))) (hg : ∀ r, letTemporaryGo value (.ref t) r = pure ()) (hz : items.size ≤ sizeLine) :
    wpAny (model prog w) A (subscriptTail value slice (.ref t) (.ref s.heap.objs.size)) Q E { s with heap := s.heap.push { cls := .type "slice", data := .fields #[.int 1 u, .none, .none] } } := by
  subst e
  exact slice_tuple_from (a := 1) F N (N.isTup hm) (Nat.le_refl _) h1 (fun h' F' N' => h _ h' F' N' fun p hp => Nat.lt_succ_of_lt (Heap.lt_size (N p hp).1)) hs hg hz
end
theorem CompRest_at {prog : Program} {w : World} {A : Around} {s : Shared} {h₀ : Heap} {L : Addr} {m : Str → Option Value} {env : Env} {elt : Expr} {x : Str} {scope : Scope} {cl : List (Str × Addr)} {S : List (Addr × Obj) → Prop} {P : Nat → Value → Prop} {Fin : List Value → List (Addr × Obj) → Prop} {k i : Nat} {ys : List Value} {news : List (Addr × Obj)} {xv : Value} (hv : ∀ v, P i v → v = xv)
    (h : ∀ I oI C oC D m₂ h tk (E' : Value → Shared → Prop), LCg.NsObj oC m₂ → m₂ x = some xv → Fr h₀ L h m → News h₀ L h ((I, oI) :: (C, oC) :: (D, LCg.lst ys) :: news) → LCg.Off3 I C D news → ((@Ne Nat I C) ∧ (@Ne Nat I D) ∧ (@Ne Nat C D)) →
      wpAny (model prog w) A (eval elt (compEnvC scope cl C env)) (LCg.CompEnd h₀ L m { s with heap := h, toks := tk } I oI C oC D (LCg.lst ys) S (fun y news' => LCg.CompRest prog w A h₀ L m env elt x scope cl s S P Fin k (i + 1) (ys ++ [y]) news')) E' { s with heap := h, toks := tk }) :
    LCg.CompRest prog w A h₀ L m env elt x scope cl s S P Fin (k + 1) i ys news := fun v I oI C oC D m₂ h' tk E' hP hC hm F N off ne => by
  obtain rfl := hv v hP
  exact h I oI C oC D m₂ h' tk E' hC hm F N off ne
theorem CompRest_ex {prog : Program} {w : World} {A : Around} {s : Shared} {h₀ : Heap} {L : Addr} {m : Str → Option Value} {env : Env} {elt : Expr} {x : Str} {scope : Scope} {cl : List (Str × Addr)} {S : List (Addr × Obj) → Prop} {P : Nat → Value → Prop} {Fin : List Value → List (Addr × Obj) → Prop} {k i : Nat} {ys : List Value} {news : List (Addr × Obj)} {z : Int} (hv : ∀ v, P i v → ∃ t, v = .int z t)
    (h : ∀ t I oI C oC D m₂ h tk (E' : Value → Shared → Prop), LCg.NsObj oC m₂ → m₂ x = some (.int z t) → Fr h₀ L h m → News h₀ L h ((I, oI) :: (C, oC) :: (D, LCg.lst ys) :: news) → LCg.Off3 I C D news → ((@Ne Nat I C) ∧ (@Ne Nat I D) ∧ (@Ne Nat C D)) →
      wpAny (model prog w) A (eval elt (compEnvC scope cl C env)) (LCg.CompEnd h₀ L m { s with heap := h, toks := tk } I oI C oC D (LCg.lst ys) S (fun y news' => LCg.CompRest prog w A h₀ L m env elt x scope cl s S P Fin k (i + 1) (ys ++ [y]) news')) E' { s with heap := h, toks := tk }) :
    LCg.CompRest prog w A h₀ L m env elt x scope cl s S P Fin (k + 1) i ys news := fun v I oI C oC D m₂ h' tk E' hP hC hm F N off ne => by
  obtain ⟨t, rfl⟩ := hv v hP
  exact h t I oI C oC D m₂ h' tk E' hC hm F N off ne
theorem runs_toks {M : Model} {Γ : Ctx} {p : Pos} {t : Sem Fin} {fs : List Frame} {s s' : Shared} {e : End} (h : Runs M Γ p t fs s e s') : s.toks ≤ s'.toks := by
  induction h <;> (try simp only [Shared.setGen] at *) <;> first | exact Nat.le_refl _ | assumption | exact Nat.le_trans ‹_› ‹_› | exact Nat.le_of_lt ‹_› | omega
theorem wpCode_toks {M : Model} {Γ : Ctx} {R : Result → Shared → Prop} {p : Pos} {s : Shared} (h : wpCode M Γ R p s) : wpCode M Γ (fun r s' => s.toks ≤ s'.toks ∧ R r s') p s := by
  obtain ⟨r, s', h1, h2⟩ := h
  exact ⟨r, s', h1, runs_toks h1, h2⟩
theorem wakes_toks {M : Model} {Γ : Ctx} {p : Pos} {g : Nat} {r : Resume} {s s' : Shared} {res : GenResult} (h : Wakes M Γ p g r s res s') : s.toks ≤ s'.toks := by
  unfold Wakes at h
  split at h
  · exact h.elim
  · split at h
    · obtain ⟨e₁, s₁, h1, _, _, rfl⟩ := h; have := runs_toks h1; exact this
    · obtain ⟨_, rfl⟩ := h; exact Nat.le_refl _
    · obtain ⟨_, rfl⟩ := h; exact Nat.le_refl _
  · obtain ⟨e₁, s₁, h1, _, _, rfl⟩ := h; have := runs_toks h1; exact this
  · obtain ⟨_, rfl⟩ := h; exact Nat.le_refl _
  · obtain ⟨_, rfl⟩ := h; exact Nat.le_refl _
theorem wp_toks {α : Type} {M : Model} {Γ : Ctx} (t : Sem α) : ∀ {Q : α → Pos → Shared → Prop} {E : Value → Pos → Shared → Prop} {p : Pos} {s : Shared}, Sem.wp M Γ t Q E p s →
    Sem.wp M Γ t (fun a p' s' => s.toks ≤ s'.toks ∧ Q a p' s') (fun e p' s' => s.toks ≤ s'.toks ∧ E e p' s') p s := by
  have up : ∀ {Q : α → Pos → Shared → Prop} {E : Value → Pos → Shared → Prop} {p : Pos} {s₁ : Shared} {t' : Sem α} (n m : Nat), n ≤ m →
      Sem.wp M Γ t' (fun a p' s' => m ≤ s'.toks ∧ Q a p' s') (fun e p' s' => m ≤ s'.toks ∧ E e p' s') p s₁ → Sem.wp M Γ t' (fun a p' s' => n ≤ s'.toks ∧ Q a p' s') (fun e p' s' => n ≤ s'.toks ∧ E e p' s') p s₁ :=
    fun n m h w => Sem.wp_mono M Γ _ (fun _ _ _ x => ⟨Nat.le_trans h x.1, x.2⟩) (fun _ _ _ x => ⟨Nat.le_trans h x.1, x.2⟩) _ _ w
  induction t with
  | pure a => intro Q E p s h; exact ⟨Nat.le_refl _, h⟩
  | raise e => intro Q E p s h; exact ⟨Nat.le_refl _, h⟩
  | unsupported w => intro Q E p s h; exact h.elim
  | finish e => intro Q E p s h; exact h.elim
  | rule tag k ih => intro Q E p s h; exact ih () h
  | «at» pos k ih => intro Q E p s h; exact ih () h
  | load a part k ih => intro Q E p s h; obtain ⟨o, h1, h2⟩ := h; exact ⟨o, h1, ih o h2⟩
  | update a part f k ih => intro Q E p s h; exact ⟨h.1, ih () h.2⟩
  | alloc o k ih => intro Q E p s h; exact ih _ h
  | loadIfAlive a k ih => intro Q E p s h; exact ih _ h
  | point live k ih => intro Q E p s h; exact ih () h
  | register a k ih => intro Q E p s h; exact h.elim
  | fresh k ih => intro Q E p s h; exact up _ (s.toks + 1) (Nat.le_succ _) (ih _ h)
  | ask k ih => intro Q E p s h; exact ih _ h
  | choose src n k ih => intro Q E p s h; exact ⟨h.1, ih _ h.2⟩
  | os req live k ih => intro Q E p s h; exact ih _ h
  | call c hd g live k ih => intro Q E p s h; exact wpCode_mono (fun r s' x => up _ _ x.1 (ih r x.2)) (wpCode_toks h)
  | handled own k ih => intro Q E p s h; exact ih _ h
  | newGen c k ih => intro Q E p s h; exact ih _ h
  | genState g k ih => intro Q E p s h; obtain ⟨st, h1, h2⟩ := h; exact ⟨st, h1, ih _ h2⟩
  | resume g r live k ih => intro Q E p s h; obtain ⟨res, s', h1, h2⟩ := h; exact ⟨res, s', h1, up _ _ (wakes_toks h1) (ih _ h2)⟩
  | yield v g live k ih => intro Q E p s h; exact h.elim
  | stack k ih => intro Q E p s h; exact ih _ h
  | fork c k ih => intro Q E p s h; exact h.elim
  | thread k ih => intro Q E p s h; exact ih _ h
  | await a take timed live k ih => intro Q E p s h; exact h.elim
theorem toks_up {α : Type} {M : Model} {A : Around} {t : Sem α} {Q : α → Shared → Prop} {E : Value → Shared → Prop} {s : Shared} (h : wpAny M A t (fun a s' => s.toks ≤ s'.toks → Q a s') E s) : wpAny M A t Q E s :=
  fun Γ p hΓ => Sem.wp_mono M Γ _ (fun _ _ _ x => x.2 x.1) (fun _ _ _ x => x.2) _ _ (wp_toks t (h Γ p hΓ))
theorem codeAny_toks {M : Model} {A : Around} {c : Code} {R : Result → Shared → Prop} {s : Shared} (h : codeAny M A c (fun r s' => s.toks ≤ s'.toks → R r s') s) : codeAny M A c R s :=
  fun Γ p hc hΓ => wpCode_mono (fun _ _ x => x.2 x.1) (wpCode_toks (h Γ p hc hΓ))
section
variable {prog : Program} {w : World} {A : Around} {E : Value → Shared → Prop} {s : Shared} {h₀ : Heap} {L : Addr} {m : Str → Option Value} {env : Env}
def EndT (h₀ : Heap) (L : Addr) (m : Str → Option Value) (s₁ : Shared) (I : Addr) (oI : Obj) (C : Addr) (oC : Obj) (D : Addr) (oD : Obj) (S : List (Addr × Obj) → Prop) (rest : Nat → Value → List (Addr × Obj) → Prop) (y : Value) (s₂ : Shared) : Prop :=
  ∃ h' tk news', s₂ = { s₁ with heap := h', toks := tk } ∧ Fr h₀ L h' m ∧ News h₀ L h' ((I, oI) :: (C, oC) :: (D, oD) :: news') ∧ LCg.Off3 I C D news' ∧ S news' ∧ rest tk y news'
theorem EndT.intro {I C D : Addr} {s₁ : Shared} {oI oC oD : Obj} {S : List (Addr × Obj) → Prop} {rest : Nat → Value → List (Addr × Obj) → Prop} {y : Value} {h' : Heap} {tk : Nat} {news' : List (Addr × Obj)}
    (F : Fr h₀ L h' m) (N : News h₀ L h' ((I, oI) :: (C, oC) :: (D, oD) :: news')) (off : LCg.Off3 I C D news') (hS : S news') (r : rest tk y news') :
    EndT h₀ L m s₁ I oI C oC D oD S rest y { s₁ with heap := h', toks := tk } := ⟨h', tk, news', rfl, F, N, off, hS, r⟩
def RestT (prog : Program) (w : World) (A : Around) (h₀ : Heap) (L : Addr) (m : Str → Option Value) (env : Env) (elt : Expr) (x : Str) (scope : Scope) (cl : List (Str × Addr)) (s : Shared) (S : List (Addr × Obj) → Prop) (P : Nat → Value → Prop)
    (Fin : Nat → List Value → List (Addr × Obj) → Prop) : Nat → Nat → Nat → List Value → List (Addr × Obj) → Prop
  | 0, _, T, ys, news => Fin T ys news
  | k + 1, i, T, ys, news => ∀ v I oI C oC D m₂ h tk (E' : Value → Shared → Prop), T ≤ tk → P i v → LCg.NsObj oC m₂ → m₂ x = some v → Fr h₀ L h m → News h₀ L h ((I, oI) :: (C, oC) :: (D, LCg.lst ys) :: news) → LCg.Off3 I C D news → ((@Ne Nat I C) ∧ (@Ne Nat I D) ∧ (@Ne Nat C D)) →
      wpAny (model prog w) A (eval elt (compEnvC scope cl C env)) (EndT h₀ L m { s with heap := h, toks := tk } I oI C oC D (LCg.lst ys) S (fun T' y news' => RestT prog w A h₀ L m env elt x scope cl s S P Fin k (i + 1) T' (ys ++ [y]) news')) E' { s with heap := h, toks := tk }
theorem RestT.zero {elt : Expr} {x : Str} {scope : Scope} {cl : List (Str × Addr)} {S : List (Addr × Obj) → Prop} {P : Nat → Value → Prop} {Fin : Nat → List Value → List (Addr × Obj) → Prop} {i T : Nat} {ys : List Value} {news : List (Addr × Obj)} (h : Fin T ys news) :
    RestT prog w A h₀ L m env elt x scope cl s S P Fin 0 i T ys news := h
theorem RestT.succ {elt : Expr} {x : Str} {scope : Scope} {cl : List (Str × Addr)} {S : List (Addr × Obj) → Prop} {P : Nat → Value → Prop} {Fin : Nat → List Value → List (Addr × Obj) → Prop} {k i T : Nat} {ys : List Value} {news : List (Addr × Obj)}
    (h : ∀ v I oI C oC D m₂ h tk (E' : Value → Shared → Prop), T ≤ tk → P i v → LCg.NsObj oC m₂ → m₂ x = some v → Fr h₀ L h m → News h₀ L h ((I, oI) :: (C, oC) :: (D, LCg.lst ys) :: news) → LCg.Off3 I C D news → ((@Ne Nat I C) ∧ (@Ne Nat I D) ∧ (@Ne Nat C D)) →
      wpAny (model prog w) A (eval elt (compEnvC scope cl C env)) (EndT h₀ L m { s with heap := h, toks := tk } I oI C oC D (LCg.lst ys) S (fun T' y news' => RestT prog w A h₀ L m env elt x scope cl s S P Fin k (i + 1) T' (ys ++ [y]) news')) E' { s with heap := h, toks := tk }) :
    RestT prog w A h₀ L m env elt x scope cl s S P Fin (k + 1) i T ys news := h
theorem RestT.at {elt : Expr} {x : Str} {scope : Scope} {cl : List (Str × Addr)} {S : List (Addr × Obj) → Prop} {P : Nat → Value → Prop} {Fin : Nat → List Value → List (Addr × Obj) → Prop} {k i T : Nat} {ys : List Value} {news : List (Addr × Obj)}
    {xv : Value} (hv : ∀ v, P i v → v = xv)
    (h : ∀ I oI C oC D m₂ h tk (E' : Value → Shared → Prop), T ≤ tk → LCg.NsObj oC m₂ → m₂ x = some xv → Fr h₀ L h m → News h₀ L h ((I, oI) :: (C, oC) :: (D, LCg.lst ys) :: news) → LCg.Off3 I C D news → ((@Ne Nat I C) ∧ (@Ne Nat I D) ∧ (@Ne Nat C D)) →
      wpAny (model prog w) A (eval elt (compEnvC scope cl C env)) (EndT h₀ L m { s with heap := h, toks := tk } I oI C oC D (LCg.lst ys) S (fun T' y news' => RestT prog w A h₀ L m env elt x scope cl s S P Fin k (i + 1) T' (ys ++ [y]) news')) E' { s with heap := h, toks := tk }) :
    RestT prog w A h₀ L m env elt x scope cl s S P Fin (k + 1) i T ys news := fun v I oI C oC D m₂ h' tk E' hT hP hC hm F N off ne => by
  obtain rfl := hv v hP
  exact h I oI C oC D m₂ h' tk E' hT hC hm F N off ne

theorem block_T {elt iter : Expr} {x : Str} {px : Pos} {scope : Scope} {cl : List (Str × Addr)} {pos : Pos} {s₂ : Shared} {I : Addr} {fp : List Addr} {n T : Nat} {P : Nat → Value → Prop} {St : Nat → Heap → Prop} {S : List (Addr × Obj) → Prop} {news : List (Addr × Obj)}
    {Fin : Nat → List Value → List (Addr × Obj) → Prop} {RR : Value → Addr → Result → Shared → Prop}
    (W : Walks prog w A I fp [I] n P St) (hsz : n ≤ sizeLine) (hIo : ∀ i h, St i h → ∃ o, h.get? I = some o)
    (hSt : ∀ i h h' o nw, St i h → h.get? I = some o → h'.get? I = some o → (∀ b o, h₀.get? b = some o → h'.get? b = some o) → News h₀ L h' nw → S nw → St i h')
    (hcell : ∀ y ∈ scope.names, y.2 ≠ .cell) (hkind : scope.kind = .function) (hx : scope.names.lookup x = some .local) (hst : St 0 s₂.heap) (hfp : ∀ b ∈ fp, b < s₂.heap.objs.size)
    (F : Fr h₀ L s₂.heap m) (N : News h₀ L s₂.heap news) (hIL : L ≠ I) (hI₀ : h₀.get? I = none) (off : ∀ p ∈ news, p.1 ≠ I) (hS : S news) (hT : T ≤ s₂.toks)
    (R : RestT prog w A h₀ L m env elt x scope cl s₂ S P Fin n 0 T [] news)
    (hRR : ∀ D C h tk T' m' ys news', T' ≤ tk → Fr h₀ L h m → News h₀ L h ((D, LCg.lst ys) :: news') → LCg.Off1 D news' → h.Ns C m' → h₀.get? C = none → h₀.get? D = none → C ≠ L → D ≠ L → C ≠ D → (∀ p ∈ news', p.1 ≠ C) → Fin T' ys news' → RR (.ref D) C (.ok .next) { s₂ with heap := h, toks := tk }) :
    wpAny (model prog w) A (newList []) (fun acc s₃ => wpAny (model prog w) A (newFunctionEnv scope env.globals cl [] env.qual none .none (some env)) (fun cenv s₄ =>
      codeAny (model prog w) A (.compStart (.ListComp elt [⟨.Name x px, iter, [], 0⟩] scope pos) 0 (.ref I) acc { cenv with scope := relabel scope env }) (RR acc cenv.locals) s₄) E s₃) E s₂ := by
  refine wpAny_newObj_type (wpAny_newFunctionEnv hcell (by intro y hy; simp at hy) (fun h₁ hns₁ hsb₁ => ?_) hkind)
  dsimp only at hns₁ hsb₁ ⊢
  generalize hH2 : s₂.heap.push { cls := .type "list", dict := none, data := .seq ([] : List Value).toArray } = H2 at hns₁ hsb₁ ⊢
  have hC : H2.objs.size = s₂.heap.objs.size + 1 := by rw [← hH2, Heap.size_push]
  have hDC : s₂.heap.objs.size ≠ H2.objs.size := by rw [hC]; exact Nat.ne_of_lt (Nat.lt_succ_self _)
  have below : ∀ b, b < s₂.heap.objs.size → b ≠ H2.objs.size ∧ b ≠ s₂.heap.objs.size := fun b hb => ⟨by rw [hC]; exact Nat.ne_of_lt (Nat.lt_succ_of_lt hb), Nat.ne_of_lt hb⟩
  have hDf : s₂.heap.objs.size ∉ fp := fun hm => Nat.lt_irrefl _ (hfp _ hm)
  have hCf : H2.objs.size ∉ fp := fun hm => by have := hfp _ hm; rw [hC] at this; exact Nat.lt_irrefl _ (Nat.lt_of_succ_lt this)
  have hIlt : I < s₂.heap.objs.size := hfp I (W.sub I (List.mem_singleton.mpr rfl))
  have old : ∀ b o, s₂.heap.get? b = some o → h₁.get? b = some o := fun b o e => hsb₁.extBut b o (below b (Heap.lt_size e)).1 (Heap.get?_push_of_some _ (hH2 ▸ Heap.get?_push_of_some _ e))
  have hacc : h₁.get? s₂.heap.objs.size = some (LCg.lst []) := hsb₁.extBut _ _ hDC (Heap.get?_push_of_some _ (hH2 ▸ Heap.get?_push_size _ rfl))
  have hst₁ : St 0 h₁ := W.frame _ _ _ hst fun b _ o e => old b o e
  have fresh₀ : ∀ a, s₂.heap.objs.size ≤ a → h₀.get? a = none := fun a ha => by
    cases e : h₀.get? a with
    | none => rfl
    | some o' => exact absurd (Heap.lt_size (F.keep a o' e)) (Nat.not_lt.mpr ha)
  have hD₀ : h₀.get? s₂.heap.objs.size = none := fresh₀ _ (Nat.le_refl _)
  have hC₀ : h₀.get? H2.objs.size = none := fresh₀ _ (by rw [hC]; exact Nat.le_succ _)
  have hLlt : L < s₂.heap.objs.size := F.ns.lt
  have hDL : s₂.heap.objs.size ≠ L := Ne.symm (below L hLlt).2
  have hCL : H2.objs.size ≠ L := Ne.symm (below L hLlt).1
  have hCI : I ≠ H2.objs.size := (below I hIlt).1
  have hDI : I ≠ s₂.heap.objs.size := (below I hIlt).2
  have off₀ : LCg.Off3 I H2.objs.size s₂.heap.objs.size news := LCg.Off3.of fun p hp => ⟨off p hp, (below _ (Heap.lt_size (N p hp).1)).1, (below _ (Heap.lt_size (N p hp).1)).2⟩
  have loop : ∀ s₃ : Shared, s₃ = { s₂ with heap := h₁, toks := s₂.toks + ([] : List (Str × Value)).length } →
      codeAny (model prog w) A (.compLoop (.ListComp elt [⟨.Name x px, iter, [], 0⟩] scope pos) 0 (.ref I) (.ref s₂.heap.objs.size) (compEnvC scope cl H2.objs.size env))
        (RR (.ref s₂.heap.objs.size) H2.objs.size) s₃ := by
    rintro s₃ rfl
    obtain ⟨PP, hPP⟩ : ∃ PP : Nat → Shared → Prop, ∀ k s', PP k s' ↔ (∃ h' tk i T' ys m' news', s' = { s₂ with heap := h', toks := tk } ∧ i ≤ n ∧ k = n + 1 - i ∧ ys.length = i ∧ T' ≤ tk ∧ St i h' ∧ Fr h₀ L h' m ∧ h'.Ns H2.objs.size m' ∧ News h₀ L h' ((s₂.heap.objs.size, LCg.lst ys) :: news') ∧
        LCg.Off3 I H2.objs.size s₂.heap.objs.size news' ∧ S news' ∧ RestT prog w A h₀ L m env elt x scope cl s₂ S P Fin (n - i) i T' ys news') := ⟨_, fun _ _ => Iff.rfl⟩
    refine codeAny_compLoop_tests PP ?_ (n + 1)
      ((hPP _ _).mpr ⟨h₁, _, 0, T, [], _, news, rfl, Nat.zero_le _, rfl, rfl, hT, hst₁, F.keeps old, hns₁, fun p hp => ?_, off₀, hS, R⟩)
    · intro k s' h9
      obtain ⟨h', tk, i, T', ys, m', news', h9⟩ := (hPP _ _).mp h9
      obtain rfl := h9.1
      have hi := h9.2.1; obtain rfl := h9.2.2.1
      have hyl := h9.2.2.2.1; have hTk := h9.2.2.2.2.1; have hst' := h9.2.2.2.2.2.1; have F' := h9.2.2.2.2.2.2.1; have hn' := h9.2.2.2.2.2.2.2.1; have N' := h9.2.2.2.2.2.2.2.2.1; have off' := h9.2.2.2.2.2.2.2.2.2.1; have hS' := h9.2.2.2.2.2.2.2.2.2.2.1; have R' := h9.2.2.2.2.2.2.2.2.2.2.2
      clear h9
      by_cases hlt : i < n
      · obtain ⟨j, hj⟩ := sub_ex hlt
        rw [hj] at R'
        refine toks_up (W.item i _ _ _ hlt hst' fun v h₂ tk₂ hPv hst₂ hk₂ hle => ?_)
        refine wpAny_assign_Name (wpAny_storeName_local (lookup_relabel_local hx) (hn'.at' fun o e => hk₂ _ o (by simpa using Ne.symm hCI) e) (fun h₃ hn₃ hs₃ => ?_) (by simp [compEnvC, relabel, hkind]))
        refine wpAny_tests_nil ?_
        simp only [if_true]
        have hst₃ : St (i + 1) h₃ := W.frame _ _ _ hst₂ fun b hb o e => hs₃.extBut b o (fun q => hCf (by have q' : b = H2.objs.size := q; rw [← q']; exact hb)) e
        obtain ⟨oI, heI⟩ := hIo _ _ hst₃
        obtain ⟨oC, heC, hoC⟩ := LCg.ns_obj hn₃
        have F₃ : Fr h₀ L h₃ m := (LCg.fr_but F' hk₂ hIL hI₀).change hs₃ hCL hC₀
        have off3 := off'.mem
        have N₂ : News h₀ L h₂ ((s₂.heap.objs.size, LCg.lst ys) :: news') := LCg.news_but N' hk₂ fun p hp => by
          rcases List.mem_cons.mp hp with rfl | hp
          · exact Ne.symm hDI
          · exact (off3 p hp).1
        have N₃ : News h₀ L h₃ ((I, oI) :: (H2.objs.size, oC) :: (s₂.heap.objs.size, LCg.lst ys) :: news') := fun p hp => by
          rcases List.mem_cons.mp hp with rfl | hp
          · exact ⟨heI, Ne.symm hIL, hI₀⟩
          · rcases List.mem_cons.mp hp with rfl | hp
            · exact ⟨heC, hCL, hC₀⟩
            · refine ⟨hs₃.extBut _ _ ?_ (N₂ p hp).1, (N₂ p hp).2⟩
              rcases List.mem_cons.mp hp with rfl | hp
              · exact hDC
              · exact (off3 p hp).2.1
        have hle' : tk ≤ tk₂ := hle
        refine wpAny_mono (R' v I oI H2.objs.size oC s₂.heap.objs.size _ h₃ _ _ (le_suc3 hTk hle') hPv hoC (by simp) F₃ N₃ off' ⟨hCI, hDI, Ne.symm hDC⟩) (fun y s₄ h₄ => ?_) fun _ _ e => e
        obtain ⟨h₄, tk₄, news₄, h9⟩ := h₄
        obtain rfl := h9.1
        have F₄ := h9.2.1; have N₄ := h9.2.2.1; have off₄ := h9.2.2.2.1; have hS₄ := h9.2.2.2.2.1; have R₄ := h9.2.2.2.2.2
        clear h9
        have zC := (N₄ (H2.objs.size, oC) (List.mem_cons_of_mem _ List.mem_cons_self)).1
        have zD := (N₄ (s₂.heap.objs.size, LCg.lst ys) (List.mem_cons_of_mem _ (List.mem_cons_of_mem _ List.mem_cons_self))).1
        have N₄' : News h₀ L h₄ news₄ := fun p hp => N₄ p (List.mem_cons_of_mem _ (List.mem_cons_of_mem _ (List.mem_cons_of_mem _ hp)))
        have hst₄ : St (i + 1) h₄ := hSt _ _ _ _ _ hst₃ heI (N₄ (I, oI) List.mem_cons_self).1 F₄.keep N₄' hS₄
        refine append_at (hsz := by show ys.toArray.size ≤ sizeLine; rw [List.size_toArray, hyl]; exact Nat.le_trans hi hsz) zD fun h₅ hs₅ hD₅ => ?_
        have off4 := off₄.mem
        refine ⟨n + 1 - (i + 1), sub_lt3 hlt, (hPP _ _).mpr ⟨h₅, tk₄, i + 1, tk₄, ys ++ [y], _, news₄, rfl, hlt, rfl, by rw [List.length_append, List.length_singleton, hyl], Nat.le_refl _, W.frame _ _ _ hst₄ fun b hb o e => hs₅.extBut b o (fun q => hDf (q ▸ hb)) e, F₄.change hs₅ hDL hD₀,
          (hoC.ns zC).sameBut hs₅ (Ne.symm hDC), fun p hp => ?_, off₄, hS₄, ?_⟩⟩
        · rcases List.mem_cons.mp hp with rfl | hp
          · exact ⟨hD₅.trans (congrArg some (LCg.lst_snoc ys y)), hDL, hD₀⟩
          · exact ⟨hs₅.extBut _ _ (off4 p hp).2.2 (N₄' p hp).1, (N₄' p hp).2⟩
        · rw [sub_eq3 hj]
          exact R₄
      · obtain rfl : i = n := Nat.le_antisymm hi (Nat.not_lt.mp hlt)
        rw [Nat.sub_self] at R'
        refine toks_up (W.done _ _ _ hst' fun h₂ tk₂ hk₂ hle => ?_)
        have off3 := off'.mem
        have hle' : tk ≤ tk₂ := hle
        exact hRR _ _ h₂ tk₂ T' _ ys news' (Nat.le_trans hTk hle') (LCg.fr_but F' hk₂ hIL hI₀) (LCg.news_but N' hk₂ fun p hp => by
          rcases List.mem_cons.mp hp with rfl | hp
          · exact Ne.symm hDI
          · exact (off3 p hp).1) off'.one (hn'.at' fun o e => hk₂ _ o (by simpa using Ne.symm hCI) e) hC₀ hD₀ hCL hDL (Ne.symm hDC) (fun p hp => (off3 p hp).2.1) R'
    · rcases List.mem_cons.mp hp with rfl | hp
      · exact ⟨hacc, hDL, hD₀⟩
      · exact ⟨old _ _ (N p hp).1, (N p hp).2⟩
  exact codeAny_compStart_list (loop _ rfl) (W.self 0 _ _ _ hst₁ (loop _ rfl))
def FinAT (h₀ : Heap) (L : Addr) (m : Str → Option Value) (s : Shared) (y : Str) (Q : Flow → Shared → Prop) (T : Nat) (ys : List Value) (news : List (Addr × Obj)) : Prop :=
  ∀ D h tk, T ≤ tk → Fr h₀ L h (fun z => if z = y then some (.ref D) else m z) → News h₀ L h ((D, LCg.lst ys) :: news) → LCg.Off1 D news → Q .next { s with heap := h, toks := tk }
def TupSrcT (prog : Program) (w : World) (A : Around) (h₀ : Heap) (L : Addr) (m : Str → Option Value) (env : Env) (elt : Expr) (x : Str) (scope : Scope) (cl : List (Str × Addr)) (Fin : Shared → Nat → List Value → List (Addr × Obj) → Prop) (xv : Value) (s₁ : Shared) : Prop :=
  ∃ ax its k news, xv = .ref ax ∧ A.handled = none ∧ Fr h₀ L s₁.heap m ∧ News h₀ L s₁.heap news ∧ (ax, tupObj its k) ∈ news ∧ its.size ≤ sizeLine ∧
    ∀ g, RestT prog w A h₀ L m env elt x scope cl { s₁ with heap := g } (fun nw => (ax, tupObj its k) ∈ nw) (fun i v => its[i]? = some v) (Fin { s₁ with heap := g }) its.size 0 s₁.toks [] news
theorem TupSrcT.of {elt : Expr} {x : Str} {scope : Scope} {cl : List (Str × Addr)} {Fin : Shared → Nat → List Value → List (Addr × Obj) → Prop} {ax : Addr} {its : Array Value} {k : Nat} {news : List (Addr × Obj)} {s₁ : Shared}
    (hh : A.handled = none) (F : Fr h₀ L s₁.heap m) (N : News h₀ L s₁.heap news) (hm : (ax, tupObj its k) ∈ news) (hsz : its.size ≤ sizeLine) (n : Nat) (hn : its.size = n)
    (h : ∀ g, RestT prog w A h₀ L m env elt x scope cl { s₁ with heap := g } (fun nw => (ax, tupObj its k) ∈ nw) (fun i v => its[i]? = some v) (Fin { s₁ with heap := g }) n 0 s₁.toks [] news) :
    TupSrcT prog w A h₀ L m env elt x scope cl Fin (.ref ax) s₁ := ⟨ax, its, k, news, rfl, hh, F, N, hm, hsz, hn ▸ h⟩
theorem comp_tup_assignT {elt iter : Expr} {x y : Str} {px py : Pos} {scope : Scope} {cl : List (Str × Addr)} {pos spos : Pos} {Q : Flow → Shared → Prop} (_F₀ : Fr h₀ L s.heap m) (hLe : env.locals = L)
    (hsw : swapsWith (.ListComp elt [⟨.Name x px, iter, [], 0⟩] scope pos) (some (.Name y py)) spos.line env = pure true)
    (hclos : closureFor scope env = pure cl) (hcell : ∀ z ∈ scope.names, z.2 ≠ .cell) (hkind : scope.kind = .function)
    (hnames : ∀ z ∈ scope.names, z.2 = .local → scope.names.lookup z.1 = some .local) (hx : scope.names.lookup x = some .local)
    (hy : env.kindOf y = some .local) (hp : (env.scope.kind == .class || (env.scope.kind == .module && env.locals != env.globals)) = false)
    (h : wpAny (model prog w) A (eval iter env) (fun xv s₁ => TupSrcT prog w A h₀ L m env elt x scope cl (fun s₂ => FinAT h₀ L m s₂ y Q) xv s₁) E s)
    (hs : ∀ x, foldedSetIterable iter env x = pure x := by intro _; rfl) :
    wpAny (model prog w) A (exec (.Assign [.Name y py] (.ListComp elt [⟨.Name x px, iter, [], 0⟩] scope pos) spos) env) Q E s := by
  subst hLe
  rw [exec_Assign_Name_used _ _ _ _ hsw]
  refine wpAny_bind (wpAny_standAt (wpAny_bind ?_))
  show wpAny _ A (do let _ ← comprehension (.ListComp elt [⟨.Name x px, iter, [], 0⟩] scope pos) scope env _ (newList []) false (eval iter env) (some (assign (.Name y py) env))) _ _ s
  refine wpAny_bind (wpAny_mono (wpAny_comprehension_free (use := some (assign (.Name y py) env)) (Q := fun _ s' => Q .next s') rfl hs hclos hkind hnames
    (wpAny_mono h (fun xv s₁ h₁ => ?_) fun _ _ e => e)) (fun _ s' hq => wpAny_pure (wpAny_pure hq)) fun _ _ e => e)
  obtain ⟨ax, its, k, news, rfl, hh, F, N, hm, hsz, R⟩ := h₁
  have ht : s₁.heap.IsTuple ax its := ⟨_, (N _ hm).1, rfl, _, rfl⟩
  have hlt : ax < s₁.heap.objs.size := Heap.lt_size (N _ hm).1
  refine wpAny_pyIter_tuple ht ?_
  have up : ∀ b o, s₁.heap.get? b = some o → (s₁.heap.push { cls := .type "tuple_iterator", data := .fields #[.ref ax, .int 0 0] }).get? b = some o := fun b o e => Heap.get?_push_of_some _ e
  refine block_T (Walks.tuple hh s₁.heap.objs.size ax (Nat.ne_of_lt hlt) its) hsz (fun i h st => ?_) (fun i h h' o nw st e e' kk NN S => ?_) hcell hkind hx ⟨⟨_, Heap.get?_push_size _ rfl, rfl, rfl⟩, ht.push _⟩ (fun b hb => ?_)
    (F.keeps up) (N.grown up) (Nat.ne_of_lt F.ns.lt) (next_is_new F) (fun p hp => Nat.ne_of_lt (Heap.lt_size (N p hp).1)) hm (Nat.le_refl _) (R _) ?_
  · obtain ⟨o, e, _⟩ := st.1
    exact ⟨o, e⟩
  · refine ⟨?_, ⟨_, (NN _ S).1, rfl, _, rfl⟩⟩
    obtain ⟨o', q, r⟩ := st.1
    rw [e] at q
    cases q
    exact ⟨o, e', r⟩
  · show b < (s₁.heap.push _).objs.size
    rw [Heap.size_push]
    rcases List.mem_cons.mp hb with rfl | hb
    · exact Nat.lt_succ_self _
    · rw [List.mem_singleton.mp hb]; exact Nat.lt_succ_of_lt hlt
  · intro D C h' tk T' m' ys news' hTk F' N' o1 hn hC₀ hD₀ hCL hDL hCD offC fin
    show wpAny _ A (assign (.Name y py) env (.ref D)) _ _ _
    refine wpAny_assign_Name (wpAny_storeName_local hy F'.ns (fun h₂ hn₂ hs₂ => ?_) hp)
    have hL₀ : h₀.get? env.locals = none := Heap.get?_none_of_le F'.above
    have F₂ : Fr h₀ env.locals h₂ (fun z => if z = y then some (.ref D) else m z) := ⟨hn₂, fun b o e => hs₂.extBut b o (fun q => by rw [q, hL₀] at e; cases e) (F'.keep b o e), F'.above⟩
    refine ⟨m', hn.sameBut hs₂ hCL, fun h'' hs'' => fin D h'' _ (Nat.le_succ_of_le hTk) (F₂.change hs'' hCL hC₀) (fun p hp => ?_) o1⟩
    have z : h₂.get? p.1 = some p.2 := hs₂.extBut _ _ (N' p hp).2.1 (N' p hp).1
    refine ⟨hs''.extBut _ _ ?_ z, (N' p hp).2⟩
    rcases List.mem_cons.mp hp with rfl | hp
    · exact Ne.symm hCD
    · exact offC p hp
end
def ones (n : Nat) : Str := ⟨Array.replicate n 49⟩
theorem ones_one : Str.ofString "1" = ones 1 := by decide +kernel
theorem ones_nil : Str.ofString "" = ones 0 := by decide +kernel
theorem ones_len (n : Nat) : (ones n).length = n := by simp [ones, Str.length]
theorem ones_list (n : Nat) : (ones n).cps.toList = List.replicate n 49 := by simp [ones]
theorem str_ext {x y : Str} (h : x.cps.toList = y.cps.toList) : x = y := by
  cases x; cases y
  simp only [Str.mk.injEq]
  exact Array.toList_inj.mp h
theorem ones_append (a b : Nat) : ones a ++ ones b = ones (a + b) := by
  refine str_ext ?_
  show ((ones a).cps ++ (ones b).cps).toList = _
  rw [Array.toList_append, ones_list, ones_list, ones_list, List.replicate_append_replicate]
theorem rep_fold (n : Nat) : ∀ acc : Array Nat, ((List.replicate n (ones 1).cps).foldl (· ++ ·) acc).toList = acc.toList ++ List.replicate n 49 := by
  induction n with
  | zero => intro acc; simp
  | succ n ih =>
    intro acc
    rw [List.replicate_succ, List.foldl_cons, ih, Array.toList_append, ones_list]
    simp [List.replicate_succ]
theorem mul_eq (n : Nat) : Txt.mul (Str.ofString "1") (n : Int) = ones n := by
  rw [ones_one]
  unfold Txt.mul
  split
  · rename_i h
    have : n = 0 := Nat.lt_one_iff.mp (Int.ofNat_lt.mp h)
    subst this
    rfl
  · split
    · rename_i h
      have h1 : (ones 1).length = 1 := ones_len 1
      rw [h1] at h
      have : n = 1 := by
        have h' : ((n : Int) == 1) = true := by simpa using h
        exact Int.ofNat_inj.mp (eq_of_beq h')
      subst this; rfl
    · refine str_ext ?_
      show ((List.replicate (n : Int).toNat (ones 1).cps).foldl (· ++ ·) #[]).toList = _
      rw [Int.toNat_natCast, rep_fold, ones_list]
      rfl
theorem join_eq1 (a : Nat) : Txt.join (Str.ofString "") [ones a] = ones a := rfl
theorem join_eq2 (a b : Nat) : Txt.join (Str.ofString "") [ones a, ones b] = ones (a + b) := by
  show ones a ++ Str.ofString "" ++ ones b = ones (a + b)
  rw [ones_nil, ones_append, ones_append]
  rfl
theorem join_ones (a b : Nat) : ∀ ps : List Str, (∀ p ∈ ps, ¬ 49 ∈ p.cps.toList) → ∀ a, Str.join (ones 1) ps = ones a → Str.join (ones b) ps = ones (a * b) := by
  have empty_of : ∀ p : Str, ¬ 49 ∈ p.cps.toList → (∀ c ∈ p.cps.toList, c = 49) → p = ones 0 := fun p h1 h2 => by
    refine str_ext ?_
    cases hp : p.cps.toList with
    | nil => rfl
    | cons c r =>
      have hc := h2 c (by rw [hp]; exact List.mem_cons_self)
      exact absurd (by rw [hp, hc]; exact List.mem_cons_self) h1
  have all_of : ∀ (n : Nat), ∀ c ∈ List.replicate n 49, c = 49 := fun n c h => (List.mem_replicate.mp h).2
  intro ps
  induction ps with
  | nil =>
    intro _ a h
    have h' : ones 0 = ones a := h
    have : a = 0 := by have := congrArg Str.length h'; rw [ones_len, ones_len] at this; exact this.symm
    subst this
    show ones 0 = ones (0 * b)
    rw [Nat.zero_mul]
  | cons p r ih =>
    intro hf a h
    cases r with
    | nil =>
      have h' : p = ones a := h
      have hp := empty_of p (hf p List.mem_cons_self) (by rw [h', ones_list]; exact all_of a)
      have : a = 0 := by have := congrArg Str.length (h'.symm.trans hp); rw [ones_len, ones_len] at this; exact this
      subst this
      show p = ones (0 * b)
      rw [hp, Nat.zero_mul]
    | cons q r =>
      have h' : p ++ ones 1 ++ Str.join (ones 1) (q :: r) = ones a := h
      have hl := congrArg (fun x : Str => x.cps.toList) h'
      have hl' : p.cps.toList ++ List.replicate 1 49 ++ (Str.join (ones 1) (q :: r)).cps.toList = List.replicate a 49 := by
        rw [← ones_list a, ← hl]
        show _ = ((p.cps ++ (ones 1).cps) ++ (Str.join (ones 1) (q :: r)).cps).toList
        rw [Array.toList_append, Array.toList_append, ones_list]
      have hp := empty_of p (hf p List.mem_cons_self) (fun c hc => all_of a c (by rw [← hl']; exact List.mem_append_left _ (List.mem_append_left _ hc)))
      subst hp
      rw [ones_list] at hl'
      have hl2 : 49 :: (Str.join (ones 1) (q :: r)).cps.toList = List.replicate a 49 := hl'
      cases a with
      | zero => cases hl2
      | succ a =>
        rw [List.replicate_succ] at hl2
        have h3 := (List.cons.inj hl2).2
        have h4 := ih (fun p hp => hf p (List.mem_cons_of_mem _ hp)) a (str_ext (by rw [h3, ones_list]))
        show ones 0 ++ ones b ++ Str.join (ones b) (q :: r) = ones ((a + 1) * b)
        rw [h4, ones_append, ones_append, Nat.zero_add, Nat.succ_mul, Nat.add_comm]
theorem replace_eq (a b : Nat) : Txt.replace (ones a) (Str.ofString "1") (ones b) = ones (a * b) := by
  have e : Str.ofString "1" = ⟨#[49]⟩ := by decide +kernel
  have e1 : ones 1 = ⟨#[49]⟩ := by decide +kernel
  rw [e, StrLaws.replace_one]
  exact join_ones a b _ (fun p hp => StrLaws.split_free _ _ p hp) a (by rw [e1]; exact StrLaws.join_split _ _)

section
variable {prog : Program} {w : World} {A : Around} {E : Value → Shared → Prop} {s : Shared} {t u v : Tok} {Q : Value → Shared → Prop}
theorem mul_ones {n : Nat} (hn : n ≤ 1000000) (ht : @LT.lt Nat _ 0 t) (ht' : @LT.lt Nat _ t s.toks) (h : ∀ t' k, s.toks ≤ k → @LT.lt Nat _ 0 t' → @LT.lt Nat _ t' k → Q (.str (ones n) t') { s with toks := k }) : wpAny (model prog w) A (binaryOp .Mult (.str (Str.ofString "1") t) (.int (n : Int) u)) Q E s := by
  have hl1 : (Str.ofString "1").length = 1 := by rw [ones_one, ones_len]
  refine P.mul_str (by simp; omega) (fun h1 _ => ?_) (fun h1 _ => ?_) ?_
  · rw [hl1]
    have : (1 : Int) ≤ (2 ^ 63 - 1) / (n : Int) := Int.le_ediv_of_mul_le (Int.lt_of_lt_of_le (by decide) (Int.not_lt.mp h1)) (by rw [Int.one_mul]; exact Int.le_sub_one_of_lt (j3 hn (by decide +kernel)))
    simp only [Int.natCast_one]; exact Int.not_lt.mpr this
  · rw [hl1]; unfold Builtin.Str.tooLong; rw [sizeLine_eq]; exact decide_eq_false (Nat.not_lt.mpr (Nat.le_trans (Nat.le_of_eq (Nat.one_mul n)) (o1 hn rfl)))
  · have hm := mul_eq n
    unfold Txt.mul at hm
    split
    · rename_i h1
      rw [if_pos h1] at hm
      rw [hm]
      exact ⟨by rw [ones_len, sizeLine_eq]; omega, h _ _ (Nat.le_succ _) (Nat.lt_of_le_of_lt (Nat.zero_le _) ht') (Nat.lt_succ_self _)⟩
    · rename_i h1
      rw [if_neg h1] at hm
      split
      · rename_i h2
        rw [if_pos h2] at hm
        rw [hm]
        exact h _ _ (Nat.le_refl _) ht ht'
      · rename_i h2
        rw [if_neg h2] at hm
        rw [hm]
        exact ⟨by rw [ones_len, sizeLine_eq]; omega, h _ _ (Nat.le_succ _) (Nat.lt_of_le_of_lt (Nat.zero_le _) ht') (Nat.lt_succ_self _)⟩
theorem add_ones {a b : Nat} (hn : a + b ≤ 1000000) (ht : @LT.lt Nat _ 0 t) (ht' : @LT.lt Nat _ t s.toks) (hu : @LT.lt Nat _ 0 u) (hu' : @LT.lt Nat _ u s.toks) (h : ∀ t' k, s.toks ≤ k → @LT.lt Nat _ 0 t' → @LT.lt Nat _ t' k → Q (.str (ones (a + b)) t') { s with toks := k }) :
    wpAny (model prog w) A (binaryOp .Add (.str (ones a) t) (.str (ones b) u)) Q E s := by
  refine P.add_str ?_
  split
  · rename_i h1
    rw [ones_len] at h1
    have : a = 0 := by simpa using h1
    subst this
    have := h u s.toks (Nat.le_refl _) hu hu'
    rw [Nat.zero_add] at this
    exact this
  · split
    · rename_i h1
      rw [ones_len] at h1
      have : b = 0 := by simpa using h1
      subst this
      exact h t s.toks (Nat.le_refl _) ht ht'
    · rw [ones_append]
      exact ⟨by rw [ones_len, sizeLine_eq]; omega, h _ _ (Nat.le_succ _) (Nat.lt_of_le_of_lt (Nat.zero_le _) ht') (Nat.lt_succ_self _)⟩
theorem join_ones1 {D : Addr} {a : Nat} {t1 : Tok} (hl : s.heap.IsList D #[.str (ones a) t1]) (ha : a ≤ 1000000) (h : Q (.str (ones a) t1) s) : wpAny (model prog w) A (call (.builtin "str.join") [.str (Str.ofString "") t, .ref D]) Q E s := by
  refine call_meets F.slot_str_join (typeIs_str _ _ _) F.entry_str_join (F.args_str_join_2 _ _) (meets_str_join_list (Str.ofString "") t D [(ones a, t1)] ?_) ⟨hl, h⟩
  show Builtin.Str.tooLong (0 + (ones a).length + (Str.ofString "").length) = false
  rw [ones_nil, ones_len, ones_len]
  unfold Builtin.Str.tooLong; rw [sizeLine_eq]; exact decide_eq_false (Nat.not_lt.mpr (Nat.le_trans (Nat.le_of_eq (Nat.zero_add a)) (o1 ha rfl)))
theorem join_ones2 {D : Addr} {a b : Nat} {t1 t2 : Tok} (hl : s.heap.IsList D #[.str (ones a) t1, .str (ones b) t2]) (ha : a + b ≤ 1000000) (h : Q (.str (ones (a + b)) s.toks) { s with toks := s.toks + 1 }) : wpAny (model prog w) A (call (.builtin "str.join") [.str (Str.ofString "") t, .ref D]) Q E s := by
  refine call_meets F.slot_str_join (typeIs_str _ _ _) F.entry_str_join (F.args_str_join_2 _ _) (meets_str_join_list (Str.ofString "") t D [(ones a, t1), (ones b, t2)] ?_) ⟨hl, ?_⟩
  · show Builtin.Str.tooLong (0 + (ones a).length + (Str.ofString "").length + (ones b).length + (Str.ofString "").length) = false
    rw [ones_nil, ones_len, ones_len, ones_len]
    unfold Builtin.Str.tooLong; rw [sizeLine_eq, Nat.zero_add]; exact decide_eq_false (Nat.not_lt.mpr (o1 ha rfl))
  · show (Made.str (Builtin.Str.glued (Str.ofString "") [ones a, ones b])).post _ s
    have e : Builtin.Str.glued (Str.ofString "") [ones a, ones b] = ones (a + b) := join_eq2 a b
    rw [e]
    exact ⟨by rw [ones_len, sizeLine_eq]; omega, h⟩
theorem replace_ones {a b : Nat} (ha : a ≤ 3000) (hb : b ≤ 3000) (ht : @LT.lt Nat _ 0 t) (ht' : @LT.lt Nat _ t s.toks) (hv : @LT.lt Nat _ 0 v) (huv : @LT.lt Nat _ v u) (hu : @LT.lt Nat _ u s.toks) (hnb : NoneBooked s.heap)
    (h : ∀ t' k, s.toks ≤ k → @LT.lt Nat _ 0 t' → @LT.lt Nat _ t' k → Q (.str (ones (a * b)) t') { s with toks := k }) :
    wpAny (model prog w) A (call (.builtin "str.replace") [.str (ones a) t, .str (Str.ofString "1") u, .str (ones b) v]) Q E s := by
  have h1 : (Builtin.Str.occurrences (ones a) (Str.ofString "1") 0 (ones a).length ((ones a).length + 1)).length * (ones b).length ≤ (a + 1) * b := by
    have := StrLaws.occ_length_le (ones a) (Str.ofString "1") 0 (ones a).length ((ones a).length + 1)
    rw [ones_len b]
    refine Nat.mul_le_mul_right _ (Nat.le_trans this ?_)
    rw [ones_len]
    exact Nat.le_refl _
  have h2 : (a + 1) * b ≤ 3001 * 3000 := Nat.mul_le_mul (by omega) hb
  have hl : Builtin.Str.tooLong ((ones a).length + (Builtin.Str.occurrences (ones a) (Str.ofString "1") 0 (ones a).length ((ones a).length + 1)).length * (ones b).length) = false := by
    unfold Builtin.Str.tooLong
    rw [sizeLine_eq, ones_len a] 
    rw [ones_len a] at h1
    exact decide_eq_false (Nat.not_lt.mpr (q7 ha (Nat.le_trans h1 h2) rfl))
  have h3 : a * b ≤ 16777216 := by
    exact Nat.le_trans (Nat.mul_le_mul_right _ (Nat.le_succ _)) (o1 h2 rfl)
  have hu0 : u ≠ 0 := Nat.ne_of_gt (Nat.lt_trans hv huv)
  have hv0 : v ≠ 0 := Nat.ne_of_gt hv
  have huv0 : u ≠ v := Nat.ne_of_gt huv
  refine call_givesAt F.slot_str_replace (typeIs_str _ _ _) F.entry_str_replace (F.args_str_replace_3 _ _ _)
    (gives_str_replace2 (ones a) (Str.ofString "1") (ones b) t u v fun _ => ⟨by simp [hu0, hv0], by simp [huv0], hl⟩) hnb ?_
  have he := replace_eq a b
  unfold Txt.replace at he
  have fresh : (ones (a * b)).length ≤ sizeLine ∧ Q (.str (ones (a * b)) s.toks) { s with toks := s.toks + 1 } :=
    ⟨by rw [ones_len, sizeLine_eq]; exact h3, h _ _ (Nat.le_succ _) (Nat.lt_of_le_of_lt (Nat.zero_le _) ht') (Nat.lt_succ_self _)⟩
  split
  · rename_i hc
    rw [if_pos hc] at he
    rw [he]
    exact h _ _ (Nat.le_refl _) ht ht'
  · rename_i hc
    rw [if_neg hc] at he
    split
    · rename_i hyz
      have e : Str.ofString "1" = ones b := eq_of_beq hyz
      have hb1 : b = 1 := by have := congrArg Str.length e; rw [ones_one, ones_len, ones_len] at this; exact this.symm
      subst hb1
      rw [he]
      dsimp only [Made.post]
      rw [Nat.mul_one] at fresh ⊢
      refine ⟨?_, fresh⟩
      have := h t s.toks (Nat.le_refl _) ht ht'
      rw [Nat.mul_one] at this
      exact this
    · rw [he]
      exact fresh
end
theorem none_booked {w : World} {h : Heap} (X : (hd.heap_1 w.params).In h) : NoneBooked h := ⟨_, .of_isNs (isNs_of_in X (by kernel_rfl)), nsMap_none_of_in X (by kernel_rfl) (by kernel_rfl)⟩
theorem str_eqs : (Str.ofString "succ" == Str.ofString "succ") = true ∧ (Str.ofString "plus" == Str.ofString "succ") = false ∧ (Str.ofString "times" == Str.ofString "succ") = false ∧ (Str.ofString "succ" == Str.ofString "times") = false ∧ (Str.ofString "plus" == Str.ofString "times") = false ∧ (Str.ofString "times" == Str.ofString "times") = true := by decide +kernel
theorem str_e1 : (Str.ofString "succ" == Str.ofString "succ") = true := str_eqs.1
theorem str_e2 : (Str.ofString "plus" == Str.ofString "succ") = false := str_eqs.2.1
theorem str_e3 : (Str.ofString "times" == Str.ofString "succ") = false := str_eqs.2.2.1
section
variable {prog : Program} {w : World} {A : Around} {E : Value → Shared → Prop} {s : Shared} {t u : Tok} {Q : Value → Shared → Prop}
theorem mul_ones_one {i : Int} (hi : i = 1) (ht : @LT.lt Nat _ 0 t) (ht' : @LT.lt Nat _ t s.toks) (h : ∀ t' k, s.toks ≤ k → @LT.lt Nat _ 0 t' → @LT.lt Nat _ t' k → Q (.str (ones 1) t') { s with toks := k }) : wpAny (model prog w) A (binaryOp .Mult (.str (Str.ofString "1") t) (.int i u)) Q E s := by
  subst hi
  exact mul_ones (n := 1) (by omega) ht ht' h
theorem mul_ones_nil {i : Int} (hi : i = 0) (ht : @LT.lt Nat _ 0 t) (ht' : @LT.lt Nat _ t s.toks) (h : ∀ t' k, s.toks ≤ k → @LT.lt Nat _ 0 t' → @LT.lt Nat _ t' k → Q (.str (ones 0) t') { s with toks := k }) : wpAny (model prog w) A (binaryOp .Mult (.str (Str.ofString "1") t) (.int i u)) Q E s := by
  subst hi
  exact mul_ones (n := 0) (by omega) ht ht' h
end
theorem w30 : True := by
  w_top off
  k_with_none
  k_with "my k_all" => (k_dflt (first | assumption | exact all_ne_sub9 (by assumption) (by k_extra "my sub") | exact all_ne_u0 (by assumption) (by k_extra "my sub") | exact all_ne_u1 (by assumption) (by k_extra "my sub") | exact all_ne_u2 (by assumption) (by k_extra "my sub") | exact all_ne_u3 (by assumption) (by k_extra "my sub") | exact all_ne_u4 (by assumption) (by k_extra "my sub") | (refine List.forall_mem_append.mpr ⟨?_, ?_⟩ <;> k_all)))
  k_with "my ktr_room" => (((try simp only [depth_under_make, depth_under_kw, depth_in1, depth_deeper, depth_caller]); (try dsimp only [ktrTop]); (try simp only [recursionLimit]); k_extra "my room"))
  k_with "my room" => (first | exact Nat.le_of_ble_eq_true rfl | exact rm0 hd rfl | exact rm1 hd rfl | exact rm5 hd rfl | exact rm6 hd rfl | exact rm4 hd rfl | exact rm2 hd rfl | exact rm3 hd rfl | exact rm7 hd rfl | exact rm8 (by assumption) rfl | omega)
  k_with "my units" => (first | exact Nat.le_of_ble_eq_true rfl | exact rm0 hu rfl | exact rm1 hu rfl | exact rm5 hu rfl | exact rm6 hu rfl | exact rm4 hu rfl | exact rm2 hu rfl | exact rm3 hu rfl | exact rm7 hu rfl | exact rm8 (by assumption) rfl | exact um1 hu rfl | exact um2 hu rfl | exact um3 hu rfl | exact um4 hu rfl | exact um5 hu rfl | (have hcL9 := cLine_is; omega))
  k_with "my dep" => (first | assumption | exact dm1 hdp | exact dm2 hdp | exact dm0 hdp | omega)
  k_with "my ktr_units" => (((try simp only [units_in1, units_deeper, Around.mark_units, units_caller]); (try dsimp only [ktrTop]); k_extra "my units"))
  k_with "my k_room" => (ktr_room)
  k_with "my k_units" => (ktr_units)
  k_with "my units_room" => (ktr_units)
  k_with "compareOp Eq ref ref" => ((k_here; (with_reducible show wpAny _ _ (compareOp CmpOp.Eq (Value.ref _) (Value.ref _)) _ _ _); first
      | refine' eq_zero_f (by assumption) (by assumption) (by k_extra "my sub") (by k_mem) (by first | rfl | exact mkOf_zero) (by omega) (by ktr_units) ?_
      | refine' eq_zero_t (by assumption) (by assumption) (by k_extra "my sub") (by k_mem) rfl (by omega) (by ktr_units) ?_))
  k_with "my k_ne" => (k_dflt (first | exact off_I (by assumption) (by k_mem) | exact off_C (by assumption) (by k_mem) | exact off_D (by assumption) (by k_mem) | assumption | exact ne_gt9 (by assumption) (by k_mem) | exact ne_lt9 (by assumption) (by k_mem) | exact ne_all9 (by assumption) (by k_mem) | exact ne_all9s (by assumption) (by k_mem) | exact ne_gt_u1 (by assumption) (by k_mem) | exact ne_lt_u1 (by assumption) (by k_mem) | exact ne_gt_u2 (by assumption) (by k_mem) | exact ne_lt_u2 (by assumption) (by k_mem) | exact ne_gt_u3 (by assumption) (by k_mem) | exact ne_lt_u3 (by assumption) (by k_mem) | exact ne_gt_u4 (by assumption) (by k_mem) | exact ne_lt_u4 (by assumption) (by k_mem)))
  k_with "my off" => (first | exact True.intro | (refine And.intro (off_at (by assumption) (by k_mem)) ?_; k_extra "my off") | (refine Off3.append ?_ ?_ <;> k_extra "my off") | (refine Off3.of_sub (by assumption) (fun p hp => ?_); simp only [List.mem_cons, List.mem_append, hp, true_or, or_true]; done) | (refine Off3.of_lt (by assumption) (by k_mem) (by k_mem) (by k_mem)))
  k_with "CompSrc" => ((k_here; k_dflt (refine LCg.CompSrc.range (by rfl) (by k_asm) (by k_asm) (by with_reducible assumption) (by first | decide | rfl) (by first | rfl | decide) (by first | size_fits | exact Nat.le_of_ble_eq_true rfl) ?_; intro g'; lcg_lit)))
  k_with "CompRest" => ((with_unfolding_all first
      | (refine CompRest_at (fun v9 h9 => (Option.some.inj h9).symm) ?_; intro I' oI' C' oC' D' m' h' tk' E' hC' hx' F' N' off' ne'; have offM := off'.mem; clear off')
      | (refine CompRest_ex (fun v9 h9 => h9) ?_; intro t9' I' oI' C' oC' D' m' h' tk' E' hC' hx' F' N' off' ne'; have offM := off'.mem; clear off')
      | (refine LCg.CompRest.succ ?_; intro v' I' oI' C' oC' D' m' h' tk' E' hv' hC' hx' F' N' off' ne'; have offM := off'.mem; (first | lcg_open hv' | (obtain ⟨t9', hv9'⟩ := hv'; subst hv9')); clear off')
      | refine LCg.CompRest.zero ?_))
  k_with "CompEnd" => ((k_here; (refine LCg.CompEnd.intro (by assumption) (by assumption) _ (fun p hp => hp) ?offAO ?srcAO ?_; (case offAO => k_extra "my off"); (case srcAO => first | lcg_src | ((try dsimp only); k_mem)))))
  k_with "my enter" => ((refine' code_def ?k1AP ?k2AP ?k3AP ?k4AP ?k5AP ?kAAP ?kFAP ?kKAP ?k6AP ?k7AP ?k8AP ?k9AP ?kBAP ?_ ?c2AP ?c3AP ?c4AP ?c5AP; (case kAAP => exact rfl); (case kFAP => exact rfl); (case kKAP => first | exact rfl | assumption); (case k1AP => k_asm); (case k2AP => k_asm); (case k3AP => k_asm); (case k4AP => k_asm); (case k5AP => k_asm); (case k6AP => k_is); (case k7AP => k_is); (case k8AP => ktr_room); (case k9AP => exact BindsTo.of_eq rfl); (case c5AP => decide); (case kBAP => exact locs rfl); (case c2AP => exact rfl); (case c3AP => exact rfl); (case c4AP => exact rfl); k_whole; intro g' L' h' FG' F' N' B' X' T'; (try dsimp only); (try k_fold)))
  k_with "my enterC" => ((refine' code_defC ?k1AQ ?k2AQ ?k3AQ ?k4AQ ?k5AQ ?kAAQ ?kFAQ ?kKAQ ?k6AQ ?k7AQ ?k8AQ ?k9AQ ?kBAQ ?kDAQ ?_ ?c2AQ ?c3AQ ?c4AQ; (case kAAQ => exact rfl); (case kFAQ => exact rfl); (case kKAQ => first | exact rfl | assumption); (case k1AQ => k_asm); (case k2AQ => k_asm); (case k3AQ => k_asm); (case k4AQ => k_asm); (case k5AQ => k_asm); (case k6AQ => k_is); (case k7AQ => k_is); (case k8AQ => ktr_room); (case k9AQ => exact BindsTo.of_eq rfl); (case kBAQ => exact rfl); (case kDAQ => decide +kernel); (case c2AQ => exact rfl); (case c3AQ => exact rfl); (case c4AQ => exact rfl); k_whole; intro g' L' h' tk' cells' FG' F'; (first | (refine cells_in1 ?_; intro o' d1' N') | (refine cells_in2 ?_; intro o' o2' d1' d2' N') | (refine cells_in3 ?_; intro o' o2' o3' d1' d2' d3' N') | (refine cells_in4 ?_; intro o' o2' o3' o4' d1' d2' d3' d4' N')); intro B' X' T' l1; (try k_lt l1); (try dsimp only); (try k_fold)))
  k_with "eval ListComp" => ((k_here; (with_reducible show wpAny _ _ (eval (Expr.ListComp _ [⟨Expr.Name _ _, Expr.Subscript _ (Expr.Slice (some _) _ _ _) _, [], 0⟩] _ _) _) _ _ _); k_dflt (refine comp_tup (by k_asm) (by with_unfolding_all rfl) (by decide) (by rfl) (by decide) (by rfl) ?_)))
  k_with "exec Assign cons ListComp" => ((k_here; (with_reducible show wpAny _ _ (exec (Stmt.Assign [Expr.Name _ _] (Expr.ListComp _ [⟨Expr.Name _ _, Expr.Subscript _ (Expr.Slice (some _) _ _ _) _, [], 0⟩] _ _) _) _) _ _ _); k_dflt (refine comp_tup_assign (by k_asm) (by rfl) (by with_unfolding_all rfl) (by with_unfolding_all rfl) (by decide) (by rfl) (by decide) (by rfl) (by rfl) (by rfl) ?_)))
  k_with "subscriptTail Name Slice ref ref" => ((k_here; (with_reducible show wpAny _ _ (subscriptTail _ (PySem.Expr.Slice (some _) none none _) (Value.ref _) (Value.ref _)) _ _ _); k_dflt (refine' slice_tup1 ?FAT ?NAT ?lAT ?pAT ?eAT ?_ ?sAT ?tAT ?zAT; (case FAT => k_asm); (case NAT => k_asm); (case lAT => k_mem); (case pAT => exact Nat.le_of_ble_eq_true rfl); (case eAT => kl_lit); (case sAT => with_unfolding_all rfl); (case tAT => kmk_pure); (case zAT => kmk_size)); intro D' h' F' N' l1; (try k_lt l1); (try k_sweep)))
  k_with "TupSrc" => ((k_here; k_dflt (refine TupSrc.of (by rfl) (by k_asm) (by k_asm) (by k_mem) (by first | size_fits | exact Nat.le_of_ble_eq_true rfl) ?_; intro g'; lcg_lit)))
  k_with "my steps" => (repeat' ((fail_if_success (with_reducible show Ret _ _ _)); first | ((with_reducible show wpAny _ _ (call (Value.ref _) _ _) _ _ _); k_extra "my call") | ((fail_if_success ((with_reducible show wpAny _ _ (call (Value.ref _) _ _) _ _ _); k_extra "my nocall")); first | (k_unfold; (try dsimp only)) | walk1 | (dsimp only; walk1) | (leave1; walk_say "STEP leave1"; try dsimp only))))
  k_with "my sub" => (first | (with_reducible exact sub_self _) | (with_reducible refine sub_cons ?_; k_extra "my sub") | (with_reducible refine sub_left ?_; k_extra "my sub") | (with_reducible refine sub_right ?_; k_extra "my sub") | (intro p hp; simp only [List.mem_cons, List.mem_append, hp, true_or, or_true]; done))
  k_with "my ord" => (k_dflt (first | assumption | exact lt_all (by assumption) (by k_mem) | exact lt_all_u1 (by assumption) (by k_mem) | exact lt_all_u2 (by assumption) (by k_mem) | omega))
  k_with "my allLt" => (first | exact allLt_of (by assumption) | exact allLt_sub (by assumption) (by k_extra "my sub") | tbn_find)
  k_with "FinE" => (((unfold LCg.FinE); intro D' h' tk' F' N' o1'; replace o1' := off1_mem o1'; (try dsimp only [List.nil_append, List.cons_append] at N'); (try dsimp only [List.nil_append, List.cons_append] at o1'); (try dsimp only)))
  k_with "FinA" => (((unfold LCg.FinA); intro D' h' tk' F' N' o1'; replace o1' := off1_mem o1'; (try dsimp only [List.nil_append, List.cons_append] at N'); (try dsimp only [List.nil_append, List.cons_append] at o1'); (try dsimp only)))
  k_with "my omega" => (first
      | ((with_reducible show @LE.le Nat _ _ _); first | exact Nat.le_of_ble_eq_true rfl | with_reducible (first | exact o1 ‹_› (by decide) | exact o4 ‹_› (by decide) | exact o7 ‹_› (by decide) | exact o8 ‹_› (by decide) | exact o9 ‹_› (by decide) | exact q6 ‹_› (by decide) | exact q0 ‹_› (by decide) | exact r0 ‹_› (by decide) | exact q1 ‹_› ‹_› (by decide) | exact q3 ‹_› ‹_› (by decide) | exact q7 ‹_› ‹_› (by decide) | exact q8 ‹_› ‹_› (by decide) | exact q9 ‹_› ‹_› | exact r1 ‹_› ‹_› (by decide) | exact r2 ‹_› ‹_› | exact r4 ‹_› ‹_› | exact r8 ‹_› ‹_› (by decide) | exact o0 ‹_› (by decide) | exact Nat.add_le_add ‹_› ‹_› | exact Nat.le_add_left _ _ | exact Nat.le_of_lt ‹_›))
      | ((with_reducible show @LT.lt Nat _ _ _); first | exact Nat.le_of_ble_eq_true rfl | with_reducible (first | exact o2 ‹_› (by decide) | exact o3 ‹_› (by decide) | exact o5 ‹_› (by decide) | exact o6 ‹_› (by decide) | exact p5 ‹_› (by decide) | exact j6 ‹_› (by decide) | exact q2 ‹_› ‹_› (by decide) | exact q4 ‹_› ‹_› (by decide) | exact q5 ‹_› ‹_› (by decide) | exact p1 ‹_› ‹_› (by decide) | exact p2 ‹_› ‹_› (by decide) | exact p3 ‹_› ‹_› (by decide) | exact p4 ‹_› ‹_› (by decide) | exact p6 ‹_› ‹_› (by decide)))
      | ((with_reducible show @LE.le Int _ _ _); first | decide +kernel | with_reducible (first | exact i1 ‹_› | exact i2 ‹_› | exact i6 | exact i7 | exact j7 ‹_› | exact j4 ‹_› (by decide +kernel) | exact i8 ‹_› (by decide +kernel) | exact i9 ‹_› (by decide +kernel) | exact i3 ‹_› ‹_› | exact i4 ‹_› ‹_› | exact i5 ‹_› ‹_›))
      | ((with_reducible show @LT.lt Int _ _ _); first | decide +kernel | with_reducible (first | exact j1 ‹_› | exact j5 (by decide +kernel) | exact j3 ‹_› (by decide +kernel) | exact j8 ‹_› (by decide +kernel) | exact j9 ‹_› (by decide +kernel) | exact l1 ‹_› (by decide +kernel) | exact l2 ‹_› (by decide +kernel) | exact l3 ‹_› (by decide +kernel) | exact j0 ‹_› ‹_› (by decide +kernel)))
      | ((with_reducible show @Ne Nat _ _); with_reducible (first | exact Nat.ne_of_gt ‹_› | exact Nat.ne_of_lt ‹_› | exact Nat.succ_ne_self _ | exact (Nat.succ_ne_self _).symm))
      | with_reducible (first | exact j2 ‹_› | exact z4 ‹_› ‹_› | exact z6 ‹_› ‹_› | exact z3 ‹_› | exact z2 ‹_› ‹_›))
  trivial
theorem t1 {k : Int} (h : 0 ≤ k) : -(2 ^ 64 : Int) < 3 * (k + 1) := Int.lt_of_lt_of_le (by decide +kernel) (Int.mul_nonneg (by decide) (i1 h))
theorem t2 {k : Int} (h : k < 1000) : 3 * (k + 1) < (2 ^ 64 : Int) := Int.lt_trans (Int.mul_lt_mul_of_pos_left (j9 h (by decide) : k + 1 < 1001) (by decide)) (by decide +kernel)
theorem t3 {k : Int} (h : k < 1000) : k + 1 - 1 < (2 ^ 63 : Int) := (Int.add_sub_cancel k 1).symm ▸ j8 h (by decide +kernel)
theorem t4 {k : Int} (h : 0 ≤ k) : 0 ≤ k + 1 - 1 := (Int.add_sub_cancel k 1).symm ▸ h
theorem t5 {k l : Int} (h : k + 1 ≤ l) : k + 1 - 1 < l := (Int.add_sub_cancel k 1).symm ▸ h
theorem t6 {k : Int} (h : 0 < k) : k ≠ 0 := Int.ne_of_gt h
theorem w30a : True := by
  k_with "my omega" => (with_reducible (first | exact t1 ‹_› | exact t2 ‹_› | exact t3 ‹_› | exact t4 ‹_› | exact t5 ‹_› | exact t6 ‹_›))
  trivial
section
variable {w : World} {mean : ExcName → Option Value} {mg mb : Str → Option Value}
    {dp un : Nat} {gd : Option (List Code)} {cn : Str} {cs : Scope} {a : Addr} {ccd : Value} {cl : List (Str × Addr)} {outer : List Env} {A₀ : Around} {base h₀ : Heap} {L : Addr} {m : Str → Option Value} {news : List (Addr × Obj)} {s : Shared}
    {Q E : Value → Shared → Prop}

theorem take_walk
    {ls lc : Addr} {k many : Int} {tk tk2 : Tok} {n nc : Nat} {vs : List Value} {ns : List Int}
    (B : Below A₀ base outer h₀) (F : Fr h₀ L s.heap m) (X : (hd.heap_1 w.params).In h₀) (N : News h₀ L s.heap ((ls, stockObj lc k tk n) :: (lc, listOf vs.toArray nc) :: news))
    (T : Top view LO mean mg mb h₀) (hk : cs.kind = .function)
    (hne : lc ≠ ls) (hnn : ∀ p ∈ news, p.1 ≠ ls)
    (hi : IntsAre vs ns) (h1 : ns.length ≤ 40)
    (hk0 : 0 ≤ k) (hk1 : k < 1000) (hm0 : 0 < many) (hm1 : many < 100)
    (hd : dp < 900) (hu : un < 5000)
    (ret : ∀ r h' t1 t2 tk', Fr h₀ L h' m → News h₀ L h' ((ls, stockObj lc (k + 1) t1 n) :: (lc, listOf vs.toArray nc) :: news) → 0 ≤ r → r < many → Q (.int r t2) { s with heap := h', toks := tk' }) :
    wpAny (model PySem.Challenge.rw_pq0002_01.row.prog w) (ktrTop dp un gd cn cs L a ccd cl outer) (call (.ref 185) [.ref ls, .int many tk2]) Q E s := by
  refine ret_of (α := Unit) ?_
  refine wpAny_call ?_
  w_strict (k_dflt (k_extra "my enter"))
  k_extra "my steps"
  all_goals (first
    | (rename Fr h₀ L _ m => fX; rename News h₀ L _ _ => nX; exact ret _ _ _ _ _ fX nX (Int.fmod_nonneg_of_pos _ hm0) (Int.fmod_lt_of_pos _ hm0)))

theorem take_use
    {ls lc : Addr} {k many : Int} {tk tk2 : Tok} {n nc : Nat} {vs : List Value} {ns : List Int}
    (B : Below A₀ base outer h₀) (F : Fr h₀ L s.heap m) (X : (hd.heap_1 w.params).In h₀) (N : News h₀ L s.heap news)
    (T : Top view LO mean mg mb h₀) (hk : cs.kind = .function)
    (hls : (ls, stockObj lc k tk n) ∈ news) (hlc : (lc, listOf vs.toArray nc) ∈ news) (hne : lc ≠ ls)
    (hi : IntsAre vs ns) (h1 : ns.length ≤ 40)
    (hk0 : 0 ≤ k) (hk1 : k < 1000) (hm0 : 0 < many) (hm1 : many < 100)
    (hd : dp < 900) (hu : un < 5000)
    (ret : ∀ r h' t1 t2 tk', Fr h₀ L h' m → (∀ news', Upd ls (stockObj lc k tk n) (stockObj lc (k + 1) t1 n) news news' → News h₀ L h' news') → 0 ≤ r → r < many → Q (.int r t2) { s with heap := h', toks := tk' }) :
    wpAny (model PySem.Challenge.rw_pq0002_01.row.prog w) (ktrTop dp un gd cn cs L a ccd cl outer) (call (.ref 185) [.ref ls, .int many tk2]) Q E s := by
  refine take_walk (nc := nc) (n := n) (tk := tk) (news := news.filter (fun p => p.1 ≠ ls)) B F X (fun p hp => ?_) T hk hne (fun p hp => by simpa using (List.mem_filter.mp hp).2) hi h1 hk0 hk1 hm0 hm1 hd hu (fun r h' t1 t2 tk' F' N' hr hr' => ret r h' t1 t2 tk' F' (fun news' U => ?_) hr hr')
  · rcases List.mem_cons.mp hp with rfl | hp
    · exact N _ hls
    rcases List.mem_cons.mp hp with rfl | hp
    · exact N _ hlc
    · exact N _ (List.mem_filter.mp hp).1
  · obtain ⟨pre, post, rfl, rfl, h2, h3⟩ := U.split
    intro p hp
    rcases List.mem_append.mp hp with hp | hp
    · exact N' _ (.tail _ (.tail _ (List.mem_filter.mpr ⟨List.mem_append_left _ hp, by simpa using h2 p hp⟩)))
    rcases List.mem_cons.mp hp with rfl | hp
    · exact N' _ (.head _)
    · exact N' _ (.tail _ (.tail _ (List.mem_filter.mpr ⟨List.mem_append_right _ (.tail _ hp), by simpa using h3 p hp⟩)))
end
theorem w35 : True := by
  w_top off
  trivial
section
variable {w : World} {mean : ExcName → Option Value} {mg mb : Str → Option Value}
    {dp un : Nat} {gd : Option (List Code)} {cn : Str} {cs : Scope} {a : Addr} {ccd : Value} {cl : List (Str × Addr)} {outer : List Env} {A₀ : Around} {base h₀ : Heap} {L : Addr} {m : Str → Option Value} {news : List (Addr × Obj)} {s : Shared}
    {Q E : Value → Shared → Prop}
abbrev kidPairs (t1 t2 t3 t4 t5 t6 : Tok) : List (Value × Value) := [(Value.str (Str.ofString "succ") t1, Value.int 1 t2), (Value.str (Str.ofString "plus") t3, Value.int 2 t4), (Value.str (Str.ofString "times") t5, Value.int 2 t6)]
theorem kids_walk
    (B : Below A₀ base outer h₀) (F : Fr h₀ L s.heap m) (X : (hd.heap_1 w.params).In h₀) (N : News h₀ L s.heap news)
    (T : Top view LO mean mg mb h₀) (hk : cs.kind = .function)
    (hd : dp < 900) (hu : un < 5000)
    (ret : ∀ d o h' t1 t2 t3 t4 t5 t6 tk', Fr h₀ L h' m → News h₀ L h' ((d, o) :: news) → (∀ p ∈ news, p.1 < d) → (d == sysModules) = false → Obj.IsDictOf (PySem.strKind PySem.Challenge.rw_pq0002_01.row.prog w) o (strPairs (kidPairs t1 t2 t3 t4 t5 t6)) → PyProof.V.FlatPairs PyData.str (strPairs (kidPairs t1 t2 t3 t4 t5 t6)) (strData (kidPairs t1 t2 t3 t4 t5 t6)) → Q (.ref d) { s with heap := h', toks := tk' }) :
    wpAny (model PySem.Challenge.rw_pq0002_01.row.prog w) (ktrTop dp un gd cn cs L a ccd cl outer) (call (.ref 178) []) Q E s := by
  refine ret_of (α := Unit) ?_
  refine wpAny_call ?_
  w_strict (k_dflt (k_extra "my enter"))
  k_extra "my steps"
  (rename Fr h₀ L _ m => fX); (rename News h₀ L _ _ => nX)
  exact ret _ _ _ _ _ _ _ _ _ _ fX nX (by assumption) (by assumption) (by assumption) (by assumption)
end
def opOf : Bool → Str
  | true => Str.ofString "plus"
  | false => Str.ofString "times"
def mkOf : Bool → Tm → Tm → Tm
  | true => .plus
  | false => .times
theorem mkOf_depth (q : Bool) (t r : Tm) : (mkOf q t r).depth = max t.depth r.depth + 1 := by cases q <;> rfl
theorem mkOf_zero {q : Bool} {t r : Tm} : (mkOf q t r).isZero = false := by cases q <;> rfl
theorem mkOf_in {q : Bool} {D : Addr} {tk : Tok} {v u : Value} {e : Nat} {t r : Tm} (l : List (Addr × Obj)) (h : (D, tupObj #[.str (opOf q) tk, v, u] e) ∈ l) (h1 : TmIn l v t) (h2 : TmIn l u r) : TmIn l (.ref D) (mkOf q t r) := by
  cases q
  · exact .times h h1 h2
  · exact .plus h h1 h2
theorem op_item {prog : Program} {w : World} {A : Around} {E : Value → Shared → Prop} {s : Shared} {h₀ : Heap} {L t : Addr} {news : List (Addr × Obj)} {value slice : PySem.Expr} {a b c d u : Tok} {n : Nat} {r : Int} {Q : Value → Shared → Prop}
    (N : News h₀ L s.heap news) (hm : (t, tupObj #[.str (Str.ofString "succ") a, .str (Str.ofString "plus") b, .str (Str.ofString "times") c, .str (Str.ofString "plus") d] n) ∈ news) (hr : 3 ≤ r ∧ r ≤ 5)
    (hs : subscripted slice false (.ref t) (.int (r - 2) u) = operate [.ref t, .int (r - 2) u] (getItem (.ref t) (.int (r - 2) u))) (k : ∀ q tk, Q (.str (opOf q) tk) s) : wpAny (model prog w) A (subscriptTail value slice (.ref t) (.int (r - 2) u)) Q E s := by
  rcases (by omega : r = 3 ∨ r = 4 ∨ r = 5) with rfl | rfl | rfl
  · exact item_tupleT (News.isTup N hm) (by decide) (by decide) rfl rfl (k true b) hs
  · exact item_tupleT (News.isTup N hm) (by decide) (by decide) rfl rfl (k false c) hs
  · exact item_tupleT (News.isTup N hm) (by decide) (by decide) rfl rfl (k true d) hs
theorem kids_item {w : World} {A : Around} {E : Value → Shared → Prop} {s : Shared} {h₀ : Heap} {L d : Addr} {o : Obj} {news : List (Addr × Obj)} {t1 t2 t3 t4 t5 t6 u : Tok} {q : Bool} {Q : Value → Shared → Prop}
    (N : News h₀ L s.heap news) (hm : (d, o) ∈ news) (lo : (d == sysModules) = false) (hd : Obj.IsDictOf (PySem.strKind PySem.Challenge.rw_pq0002_01.row.prog w) o (strPairs (kidPairs t1 t2 t3 t4 t5 t6))) (hf : PyProof.V.FlatPairs PyData.str (strPairs (kidPairs t1 t2 t3 t4 t5 t6)) (strData (kidPairs t1 t2 t3 t4 t5 t6)))
    (k : ∀ t, Q (.int 2 t) { s with toks := s.toks + 1 }) : wpAny (model PySem.Challenge.rw_pq0002_01.row.prog w) A (getItem (.ref d) (.str (opOf q) u)) Q E s := by
  have T := TabAt.ofNews N hm lo hd hf
  cases q
  · refine getItem_tab PyProof.V.same_str (strKind_is _ _ _ _) T (by rfl) ?_
    intro v hv
    dict_open hv
    exact k _
  · refine getItem_tab PyProof.V.same_str (strKind_is _ _ _ _) T (by rfl) ?_
    intro v hv
    dict_open hv
    exact k _
theorem TmIn.bin {l : List (Addr × Obj)} {v : Value} {q : Bool} {t r : Tm} (h : TmIn l v (mkOf q t r)) : ∃ a tk u1 u2 e, v = .ref a ∧ (a, tupObj #[.str (opOf q) tk, u1, u2] e) ∈ l ∧ TmIn l u1 t ∧ TmIn l u2 r := by
  cases q
  · cases h with | times hm ht hr => exact ⟨_, _, _, _, _, rfl, hm, ht, hr⟩
  · cases h with | plus hm ht hr => exact ⟨_, _, _, _, _, rfl, hm, ht, hr⟩
theorem w40 : True := by
  w_top off
  trivial
def TermSpec (w : World) (d : Nat) : Prop :=
  ∀ {mean : ExcName → Option Value} {mg mb : Str → Option Value}
    {dp un : Nat} {gd : Option (List Code)} {cn : Str} {cs : Scope} {a : Addr} {ccd : Value} {cl : List (Str × Addr)} {outer : List Env} {A₀ : Around} {base h₀ : Heap} {L : Addr} {m : Str → Option Value} {news : List (Addr × Obj)} {s : Shared}
    {Q E : Value → Shared → Prop}
    {ls lc ln : Addr} {k fl : Int} {tk tk2 : Tok} {t1 t2 t3 t4 : Tok} {n nc nn : Nat} {vs : List Value} {ns : List Int}
    (_ : Below A₀ base outer h₀) (_ : Fr h₀ L s.heap m) (_ : (hd.heap_1 w.params).In h₀) (_ : News h₀ L s.heap news)
    (_ : Top view LO mean mg mb h₀) (_ : cs.kind = .function)
    (_ : (ls, stockObj lc k tk n) ∈ news) (_ : (lc, listOf vs.toArray nc) ∈ news) (_ : (ln, namesObj t1 t2 t3 t4 nn) ∈ news)
    (_ : lc ≠ ls) (_ : ln ≠ ls)
    (_ : IntsAre vs ns) (_ : ns.length ≤ 40)
    (_ : 0 ≤ k) (_ : k + pw d < 900) (_ : fl = (d : Int))
    (_ : dp + 5 * d < 800) (_ : un + 20 * d < 4000)
    (_ : ∀ v t tl k' t1' h' tk', Fr h₀ L h' m → (∀ news', Upd ls (stockObj lc k tk n) (stockObj lc k' t1' n) news news' → News h₀ L h' (news' ++ tl)) → (∀ q ∈ news, ∀ p ∈ tl, q.1 < p.1) → (∀ p ∈ tl, p.1 ≠ ls) → TmIn tl v t → t.depth ≤ d → k ≤ k' → k' ≤ k + pw d → Q v { s with heap := h', toks := tk' }),
    wpAny (model PySem.Challenge.rw_pq0002_01.row.prog w) (ktrTop dp un gd cn cs L a ccd cl outer) (call (.ref 190) [.ref ls, .int fl tk2, .ref ln]) Q E s

def TermCore (w : World) (d : Nat) : Prop :=
  ∀ {mean : ExcName → Option Value} {mg mb : Str → Option Value}
    {dp un : Nat} {gd : Option (List Code)} {cn : Str} {cs : Scope} {a : Addr} {ccd : Value} {cl : List (Str × Addr)} {outer : List Env} {A₀ : Around} {base h₀ : Heap} {L : Addr} {m : Str → Option Value} {news : List (Addr × Obj)} {s : Shared}
    {Q E : Value → Shared → Prop}
    {ls lc ln : Addr} {k fl : Int} {tk tk2 : Tok} {t1 t2 t3 t4 : Tok} {n nc nn : Nat} {vs : List Value} {ns : List Int}
    (_ : Below A₀ base outer h₀) (_ : Fr h₀ L s.heap m) (_ : (hd.heap_1 w.params).In h₀) (_ : News h₀ L s.heap ((ls, stockObj lc k tk n) :: (lc, listOf vs.toArray nc) :: (ln, namesObj t1 t2 t3 t4 nn) :: news))
    (_ : Top view LO mean mg mb h₀) (_ : cs.kind = .function)
    (_ : lc ≠ ls) (_ : ln ≠ ls) (_ : ∀ p ∈ news, p.1 ≠ ls)
    (_ : IntsAre vs ns) (_ : ns.length ≤ 40)
    (_ : 0 ≤ k) (_ : k + pw d < 900) (_ : fl = (d : Int))
    (_ : dp + 5 * d < 800) (_ : un + 20 * d < 4000)
    (_ : ∀ v t tl k' t1' h' tk', Fr h₀ L h' m → News h₀ L h' ((ls, stockObj lc k' t1' n) :: (lc, listOf vs.toArray nc) :: (ln, namesObj t1 t2 t3 t4 nn) :: (news ++ tl)) → (∀ q ∈ (ls, stockObj lc k tk n) :: (lc, listOf vs.toArray nc) :: (ln, namesObj t1 t2 t3 t4 nn) :: news, ∀ p ∈ tl, q.1 < p.1) → TmIn tl v t → t.depth ≤ d → k ≤ k' → k' ≤ k + pw d → Q v { s with heap := h', toks := tk' }),
    wpAny (model PySem.Challenge.rw_pq0002_01.row.prog w) (ktrTop dp un gd cn cs L a ccd cl outer) (call (.ref 190) [.ref ls, .int fl tk2, .ref ln]) Q E s

theorem TermCore.spec {w : World} {d : Nat} (H : TermCore w d) : TermSpec w d := by
  intro mean mg mb dp un gd cn cs a ccd cl outer A₀ base h₀ L m news s Q E ls lc ln k fl tk tk2 t1 t2 t3 t4 n nc nn vs ns B F X N T hk hls hlc hln hne1 hne2 hi h1 hk0 hk1 hfl hd hu ret
  refine H (n := n) (tk := tk) (nc := nc) (nn := nn) (t1 := t1) (t2 := t2) (t3 := t3) (t4 := t4) (news := news.filter (fun p => p.1 ≠ ls)) B F X (fun p hp => ?_) T hk hne1 hne2 (fun p hp => by simpa using (List.mem_filter.mp hp).2) hi h1 hk0 hk1 hfl hd hu (fun v t tl k' t1' h' tk' F' N' htl ht hdp hkk hkk' => ret v t tl k' t1' h' tk' F' (fun news' U => ?_) (fun q hq p hp => ?_) (fun p hp => Nat.ne_of_gt (htl (ls, stockObj lc k tk n) (.head _) p hp)) ht hdp hkk hkk')
  · rcases List.mem_cons.mp hp with rfl | hp
    · exact N _ hls
    rcases List.mem_cons.mp hp with rfl | hp
    · exact N _ hlc
    rcases List.mem_cons.mp hp with rfl | hp
    · exact N _ hln
    · exact N _ (List.mem_filter.mp hp).1
  · obtain ⟨pre, post, rfl, rfl, h2, h3⟩ := U.split
    intro p hp
    rcases List.mem_append.mp hp with hp | hp
    · rcases List.mem_append.mp hp with hp | hp
      · exact N' _ (.tail _ (.tail _ (.tail _ (List.mem_append_left _ (List.mem_filter.mpr ⟨List.mem_append_left _ hp, by simpa using h2 p hp⟩)))))
      rcases List.mem_cons.mp hp with rfl | hp
      · exact N' _ (.head _)
      · exact N' _ (.tail _ (.tail _ (.tail _ (List.mem_append_left _ (List.mem_filter.mpr ⟨List.mem_append_right _ (.tail _ hp), by simpa using h3 p hp⟩)))))
    · exact N' _ (.tail _ (.tail _ (.tail _ (List.mem_append_right _ hp))))
  · by_cases e : q.1 = ls
    · rw [e]; exact htl (ls, stockObj lc k tk n) (.head _) p hp
    · exact htl q (.tail _ (.tail _ (.tail _ (List.mem_filter.mpr ⟨hq, by simpa using e⟩)))) p hp

theorem w40a : True := by
  k_with "call ref" => ((k_here; (with_reducible show wpAny _ _ (call (Value.ref 185) [Value.ref _, Value.int 4 _]) _ _ _); k_dflt (refine' take_use ?k1BD ?k2BD ?k3BD ?k4BD ?k5BD ?kKBD ?k6BD ?k7BD ?k8BD ?k9BD ?k10BD ?k12BD ?k13BD ?k14BD ?k15BD ?k16BD ?k17BD ?_; (case k1BD => k_asm); (case k2BD => k_asm); (case k3BD => k_asm); (case k4BD => k_asm); (case k5BD => k_asm); (case kKBD => first | exact rfl | assumption); (case k6BD => k_mem); (case k7BD => k_mem); (case k8BD => assumption); (case k9BD => assumption); (case k10BD => assumption); (case k12BD => omega); (case k13BD => omega); (case k14BD => omega); (case k15BD => omega); (case k16BD => ktr_room); (case k17BD => ktr_units); k_whole); intro r' h' t1' t2' tk' F' HN' r0' r1'; obtain N' := HN' _ (by k_upd); clear HN'; (try k_sweep); (rcases (by omega : r' = 0 ∨ r' = 1 ∨ r' = 2 ∨ r' = 3) with hr' | hr' | hr' | hr' <;> subst hr')))
  k_with "call ref" => ((k_here; (with_reducible show wpAny _ _ (call (Value.ref 185) [Value.ref _, Value.int 6 _]) _ _ _); k_dflt (refine' take_use ?k1BE ?k2BE ?k3BE ?k4BE ?k5BE ?kKBE ?k6BE ?k7BE ?k8BE ?k9BE ?k10BE ?k12BE ?k13BE ?k14BE ?k15BE ?k16BE ?k17BE ?_; (case k1BE => k_asm); (case k2BE => k_asm); (case k3BE => k_asm); (case k4BE => k_asm); (case k5BE => k_asm); (case kKBE => first | exact rfl | assumption); (case k6BE => k_mem); (case k7BE => k_mem); (case k8BE => assumption); (case k9BE => assumption); (case k10BE => assumption); (case k12BE => omega); (case k13BE => omega); (case k14BE => omega); (case k15BE => omega); (case k16BE => ktr_room); (case k17BE => ktr_units); k_whole); intro r' h' t1' t2' tk' F' HN' r0' r1'; obtain N' := HN' _ (by k_upd); clear HN'; (try k_sweep); (rcases (by omega : r' < 2 ∨ r' = 2 ∨ (3 ≤ r' ∧ r' ≤ 5)) with hr' | hr' | hr' <;> first | subst hr' | skip)))
  k_with "my call" => ((k_here; (with_reducible show wpAny _ _ (call (Value.ref 190) [Value.ref _, Value.int _ _, Value.ref _]) _ _ _); (rename TermSpec _ _ => ih9BF); k_dflt (refine' ih9BF ?k1BF ?k2BF ?k3BF ?k4BF ?k5BF ?kKBF ?k6BF ?k7BF ?k71BF ?k8BF ?k81BF ?k9BF ?k10BF ?k12BF ?k13BF ?k14BF ?k16BF ?k17BF ?_; (case k1BF => k_asm); (case k2BF => k_asm); (case k3BF => k_asm); (case k4BF => k_asm); (case k5BF => k_asm); (case kKBF => first | exact rfl | assumption); (case k6BF => k_mem); (case k7BF => k_mem); (case k71BF => k_mem); (case k8BF => assumption); (case k81BF => assumption); (case k9BF => assumption); (case k10BF => assumption); (case k12BF => omega); (case k13BF => omega); (case k14BF => omega); (case k16BF => ktr_room); (case k17BF => ktr_units); k_whole); intro v' t' tl' k' t1' h' tk' F' HN' htl' hnl' ht' hd' hk0' hk1'; obtain N' := HN' _ (by k_upd); clear HN'; (try dsimp only [List.cons_append, List.nil_append] at N'); (try simp only [List.append_assoc, List.cons_append, List.nil_append] at N'); (try k_sweep)))
  k_with "my call" => ((k_here; (with_reducible show wpAny _ _ (call (Value.ref 178) _ _) _ _ _); k_dflt (refine' kids_walk ?k1BG ?k2BG ?k3BG ?k4BG ?k5BG ?kKBG ?k16BG ?k17BG ?_; (case k1BG => k_asm); (case k2BG => k_asm); (case k3BG => k_asm); (case k4BG => k_asm); (case k5BG => k_asm); (case kKBG => first | exact rfl | assumption); (case k16BG => ktr_room); (case k17BG => ktr_units); k_whole); intro d' o' h' t1' t2' t3' t4' t5' t6' tk' F' N' l1 lo' hd' hf'; (try k_sweep)))
  k_with "subscriptTail" => ((k_here; (with_reducible show wpAny _ _ (subscriptTail _ _ (Value.ref _) (Value.int (_ - 2) _)) _ _ _); k_dflt (refine' op_item ?NBH ?mBH ?rBH ?sBH ?_; (case NBH => k_asm); (case mBH => k_mem); (case rBH => assumption); (case sBH => with_unfolding_all rfl); k_whole); intro q' tq'))
  k_with "getItem ref str" => ((k_here; (with_reducible show wpAny _ _ (getItem (Value.ref _) (Value.str (opOf _) _)) _ _ _); k_dflt (refine' kids_item ?NBI ?mBI ?lBI ?dBI ?fBI ?_; (case NBI => k_asm); (case mBI => k_mem); (case lBI => assumption); (case dBI => assumption); (case fBI => assumption); k_whole); intro tn'))
  k_with "my nocall" => (first | (with_reducible show wpAny _ _ (call (Value.ref 190) _ _) _ _ _) | (with_reducible show wpAny _ _ (call (Value.ref 178) _ _) _ _ _))
  trivial
section
variable {h₀ h' : Heap} {L D ls lc ln : Addr} {m : Str → Option Value} {news all : List (Addr × Obj)} {s : Shared} {Q : Value → Shared → Prop} {k k' : Int} {tk t1' tk2 : Tok} {t1 t2 t3 t4 : Tok} {n nc nn d e tk' : Nat} {vs : List Value}
abbrev TermRet (h₀ : Heap) (L ls lc ln : Addr) (m : Str → Option Value) (news : List (Addr × Obj)) (s : Shared) (Q : Value → Shared → Prop) (k : Int) (tk t1 t2 t3 t4 : Tok) (n nc nn d : Nat) (vs : List Value) : Prop :=
  ∀ v t tl k' t1' h' tk', Fr h₀ L h' m → News h₀ L h' ((ls, stockObj lc k' t1' n) :: (lc, listOf vs.toArray nc) :: (ln, namesObj t1 t2 t3 t4 nn) :: (news ++ tl)) → (∀ q ∈ (ls, stockObj lc k tk n) :: (lc, listOf vs.toArray nc) :: (ln, namesObj t1 t2 t3 t4 nn) :: news, ∀ p ∈ tl, q.1 < p.1) → TmIn tl v t → t.depth ≤ d → k ≤ k' → k' ≤ k + pw d → Q v { s with heap := h', toks := tk' }
theorem term_end {tl : List (Addr × Obj)} {v : Value} {t : Tm} (ret : TermRet h₀ L ls lc ln m news s Q k tk t1 t2 t3 t4 n nc nn d vs) (F : Fr h₀ L h' m) (N : News h₀ L h' all)
    (hls : (ls, stockObj lc k' t1' n) ∈ all) (hlc : (lc, listOf vs.toArray nc) ∈ all) (hln : (ln, namesObj t1 t2 t3 t4 nn) ∈ all) (hnews : ∀ p ∈ news, p ∈ all) (htl : ∀ p ∈ tl, p ∈ all)
    (h1 : ∀ p ∈ tl, ls < p.1) (h2 : ∀ p ∈ tl, lc < p.1) (h3 : ∀ p ∈ tl, ln < p.1) (h4 : ∀ q ∈ news, ∀ p ∈ tl, q.1 < p.1) (ht : TmIn tl v t) (hd : t.depth ≤ d) (hk : k ≤ k') (hk' : k' ≤ k + pw d) : Ret Q v { s with heap := h', toks := tk' } := by
  refine ret v t tl k' t1' h' tk' F (fun p hp => N p ?_) (fun q hq p hp => ?_) ht hd hk hk'
  · rcases List.mem_cons.mp hp with rfl | hp
    · exact hls
    rcases List.mem_cons.mp hp with rfl | hp
    · exact hlc
    rcases List.mem_cons.mp hp with rfl | hp
    · exact hln
    · exact (List.mem_append.mp hp).elim (hnews p) (htl p)
  · rcases List.mem_cons.mp hq with rfl | hq
    · exact h1 p hp
    rcases List.mem_cons.mp hq with rfl | hq
    · exact h2 p hp
    rcases List.mem_cons.mp hq with rfl | hq
    · exact h3 p hp
    · exact h4 q hq p hp
theorem end_leaf {x : Nm} (ret : TermRet h₀ L ls lc ln m news s Q k tk t1 t2 t3 t4 n nc nn d vs) (F : Fr h₀ L h' m) (N : News h₀ L h' all) (hD : (D, tupObj #[.str x.str tk2] e) ∈ all)
    (hls : (ls, stockObj lc k' t1' n) ∈ all) (hlc : (lc, listOf vs.toArray nc) ∈ all) (hln : (ln, namesObj t1 t2 t3 t4 nn) ∈ all) (hnews : ∀ p ∈ news, p ∈ all)
    (h1 : @LT.lt Nat _ ls D) (h2 : @LT.lt Nat _ lc D) (h3 : @LT.lt Nat _ ln D) (hA : AllLt D news) (hk : k ≤ k') (hk' : k' ≤ k + pw d) : Ret Q (.ref D) { s with heap := h', toks := tk' } := by
  refine term_end (tl := [(D, tupObj #[.str x.str tk2] e)]) ret F N hls hlc hln hnews (fun p hp => ?_) (fun p hp => ?_) (fun p hp => ?_) (fun p hp => ?_) (fun q hq p hp => ?_) (.nm (.head _)) (Nat.zero_le _) hk hk'
  all_goals (obtain rfl := List.mem_singleton.mp hp; first | exact hD | exact h1 | exact h2 | exact h3 | exact tb_ltOf hA q hq)
theorem end_suc {tl led : List (Addr × Obj)} {v : Value} {t : Tm} {o1 o2 o3 : Obj} (ret : TermRet h₀ L ls lc ln m news s Q k tk t1 t2 t3 t4 n nc nn (d + 1) vs) (F : Fr h₀ L h' m) (N : News h₀ L h' all) (hD : (D, tupObj #[.str (Str.ofString "succ") tk2, v] e) ∈ all) (ht : TmIn tl v t)
    (hls : (ls, stockObj lc k' t1' n) ∈ all) (hlc : (lc, listOf vs.toArray nc) ∈ all) (hln : (ln, namesObj t1 t2 t3 t4 nn) ∈ all) (hnews : ∀ p ∈ news, p ∈ all) (htl : ∀ p ∈ tl, p ∈ all)
    (h1 : @LT.lt Nat _ ls D) (h2 : @LT.lt Nat _ lc D) (h3 : @LT.lt Nat _ ln D) (hA : AllLt D (news ++ tl))
    (hl : ∀ q ∈ led, ∀ p ∈ tl, q.1 < p.1) (g1 : (ls, o1) ∈ led) (g2 : (lc, o2) ∈ led) (g3 : (ln, o3) ∈ led) (g4 : ∀ p ∈ news, p ∈ led)
    (hd : t.depth ≤ d) (hk : k ≤ k') (hk' : k' ≤ k + pw (d + 1)) : Ret Q (.ref D) { s with heap := h', toks := tk' } := by
  refine term_end (tl := (D, tupObj #[.str (Str.ofString "succ") tk2, v] e) :: tl) ret F N hls hlc hln hnews (fun p hp => ?_) (fun p hp => ?_) (fun p hp => ?_) (fun p hp => ?_) (fun q hq p hp => ?_) (.suc (.head _) (ht.mono fun _ h => .tail _ h)) (Nat.succ_le_succ hd) hk hk'
  · rcases List.mem_cons.mp hp with rfl | hp; exact hD; exact htl p hp
  · rcases List.mem_cons.mp hp with rfl | hp; exact h1; exact hl _ g1 p hp
  · rcases List.mem_cons.mp hp with rfl | hp; exact h2; exact hl _ g2 p hp
  · rcases List.mem_cons.mp hp with rfl | hp; exact h3; exact hl _ g3 p hp
  · rcases List.mem_cons.mp hp with rfl | hp; exact allLt_left hA q hq; exact hl _ (g4 q hq) p hp
theorem end_bin {tl tr led ler : List (Addr × Obj)} {v u : Value} {t r : Tm} {o1 o2 o3 q1 q2 q3 : Obj} {op : Str} (mk : Tm → Tm → Tm) (hmk : (mk t r).depth = max t.depth r.depth + 1) (hin : ∀ l : List (Addr × Obj), (D, tupObj #[.str op tk2, v, u] e) ∈ l → TmIn l v t → TmIn l u r → TmIn l (.ref D) (mk t r))
    (ret : TermRet h₀ L ls lc ln m news s Q k tk t1 t2 t3 t4 n nc nn (d + 1) vs) (F : Fr h₀ L h' m) (N : News h₀ L h' all) (hD : (D, tupObj #[.str op tk2, v, u] e) ∈ all) (ht : TmIn tl v t) (hr : TmIn tr u r)
    (hls : (ls, stockObj lc k' t1' n) ∈ all) (hlc : (lc, listOf vs.toArray nc) ∈ all) (hln : (ln, namesObj t1 t2 t3 t4 nn) ∈ all) (hnews : ∀ p ∈ news, p ∈ all) (htl : ∀ p ∈ tl, p ∈ all) (htr : ∀ p ∈ tr, p ∈ all)
    (h1 : @LT.lt Nat _ ls D) (h2 : @LT.lt Nat _ lc D) (h3 : @LT.lt Nat _ ln D) (hA : AllLt D (news ++ (tl ++ tr)))
    (hl : ∀ q ∈ led, ∀ p ∈ tl, q.1 < p.1) (g1 : (ls, o1) ∈ led) (g2 : (lc, o2) ∈ led) (g3 : (ln, o3) ∈ led) (g4 : ∀ p ∈ news, p ∈ led)
    (hlr : ∀ q ∈ ler, ∀ p ∈ tr, q.1 < p.1) (f1 : (ls, q1) ∈ ler) (f2 : (lc, q2) ∈ ler) (f3 : (ln, q3) ∈ ler) (f4 : ∀ p ∈ news, p ∈ ler)
    (hd : t.depth ≤ d) (hdr : r.depth ≤ d) (hk : k ≤ k') (hk' : k' ≤ k + pw (d + 1)) : Ret Q (.ref D) { s with heap := h', toks := tk' } := by
  refine term_end (tl := (D, tupObj #[.str op tk2, v, u] e) :: (tl ++ tr)) ret F N hls hlc hln hnews (fun p hp => ?_) (fun p hp => ?_) (fun p hp => ?_) (fun p hp => ?_) (fun q hq p hp => ?_) (hin _ (.head _) (ht.mono fun _ h => .tail _ (List.mem_append_left _ h)) (hr.mono fun _ h => .tail _ (List.mem_append_right _ h))) (by rw [hmk]; exact q9 hd hdr) hk hk'
  · rcases List.mem_cons.mp hp with rfl | hp; exact hD; exact (List.mem_append.mp hp).elim (htl p) (htr p)
  · rcases List.mem_cons.mp hp with rfl | hp; exact h1; exact (List.mem_append.mp hp).elim (hl _ g1 p) (hlr _ f1 p)
  · rcases List.mem_cons.mp hp with rfl | hp; exact h2; exact (List.mem_append.mp hp).elim (hl _ g2 p) (hlr _ f2 p)
  · rcases List.mem_cons.mp hp with rfl | hp; exact h3; exact (List.mem_append.mp hp).elim (hl _ g3 p) (hlr _ f3 p)
  · rcases List.mem_cons.mp hp with rfl | hp; exact allLt_left hA q hq; exact (List.mem_append.mp hp).elim (hl _ (g4 q hq) p) (hlr _ (f4 q hq) p)
end
theorem w40b : True := by
  k_with "my end" => (((with_reducible show Ret _ (Value.ref _) _); first
      | exact end_leaf (x := .zero) (by assumption) (by assumption) (by assumption) (by k_mem) (by k_mem) (by k_mem) (by k_mem) (by k_extra "my sub") (by k_extra "my ord") (by k_extra "my ord") (by k_extra "my ord") (by k_extra "my allLt") (by omega) (by omega)
      | exact end_leaf (x := .x) (by assumption) (by assumption) (by assumption) (by k_mem) (by k_mem) (by k_mem) (by k_mem) (by k_extra "my sub") (by k_extra "my ord") (by k_extra "my ord") (by k_extra "my ord") (by k_extra "my allLt") (by omega) (by omega)
      | exact end_leaf (x := .y) (by assumption) (by assumption) (by assumption) (by k_mem) (by k_mem) (by k_mem) (by k_mem) (by k_extra "my sub") (by k_extra "my ord") (by k_extra "my ord") (by k_extra "my ord") (by k_extra "my allLt") (by omega) (by omega)
      | exact end_leaf (x := .succ) (by assumption) (by assumption) (by assumption) (by k_mem) (by k_mem) (by k_mem) (by k_mem) (by k_extra "my sub") (by k_extra "my ord") (by k_extra "my ord") (by k_extra "my ord") (by k_extra "my allLt") (by omega) (by omega)
      | exact end_suc (by assumption) (by assumption) (by assumption) (by k_mem) (by assumption) (by k_mem) (by k_mem) (by k_mem) (by k_extra "my sub") (by k_extra "my sub") (by k_extra "my ord") (by k_extra "my ord") (by k_extra "my ord") (by k_extra "my allLt") (by assumption) (by k_mem) (by k_mem) (by k_mem) (by k_extra "my sub") (by assumption) (by omega) (by omega)
      | exact end_bin (mkOf _) (mkOf_depth _ _ _) mkOf_in (by assumption) (by assumption) (by assumption) (by k_mem) (by assumption) (by assumption) (by k_mem) (by k_mem) (by k_mem) (by k_extra "my sub") (by k_extra "my sub") (by k_extra "my sub") (by k_extra "my ord") (by k_extra "my ord") (by k_extra "my ord") (by k_extra "my allLt") (by assumption) (by k_mem) (by k_mem) (by k_mem) (by k_extra "my sub") (by assumption) (by k_mem) (by k_mem) (by k_mem) (by k_extra "my sub") (by assumption) (by assumption) (by omega) (by omega)))
  trivial
theorem pwS {d : Nat} : ((pw (d + 1) : Nat) : Int) = (pw d : Int) + (pw d : Int) + 1 := by
  show ((2 * pw d + 1 : Nat) : Int) = _
  rw [Nat.two_mul]; rfl
theorem pw1 {d : Nat} : (1 : Int) ≤ (pw d : Int) := Int.ofNat_le.mpr (by cases d <;> simp [pw])
section
variable {k k' k1 : Int} {d : Nat}
theorem pwe : k + 1 + (pw d : Int) + (pw d : Int) = k + ((pw (d + 1) : Nat) : Int) := by rw [pwS, Int.add_assoc, Int.add_assoc k, Int.add_comm 1]
theorem w4 (hk1 : k + ((pw (d + 1) : Nat) : Int) < 900) (h : k' ≤ k + 1 + (pw d : Int)) : k' + (pw d : Int) < 900 := Int.lt_of_le_of_lt (Int.add_le_add_right h _) (pwe ▸ hk1)
theorem w3 (hk1 : k + ((pw (d + 1) : Nat) : Int) < 900) : k + 1 + (pw d : Int) < 900 := Int.lt_of_le_of_lt (Int.le_add_of_nonneg_right (Int.natCast_nonneg (pw d))) (pwe ▸ hk1 : k + 1 + (pw d : Int) + (pw d : Int) < 900)
theorem w2 (hk1 : k + ((pw (d + 1) : Nat) : Int) < 900) : k + 1 < 1000 := Int.lt_of_le_of_lt (Int.le_add_of_nonneg_right (Int.natCast_nonneg (pw d))) (Int.lt_trans (w3 hk1) (by decide))
theorem w1 (hk1 : k + ((pw d : Nat) : Int) < 900) : k < 1000 := Int.lt_of_le_of_lt (Int.le_add_of_nonneg_right (Int.natCast_nonneg (pw d))) (Int.lt_trans hk1 (by decide))
theorem w6 (h : k' ≤ k + 1 + (pw d : Int)) : k' ≤ k + ((pw (d + 1) : Nat) : Int) := pwe (k := k) (d := d) ▸ Int.le_trans h (Int.le_add_of_nonneg_right (Int.natCast_nonneg (pw d)))
theorem w7 (h : k' ≤ k1 + (pw d : Int)) (h2 : k1 ≤ k + 1 + (pw d : Int)) : k' ≤ k + ((pw (d + 1) : Nat) : Int) := pwe (k := k) (d := d) ▸ Int.le_trans h (Int.add_le_add_right h2 _)
theorem w5 : k + 1 + 1 ≤ k + ((pw (d + 1) : Nat) : Int) := w6 (Int.add_le_add_left pw1 _)
theorem w0 : k + 1 ≤ k + ((pw 0 : Nat) : Int) := Int.le_refl _
end
theorem w40c : True := by
  k_with "my omega" => (with_reducible (first | exact w1 ‹_› | exact w2 ‹_› | exact w3 ‹_› | exact w4 ‹_› ‹_› | exact w5 | exact w6 ‹_› | exact w7 ‹_› ‹_› | exact w0))
  trivial
theorem term_step {w : World} {d : Nat} (IH : TermSpec w d) : TermCore w (d + 1) := by
  intro mean mg mb dp un gd cn cs a ccd cl outer A₀ base h₀ L m news s Q E ls lc ln k fl tk tk2 t1 t2 t3 t4 n nc nn vs ns B F X N T hk hne1 hne2 hnn hi h1 hk0 hk1 hfl hd hu ret
  have hpw : pw (d + 1) = 2 * pw d + 1 := rfl
  have hpw0 : 1 ≤ pw d := by cases d <;> simp [pw]
  refine ret_of (α := Unit) ?_
  refine wpAny_call ?_
  w_strict (k_dflt (k_extra "my enterC"))
  k_extra "my steps"
  all_goals (try dsimp only at *)
  all_goals (k_extra "my end")
theorem term_zero {w : World} : TermCore w 0 := by
  intro mean mg mb dp un gd cn cs a ccd cl outer A₀ base h₀ L m news s Q E ls lc ln k fl tk tk2 t1 t2 t3 t4 n nc nn vs ns B F X N T hk hne1 hne2 hnn hi h1 hk0 hk1 hfl hd hu ret
  have hpw : pw 0 = 1 := rfl
  have hfl0 : fl = 0 := hfl
  refine ret_of (α := Unit) ?_
  refine wpAny_call ?_
  w_strict (k_dflt (k_extra "my enterC"))
  k_extra "my steps"
  all_goals (try dsimp only at *)
  all_goals (k_extra "my end")
theorem term_all {w : World} (d : Nat) : TermSpec w d := by
  induction d with
  | zero => exact TermCore.spec term_zero
  | succ d ih => exact TermCore.spec (term_step ih)
theorem w50 : True := by
  w_top off
  k_with_none
  k_with "my k_all" => (k_dflt (first | assumption | exact all_ne_sub9 (by assumption) (by k_extra "my sub") | exact all_ne_u0 (by assumption) (by k_extra "my sub") | exact all_ne_u1 (by assumption) (by k_extra "my sub") | exact all_ne_u2 (by assumption) (by k_extra "my sub") | exact all_ne_u3 (by assumption) (by k_extra "my sub") | exact all_ne_u4 (by assumption) (by k_extra "my sub") | (refine List.forall_mem_append.mpr ⟨?_, ?_⟩ <;> k_all)))
  k_with "my ktr_room" => (((try simp only [depth_under_make, depth_under_kw, depth_in1, depth_deeper, depth_caller]); (try dsimp only [ktrTop]); (try simp only [recursionLimit]); k_extra "my room"))
  k_with "my room" => (first | exact Nat.le_of_ble_eq_true rfl | exact rm0 hd rfl | exact rm1 hd rfl | exact rm5 hd rfl | exact rm6 hd rfl | exact rm4 hd rfl | exact rm2 hd rfl | exact rm3 hd rfl | exact rm7 hd rfl | exact rm8 (by assumption) rfl | omega)
  k_with "my units" => (first | exact Nat.le_of_ble_eq_true rfl | exact rm0 hu rfl | exact rm1 hu rfl | exact rm5 hu rfl | exact rm6 hu rfl | exact rm4 hu rfl | exact rm2 hu rfl | exact rm3 hu rfl | exact rm7 hu rfl | exact rm8 (by assumption) rfl | exact um1 hu rfl | exact um2 hu rfl | exact um3 hu rfl | exact um4 hu rfl | exact um5 hu rfl | (have hcL9 := cLine_is; omega))
  k_with "my dep" => (first | assumption | exact dm1 hdp | exact dm2 hdp | exact dm0 hdp | omega)
  k_with "my ktr_units" => (((try simp only [units_in1, units_deeper, Around.mark_units, units_caller]); (try dsimp only [ktrTop]); k_extra "my units"))
  k_with "my k_room" => (ktr_room)
  k_with "my k_units" => (ktr_units)
  k_with "my units_room" => (ktr_units)
  k_with "compareOp Eq ref ref" => ((k_here; (with_reducible show wpAny _ _ (compareOp CmpOp.Eq (Value.ref _) (Value.ref _)) _ _ _); first
      | refine' eq_zero_f (by assumption) (by assumption) (by k_extra "my sub") (by k_mem) (by first | rfl | exact mkOf_zero) (by omega) (by ktr_units) ?_
      | refine' eq_zero_t (by assumption) (by assumption) (by k_extra "my sub") (by k_mem) rfl (by omega) (by ktr_units) ?_))
  k_with "my k_ne" => (k_dflt (first | exact off_I (by assumption) (by k_mem) | exact off_C (by assumption) (by k_mem) | exact off_D (by assumption) (by k_mem) | assumption | exact ne_gt9 (by assumption) (by k_mem) | exact ne_lt9 (by assumption) (by k_mem) | exact ne_all9 (by assumption) (by k_mem) | exact ne_all9s (by assumption) (by k_mem) | exact ne_gt_u1 (by assumption) (by k_mem) | exact ne_lt_u1 (by assumption) (by k_mem) | exact ne_gt_u2 (by assumption) (by k_mem) | exact ne_lt_u2 (by assumption) (by k_mem) | exact ne_gt_u3 (by assumption) (by k_mem) | exact ne_lt_u3 (by assumption) (by k_mem) | exact ne_gt_u4 (by assumption) (by k_mem) | exact ne_lt_u4 (by assumption) (by k_mem)))
  k_with "my off" => (first | exact True.intro | (refine And.intro (off_at (by assumption) (by k_mem)) ?_; k_extra "my off") | (refine Off3.append ?_ ?_ <;> k_extra "my off") | (refine Off3.of_sub (by assumption) (fun p hp => ?_); simp only [List.mem_cons, List.mem_append, hp, true_or, or_true]; done) | (refine Off3.of_lt (by assumption) (by k_mem) (by k_mem) (by k_mem)))
  k_with "CompSrc" => ((k_here; k_dflt (refine LCg.CompSrc.range (by rfl) (by k_asm) (by k_asm) (by with_reducible assumption) (by first | decide | rfl) (by first | rfl | decide) (by first | size_fits | exact Nat.le_of_ble_eq_true rfl) ?_; intro g'; lcg_lit)))
  k_with "CompRest" => ((with_unfolding_all first
      | (refine CompRest_at (fun v9 h9 => (Option.some.inj h9).symm) ?_; intro I' oI' C' oC' D' m' h' tk' E' hC' hx' F' N' off' ne'; have offM := off'.mem; clear off')
      | (refine CompRest_ex (fun v9 h9 => h9) ?_; intro t9' I' oI' C' oC' D' m' h' tk' E' hC' hx' F' N' off' ne'; have offM := off'.mem; clear off')
      | (refine LCg.CompRest.succ ?_; intro v' I' oI' C' oC' D' m' h' tk' E' hv' hC' hx' F' N' off' ne'; have offM := off'.mem; (first | lcg_open hv' | (obtain ⟨t9', hv9'⟩ := hv'; subst hv9')); clear off')
      | refine LCg.CompRest.zero ?_))
  k_with "CompEnd" => ((k_here; (refine LCg.CompEnd.intro (by assumption) (by assumption) _ (fun p hp => hp) ?offAO ?srcAO ?_; (case offAO => k_extra "my off"); (case srcAO => first | lcg_src | ((try dsimp only); k_mem)))))
  k_with "my enter" => ((refine' code_def ?k1AP ?k2AP ?k3AP ?k4AP ?k5AP ?kAAP ?kFAP ?kKAP ?k6AP ?k7AP ?k8AP ?k9AP ?kBAP ?_ ?c2AP ?c3AP ?c4AP ?c5AP; (case kAAP => exact rfl); (case kFAP => exact rfl); (case kKAP => first | exact rfl | assumption); (case k1AP => k_asm); (case k2AP => k_asm); (case k3AP => k_asm); (case k4AP => k_asm); (case k5AP => k_asm); (case k6AP => k_is); (case k7AP => k_is); (case k8AP => ktr_room); (case k9AP => exact BindsTo.of_eq rfl); (case c5AP => decide); (case kBAP => exact locs rfl); (case c2AP => exact rfl); (case c3AP => exact rfl); (case c4AP => exact rfl); k_whole; intro g' L' h' FG' F' N' B' X' T'; (try dsimp only); (try k_fold)))
  k_with "my enterC" => ((refine' code_defC ?k1AQ ?k2AQ ?k3AQ ?k4AQ ?k5AQ ?kAAQ ?kFAQ ?kKAQ ?k6AQ ?k7AQ ?k8AQ ?k9AQ ?kBAQ ?kDAQ ?_ ?c2AQ ?c3AQ ?c4AQ; (case kAAQ => exact rfl); (case kFAQ => exact rfl); (case kKAQ => first | exact rfl | assumption); (case k1AQ => k_asm); (case k2AQ => k_asm); (case k3AQ => k_asm); (case k4AQ => k_asm); (case k5AQ => k_asm); (case k6AQ => k_is); (case k7AQ => k_is); (case k8AQ => ktr_room); (case k9AQ => exact BindsTo.of_eq rfl); (case kBAQ => exact rfl); (case kDAQ => decide +kernel); (case c2AQ => exact rfl); (case c3AQ => exact rfl); (case c4AQ => exact rfl); k_whole; intro g' L' h' tk' cells' FG' F'; (first | (refine cells_in1 ?_; intro o' d1' N') | (refine cells_in2 ?_; intro o' o2' d1' d2' N') | (refine cells_in3 ?_; intro o' o2' o3' d1' d2' d3' N') | (refine cells_in4 ?_; intro o' o2' o3' o4' d1' d2' d3' d4' N')); intro B' X' T' l1; (try k_lt l1); (try dsimp only); (try k_fold)))
  k_with "eval ListComp" => ((k_here; (with_reducible show wpAny _ _ (eval (Expr.ListComp _ [⟨Expr.Name _ _, Expr.Subscript _ (Expr.Slice (some _) _ _ _) _, [], 0⟩] _ _) _) _ _ _); k_dflt (refine comp_tup (by k_asm) (by with_unfolding_all rfl) (by decide) (by rfl) (by decide) (by rfl) ?_)))
  k_with "exec Assign cons ListComp" => ((k_here; (with_reducible show wpAny _ _ (exec (Stmt.Assign [Expr.Name _ _] (Expr.ListComp _ [⟨Expr.Name _ _, Expr.Subscript _ (Expr.Slice (some _) _ _ _) _, [], 0⟩] _ _) _) _) _ _ _); k_dflt (refine comp_tup_assign (by k_asm) (by rfl) (by with_unfolding_all rfl) (by with_unfolding_all rfl) (by decide) (by rfl) (by decide) (by rfl) (by rfl) (by rfl) ?_)))
  k_with "subscriptTail Name Slice ref ref" => ((k_here; (with_reducible show wpAny _ _ (subscriptTail _ (PySem.Expr.Slice (some _) none none _) (Value.ref _) (Value.ref _)) _ _ _); k_dflt (refine' slice_tup1 ?FAT ?NAT ?lAT ?pAT ?eAT ?_ ?sAT ?tAT ?zAT; (case FAT => k_asm); (case NAT => k_asm); (case lAT => k_mem); (case pAT => exact Nat.le_of_ble_eq_true rfl); (case eAT => kl_lit); (case sAT => with_unfolding_all rfl); (case tAT => kmk_pure); (case zAT => kmk_size)); intro D' h' F' N' l1; (try k_lt l1); (try k_sweep)))
  k_with "TupSrc" => ((k_here; k_dflt (refine TupSrc.of (by rfl) (by k_asm) (by k_asm) (by k_mem) (by first | size_fits | exact Nat.le_of_ble_eq_true rfl) ?_; intro g'; lcg_lit)))
  k_with "my steps" => (repeat' ((fail_if_success (with_reducible show Ret _ _ _)); first | ((with_reducible show wpAny _ _ (call (Value.ref _) _ _) _ _ _); k_extra "my call") | ((fail_if_success ((with_reducible show wpAny _ _ (call (Value.ref _) _ _) _ _ _); k_extra "my nocall")); first | (k_unfold; (try dsimp only)) | walk1 | (dsimp only; walk1) | (leave1; walk_say "STEP leave1"; try dsimp only))))
  k_with "my sub" => (first | (with_reducible exact sub_self _) | (with_reducible refine sub_cons ?_; k_extra "my sub") | (with_reducible refine sub_left ?_; k_extra "my sub") | (with_reducible refine sub_right ?_; k_extra "my sub") | (intro p hp; simp only [List.mem_cons, List.mem_append, hp, true_or, or_true]; done))
  k_with "my ord" => (k_dflt (first | assumption | exact lt_all (by assumption) (by k_mem) | exact lt_all_u1 (by assumption) (by k_mem) | exact lt_all_u2 (by assumption) (by k_mem) | omega))
  k_with "my allLt" => (first | exact allLt_of (by assumption) | exact allLt_sub (by assumption) (by k_extra "my sub") | tbn_find)
  k_with "FinE" => (((unfold LCg.FinE); intro D' h' tk' F' N' o1'; replace o1' := off1_mem o1'; (try dsimp only [List.nil_append, List.cons_append] at N'); (try dsimp only [List.nil_append, List.cons_append] at o1'); (try dsimp only)))
  k_with "FinA" => (((unfold LCg.FinA); intro D' h' tk' F' N' o1'; replace o1' := off1_mem o1'; (try dsimp only [List.nil_append, List.cons_append] at N'); (try dsimp only [List.nil_append, List.cons_append] at o1'); (try dsimp only)))
  k_with "my omega" => (first
      | ((with_reducible show @LE.le Nat _ _ _); first | exact Nat.le_of_ble_eq_true rfl | with_reducible (first | exact o1 ‹_› (by decide) | exact o4 ‹_› (by decide) | exact o7 ‹_› (by decide) | exact o8 ‹_› (by decide) | exact o9 ‹_› (by decide) | exact q6 ‹_› (by decide) | exact q0 ‹_› (by decide) | exact r0 ‹_› (by decide) | exact q1 ‹_› ‹_› (by decide) | exact q3 ‹_› ‹_› (by decide) | exact q7 ‹_› ‹_› (by decide) | exact q8 ‹_› ‹_› (by decide) | exact q9 ‹_› ‹_› | exact r1 ‹_› ‹_› (by decide) | exact r2 ‹_› ‹_› | exact r4 ‹_› ‹_› | exact r8 ‹_› ‹_› (by decide) | exact o0 ‹_› (by decide) | exact Nat.add_le_add ‹_› ‹_› | exact Nat.le_add_left _ _ | exact Nat.le_of_lt ‹_›))
      | ((with_reducible show @LT.lt Nat _ _ _); first | exact Nat.le_of_ble_eq_true rfl | with_reducible (first | exact o2 ‹_› (by decide) | exact o3 ‹_› (by decide) | exact o5 ‹_› (by decide) | exact o6 ‹_› (by decide) | exact p5 ‹_› (by decide) | exact j6 ‹_› (by decide) | exact q2 ‹_› ‹_› (by decide) | exact q4 ‹_› ‹_› (by decide) | exact q5 ‹_› ‹_› (by decide) | exact p1 ‹_› ‹_› (by decide) | exact p2 ‹_› ‹_› (by decide) | exact p3 ‹_› ‹_› (by decide) | exact p4 ‹_› ‹_› (by decide) | exact p6 ‹_› ‹_› (by decide)))
      | ((with_reducible show @LE.le Int _ _ _); first | decide +kernel | with_reducible (first | exact i1 ‹_› | exact i2 ‹_› | exact i6 | exact i7 | exact j7 ‹_› | exact j4 ‹_› (by decide +kernel) | exact i8 ‹_› (by decide +kernel) | exact i9 ‹_› (by decide +kernel) | exact i3 ‹_› ‹_› | exact i4 ‹_› ‹_› | exact i5 ‹_› ‹_›))
      | ((with_reducible show @LT.lt Int _ _ _); first | decide +kernel | with_reducible (first | exact j1 ‹_› | exact j5 (by decide +kernel) | exact j3 ‹_› (by decide +kernel) | exact j8 ‹_› (by decide +kernel) | exact j9 ‹_› (by decide +kernel) | exact l1 ‹_› (by decide +kernel) | exact l2 ‹_› (by decide +kernel) | exact l3 ‹_› (by decide +kernel) | exact j0 ‹_› ‹_› (by decide +kernel)))
      | ((with_reducible show @Ne Nat _ _); with_reducible (first | exact Nat.ne_of_gt ‹_› | exact Nat.ne_of_lt ‹_› | exact Nat.succ_ne_self _ | exact (Nat.succ_ne_self _).symm))
      | with_reducible (first | exact j2 ‹_› | exact z4 ‹_› ‹_› | exact z6 ‹_› ‹_› | exact z3 ‹_› | exact z2 ‹_› ‹_›))
  trivial
structure Ev where
  x : Nat
  y : Nat
  s : Nat
def Nm.val (e : Ev) : Nm → Nat
  | .zero => 0
  | .x => e.x
  | .y => e.y
  | .succ => e.s
def Tm.val (e : Ev) : Tm → Nat
  | .nm n => n.val e
  | .suc t => t.val e + 1
  | .plus t u => t.val e + u.val e
  | .times t u => t.val e * u.val e
def Ev.ok (e : Ev) : Prop := e.x ≤ 3 ∧ e.y ≤ 3 ∧ e.s ≤ 2
def Tm.small (e : Ev) : Tm → Prop
  | .nm _ => True
  | .suc t => t.small e ∧ t.val e + 1 ≤ 900000
  | .plus t u => t.small e ∧ u.small e ∧ t.val e + u.val e ≤ 900000
  | .times t u => t.small e ∧ u.small e ∧ t.val e ≤ 900 ∧ u.val e ≤ 900
theorem small_bin {e : Ev} {q : Bool} {t r : Tm} (h : (mkOf q t r).small e) : t.small e ∧ r.small e := by cases q; exact ⟨h.1, h.2.1⟩; exact ⟨h.1, h.2.1⟩
theorem small_bin2 {e : Ev} {q : Bool} {t r : Tm} (h : (mkOf q t r).small e) : (q = true → t.val e + r.val e ≤ 900000) ∧ (q = false → t.val e ≤ 900 ∧ r.val e ≤ 900) := by
  cases q
  · exact ⟨fun h => Bool.noConfusion h, fun _ => h.2.2⟩
  · exact ⟨fun _ => h.2.2, fun h => Bool.noConfusion h⟩
theorem op_times {prog : Program} {w : World} {A : Around} {E : Value → Shared → Prop} {s : Shared} {q : Bool} {a b : Tok} {Q : Value → Shared → Prop} (k1 : q = true → Q (.bool false) s) (k2 : q = false → Q (.bool true) s) :
    wpAny (model prog w) A (compareOp .Eq (.str (opOf q) a) (.str (Str.ofString "times") b)) Q E s := by
  cases q
  · exact eq_str (k2 rfl)
  · exact eq_str (k1 rfl)

def OnesSpec (w : World) (t : Tm) : Prop :=
  ∀ {mean : ExcName → Option Value} {mg mb : Str → Option Value}
    {dp un : Nat} {gd : Option (List Code)} {cn : Str} {cs : Scope} {a : Addr} {ccd : Value} {cl : List (Str × Addr)} {outer : List Env} {A₀ : Around} {base h₀ : Heap} {L : Addr} {m : Str → Option Value} {news : List (Addr × Obj)} {s : Shared}
    {Q E : Value → Shared → Prop}
    {v : Value} {de : Addr} {oe : Obj} {e : Ev} {t1 t2 t3 t4 t5 t6 : Tok}
    (_ : Below A₀ base outer h₀) (_ : Fr h₀ L s.heap m) (_ : (hd.heap_1 w.params).In h₀) (_ : News h₀ L s.heap news)
    (_ : Top view LO mean mg mb h₀) (_ : cs.kind = .function)
    (_ : TmIn news v t) (_ : (de, oe) ∈ news) (_ : (de == sysModules) = false)
    (_ : Obj.IsDictOf (PySem.strKind PySem.Challenge.rw_pq0002_01.row.prog w) oe (strPairs [(Value.str (Str.ofString "x") t1, Value.int e.x t2), (Value.str (Str.ofString "y") t3, Value.int e.y t4), (Value.str (Str.ofString "succ") t5, Value.int e.s t6)]))
    (_ : PyProof.V.FlatPairs PyData.str (strPairs [(Value.str (Str.ofString "x") t1, Value.int e.x t2), (Value.str (Str.ofString "y") t3, Value.int e.y t4), (Value.str (Str.ofString "succ") t5, Value.int e.s t6)]) (strData [(Value.str (Str.ofString "x") t1, Value.int e.x t2), (Value.str (Str.ofString "y") t3, Value.int e.y t4), (Value.str (Str.ofString "succ") t5, Value.int e.s t6)]))
    (_ : e.ok) (_ : t.small e) (_ : t.depth ≤ 50)
    (_ : dp + 5 * t.depth < 800) (_ : un + 20 * t.depth < 4000)
    (_ : ∀ t1' h' tk', @LT.lt Nat _ 0 t1' → @LT.lt Nat _ t1' tk' → Fr h₀ L h' m → News h₀ L h' news → Q (.str (ones (t.val e)) t1') { s with heap := h', toks := tk' }),
    wpAny (model PySem.Challenge.rw_pq0002_01.row.prog w) (ktrTop dp un gd cn cs L a ccd cl outer) (call (.ref 195) [v, .ref de]) Q E s

theorem w50a : True := by
  k_with "execs cons" => (((with_reducible refine wpAny_execs_cons ?_); try dsimp only))
  k_with "execs nil" => ((with_reducible refine wpAny_execs_nil ?_))
  k_with "exec Assign cons ListComp" => ((k_here; (with_reducible show wpAny _ _ (exec (Stmt.Assign [Expr.Name _ _] (Expr.ListComp _ [⟨Expr.Name _ _, Expr.Subscript _ (Expr.Slice _ _ _ _) _, [], 0⟩] _ _) _) _) _ _ _); k_dflt (refine comp_tup_assignT (by k_asm) (by rfl) (by with_unfolding_all rfl) (by with_unfolding_all rfl) (by decide) (by rfl) (by decide) (by rfl) (by rfl) (by rfl) ?_)))
  k_with "TupSrcT" => ((k_here; k_dflt (first | refine TupSrcT.of (by rfl) (by k_asm) (by k_asm) (by k_mem) (by first | size_fits | exact Nat.le_of_ble_eq_true rfl) 1 (by rfl) ?_ | refine TupSrcT.of (by rfl) (by k_asm) (by k_asm) (by k_mem) (by first | size_fits | exact Nat.le_of_ble_eq_true rfl) 2 (by rfl) ?_); intro g'))
  k_with "RestT" => ((with_unfolding_all first
      | (refine RestT.at (fun v9 h9 => (Option.some.inj h9).symm) ?_; intro I' oI' C' oC' D' m' h' tk' E' hT' hC' hx' F' N' off' ne'; have offM := off'.mem; clear off')
      | (refine RestT.succ ?_; intro v' I' oI' C' oC' D' m' h' tk' E' hT' hv' hC' hx' F' N' off' ne'; have offM := off'.mem; lcg_open hv'; clear off')
      | refine RestT.zero ?_))
  k_with "EndT" => ((k_here; (refine EndT.intro (by assumption) (by assumption) ?offBR ?srcBR ?_; (case offBR => k_extra "my off"); (case srcBR => ((try dsimp only); k_mem)))))
  k_with "FinAT" => (((unfold FinAT); intro D' h' tk' hT' F' N' o1'; replace o1' := off1_mem o1'; (try dsimp only [List.nil_append, List.cons_append] at o1'); (try dsimp only [List.nil_append, List.cons_append] at N'); (try dsimp only)))
  trivial
def OnesFor (w : World) (P : Tm → Prop) : Prop := ∀ {q}, P q → OnesSpec w q
theorem w50b : True := by
  k_with "my toks" => ((intro t' k' hk' ht0' ht1'; (try dsimp only at hk' ht0' ht1')))
  k_with "my lt2" => (first | with_reducible (first | assumption | exact Nat.succ_pos _ | exact Nat.lt_succ_self _ | (refine Nat.lt_succ_of_lt ?_; k_extra "my lt2") | (refine Nat.lt_of_lt_of_le ?_ ‹_›; k_extra "my lt2")) | omega)
  k_with "my lt" => (((try dsimp only); k_extra "my lt2"))
  k_with "binaryOp Mult str int" => ((k_here; (with_reducible show wpAny _ _ (binaryOp _ (Value.str (Str.ofString "1") _) (Value.int _ _)) _ _ _); k_dflt (first
      | (refine' mul_ones ?aBW ?bBW ?cBW ?_; (case aBW => omega); (case bBW => k_extra "my lt"); (case cBW => k_extra "my lt"); k_whole)
      | (refine' mul_ones_one ?aBW ?bBW ?cBW ?_; (case aBW => exact if_pos str_e1); (case bBW => k_extra "my lt"); (case cBW => k_extra "my lt"); k_whole)
      | (refine' mul_ones_nil ?aBW ?bBW ?cBW ?_; (case aBW => first | exact if_neg (by rw [str_e2]; exact Bool.false_ne_true) | exact if_neg (by rw [str_e3]; exact Bool.false_ne_true)); (case bBW => k_extra "my lt"); (case cBW => k_extra "my lt"); k_whole)); k_extra "my toks"))
  k_with "binaryOp Add str str" => ((k_here; (with_reducible show wpAny _ _ (binaryOp _ (Value.str (ones _) _) (Value.str (ones _) _)) _ _ _); k_dflt (refine' add_ones ?aBX ?bBX ?cBX ?dBX ?eBX ?_; (case aBX => omega); (case bBX => k_extra "my lt"); (case cBX => k_extra "my lt"); (case dBX => k_extra "my lt"); (case eBX => k_extra "my lt"); k_whole); k_extra "my toks"))
  k_with "call builtin:str.join" => ((k_here; (with_reducible show wpAny _ _ (call (Value.builtin "str.join") [Value.str _ _, Value.ref _]) _ _ _); k_dflt (first
      | (refine' join_ones1 ?aBY ?bBY ?_; (case aBY => exact News.isList (by k_asm) (by k_mem)); (case bBY => omega); k_whole)
      | (refine' join_ones2 ?aBY ?bBY ?_; (case aBY => exact News.isList (by k_asm) (by k_mem)); (case bBY => omega); k_whole))))
  k_with "call builtin:str.replace" => ((k_here; (with_reducible show wpAny _ _ (call (Value.builtin "str.replace") [Value.str (ones _) _, Value.str _ _, Value.str (ones _) _]) _ _ _); k_dflt (refine' replace_ones ?aBZ ?bBZ ?cBZ ?dBZ ?eBZ ?fBZ ?gBZ ?nBZ ?_; (case aBZ => omega); (case bBZ => omega); (case cBZ => k_extra "my lt"); (case dBZ => k_extra "my lt"); (case eBZ => k_extra "my lt"); (case fBZ => k_extra "my lt"); (case gBZ => k_extra "my lt"); (case nBZ => exact none_booked (Frag.In.keeps (by assumption) (Fr.keep (by k_asm)))); k_whole); k_extra "my toks"))
  k_with "my call" => ((k_here; (with_reducible show wpAny _ _ (call (Value.ref 195) [_, _]) _ _ _); (with_reducible rename OnesFor _ _ => ih9CA); (refine toks_up ?_); k_dflt (refine' ih9CA ?ktCA ?k1CA ?k2CA ?k3CA ?k4CA ?k5CA ?kKCA ?k6CA ?k7CA ?k8CA ?k9CA ?k10CA ?k11CA ?k12CA ?k125CA ?k13CA ?k14CA ?_; (case k1CA => k_asm); (case k2CA => k_asm); (case k3CA => k_asm); (case k4CA => k_asm); (case k5CA => k_asm); (case kKCA => first | exact rfl | assumption); (case k6CA => first | assumption | exact TmIn.mono (by assumption) (by k_extra "my sub")); (case ktCA => first | exact Or.inl rfl | exact Or.inr rfl | exact True.intro); (case k7CA => k_mem); (case k8CA => assumption); (case k9CA => assumption); (case k10CA => assumption); (case k11CA => assumption); (case k12CA => first | assumption | omega); (case k125CA => k_extra "my dep"); (case k13CA => ktr_room); (case k14CA => ktr_units); k_whole); intro t1' h' tk' ht0' ht1' F' N' hle'; (try dsimp only at hle'); (try k_sweep)))
  k_with "my nocall" => ((with_reducible show wpAny _ _ (call (Value.ref 195) _ _) _ _ _))
  trivial

theorem ones_leaf {w : World} {x : Nm} : OnesSpec w (.nm x) := by
  intro mean mg mb dp un gd cn cs a ccd cl outer A₀ base h₀ L m news s Q E v de oe e t1 t2 t3 t4 t5 t6 B F X N T hk hin hde hds hdd hdf hev hval hdp hd hu ret
  obtain ⟨sH, sG, sD, sT, sO⟩ := s
  (try dsimp only at F); (try dsimp only at N); (try dsimp only at ret)
  obtain ⟨hx, hy, hs⟩ := hev
  have hdep : (Tm.nm x).depth ≤ 60 := Nat.zero_le _
  have hin0 := hin
  cases hin with | nm hm =>
  replace N := newsCons (newsCons N hde) (List.mem_cons_of_mem _ hm)
  cases x
  all_goals (
    simp only [Nm.str] at *
    refine ret_of (α := Unit) ?_
    refine wpAny_call ?_
    w_strict (k_dflt (k_extra "my enterC"))
    k_extra "my steps"
    all_goals (try dsimp only at *))
  all_goals (
    (rename Fr h₀ L _ m => fX); (rename News h₀ L _ _ => nX)
    first
    | (rw [ones_nil]; exact ret _ _ _ (by omega) (by omega) fX (news_of nX (by k_extra "my sub")))
    | exact ret _ _ _ (by assumption) (by assumption) fX (news_of nX (by k_extra "my sub")))
theorem ones_suc {w : World} {t : Tm} (IH : OnesFor w (fun q => q = t ∨ q = t)) : OnesSpec w (.suc t) := by
  intro mean mg mb dp un gd cn cs a ccd cl outer A₀ base h₀ L m news s Q E v de oe e t1 t2 t3 t4 t5 t6 B F X N T hk hin hde hds hdd hdf hev hval hdp hd hu ret
  obtain ⟨sH, sG, sD, sT, sO⟩ := s
  (try dsimp only at F); (try dsimp only at N); (try dsimp only at ret)
  simp only [Tm.depth] at hd hu hdp
  have hdep : (Tm.suc t).depth ≤ 60 := by simp only [Tm.depth]; omega
  obtain ⟨hsm, hsv⟩ := hval
  have hin0 := hin
  cases hin with | suc hm ht =>
  replace N := newsCons (newsCons N hde) (List.mem_cons_of_mem _ hm)
  refine ret_of (α := Unit) ?_
  refine wpAny_call ?_
  w_strict (k_dflt (k_extra "my enterC"))
  k_extra "my steps"
  all_goals (try dsimp only at *)
  all_goals (
    (rename Fr h₀ L _ m => fX); (rename News h₀ L _ _ => nX)
    rw [Nat.add_comm]
    exact ret _ _ _ (by assumption) (by assumption) fX (news_of nX (by k_extra "my sub")))
theorem w50c : True := by
  k_with "compareOp Eq str str" => ((k_here; (with_reducible show wpAny _ _ (compareOp CmpOp.Eq (Value.str (opOf _) _) (Value.str _ _)) _ _ _); (k_dflt (refine op_times ?_ ?_)); all_goals (intro hq9; subst hq9; (try dsimp only [opOf, mkOf] at *); first | (have h8 := hsb.1 rfl; clear hsb) | (obtain ⟨h8, h9⟩ := hsb.2 rfl; clear hsb))))
  trivial
theorem ones_bin {w : World} {q : Bool} {t r : Tm} (IH : OnesFor w (fun q => q = t ∨ q = r)) : OnesSpec w (mkOf q t r) := by
  intro mean mg mb dp un gd cn cs a ccd cl outer A₀ base h₀ L m news s Q E v de oe e t1 t2 t3 t4 t5 t6 B F X N T hk hin hde hds hdd hdf hev hval hdp hd hu ret
  obtain ⟨sH, sG, sD, sT, sO⟩ := s
  (try dsimp only at F); (try dsimp only at N); (try dsimp only at ret)
  simp only [mkOf_depth] at hd hu hdp
  have hdep : (mkOf q t r).depth ≤ 60 := by rw [mkOf_depth]; omega
  obtain ⟨hsm, hsm2⟩ := small_bin hval
  have hsb := small_bin2 hval
  clear hval
  have hin0 := hin
  obtain ⟨a8, tk8, v8, u8, e8, rfl, hm, ht, hr⟩ := TmIn.bin hin
  clear hin
  replace N := newsCons (newsCons N hde) (List.mem_cons_of_mem _ hm)
  refine ret_of (α := Unit) ?_
  refine wpAny_call ?_
  w_strict (k_dflt (k_extra "my enterC"))
  k_extra "my steps"
  all_goals (try dsimp only at *)
  all_goals (
    (rename Fr h₀ L _ m => fX); (rename News h₀ L _ _ => nX)
    first | (rw [Nat.zero_add]; exact ret _ _ _ (by assumption) (by assumption) fX (news_of nX (by k_extra "my sub"))) | exact ret _ _ _ (by assumption) (by assumption) fX (news_of nX (by k_extra "my sub")))
theorem ones_all {w : World} (t : Tm) : OnesSpec w t := by
  induction t with
  | nm n => exact ones_leaf
  | suc t ih => exact ones_suc (for1 (P := OnesSpec w) ih)
  | plus t r i1 i2 => exact ones_bin (q := true) (for2 (P := OnesSpec w) i1 i2)
  | times t r i1 i2 => exact ones_bin (q := false) (for2 (P := OnesSpec w) i1 i2)
theorem w55 : True := by
  w_top off
  k_with_none
  k_with "my k_all" => (k_dflt (first | assumption | exact all_ne_sub9 (by assumption) (by k_extra "my sub") | exact all_ne_u0 (by assumption) (by k_extra "my sub") | exact all_ne_u1 (by assumption) (by k_extra "my sub") | exact all_ne_u2 (by assumption) (by k_extra "my sub") | exact all_ne_u3 (by assumption) (by k_extra "my sub") | exact all_ne_u4 (by assumption) (by k_extra "my sub") | (refine List.forall_mem_append.mpr ⟨?_, ?_⟩ <;> k_all)))
  k_with "my ktr_room" => (((try simp only [depth_under_make, depth_under_kw, depth_in1, depth_deeper, depth_caller]); (try dsimp only [ktrTop]); (try simp only [recursionLimit]); k_extra "my room"))
  k_with "my room" => (first | exact Nat.le_of_ble_eq_true rfl | exact rm0 hd rfl | exact rm1 hd rfl | exact rm5 hd rfl | exact rm6 hd rfl | exact rm4 hd rfl | exact rm2 hd rfl | exact rm3 hd rfl | exact rm7 hd rfl | exact rm8 (by assumption) rfl | omega)
  k_with "my units" => (first | exact Nat.le_of_ble_eq_true rfl | exact rm0 hu rfl | exact rm1 hu rfl | exact rm5 hu rfl | exact rm6 hu rfl | exact rm4 hu rfl | exact rm2 hu rfl | exact rm3 hu rfl | exact rm7 hu rfl | exact rm8 (by assumption) rfl | exact um1 hu rfl | exact um2 hu rfl | exact um3 hu rfl | exact um4 hu rfl | exact um5 hu rfl | (have hcL9 := cLine_is; omega))
  k_with "my dep" => (first | assumption | exact dm1 hdp | exact dm2 hdp | exact dm0 hdp | omega)
  k_with "my ktr_units" => (((try simp only [units_in1, units_deeper, Around.mark_units, units_caller]); (try dsimp only [ktrTop]); k_extra "my units"))
  k_with "my k_room" => (ktr_room)
  k_with "my k_units" => (ktr_units)
  k_with "my units_room" => (ktr_units)
  k_with "compareOp Eq ref ref" => ((k_here; (with_reducible show wpAny _ _ (compareOp CmpOp.Eq (Value.ref _) (Value.ref _)) _ _ _); first
      | refine' eq_zero_f (by assumption) (by assumption) (by k_extra "my sub") (by k_mem) (by first | rfl | exact mkOf_zero) (by omega) (by ktr_units) ?_
      | refine' eq_zero_t (by assumption) (by assumption) (by k_extra "my sub") (by k_mem) rfl (by omega) (by ktr_units) ?_))
  k_with "my k_ne" => (k_dflt (first | exact off_I (by assumption) (by k_mem) | exact off_C (by assumption) (by k_mem) | exact off_D (by assumption) (by k_mem) | assumption | exact ne_gt9 (by assumption) (by k_mem) | exact ne_lt9 (by assumption) (by k_mem) | exact ne_all9 (by assumption) (by k_mem) | exact ne_all9s (by assumption) (by k_mem) | exact ne_gt_u1 (by assumption) (by k_mem) | exact ne_lt_u1 (by assumption) (by k_mem) | exact ne_gt_u2 (by assumption) (by k_mem) | exact ne_lt_u2 (by assumption) (by k_mem) | exact ne_gt_u3 (by assumption) (by k_mem) | exact ne_lt_u3 (by assumption) (by k_mem) | exact ne_gt_u4 (by assumption) (by k_mem) | exact ne_lt_u4 (by assumption) (by k_mem)))
  k_with "my off" => (first | exact True.intro | (refine And.intro (off_at (by assumption) (by k_mem)) ?_; k_extra "my off") | (refine Off3.append ?_ ?_ <;> k_extra "my off") | (refine Off3.of_sub (by assumption) (fun p hp => ?_); simp only [List.mem_cons, List.mem_append, hp, true_or, or_true]; done) | (refine Off3.of_lt (by assumption) (by k_mem) (by k_mem) (by k_mem)))
  k_with "CompSrc" => ((k_here; k_dflt (refine LCg.CompSrc.range (by rfl) (by k_asm) (by k_asm) (by with_reducible assumption) (by first | decide | rfl) (by first | rfl | decide) (by first | size_fits | exact Nat.le_of_ble_eq_true rfl) ?_; intro g'; lcg_lit)))
  k_with "CompRest" => ((with_unfolding_all first
      | (refine CompRest_at (fun v9 h9 => (Option.some.inj h9).symm) ?_; intro I' oI' C' oC' D' m' h' tk' E' hC' hx' F' N' off' ne'; have offM := off'.mem; clear off')
      | (refine CompRest_ex (fun v9 h9 => h9) ?_; intro t9' I' oI' C' oC' D' m' h' tk' E' hC' hx' F' N' off' ne'; have offM := off'.mem; clear off')
      | (refine LCg.CompRest.succ ?_; intro v' I' oI' C' oC' D' m' h' tk' E' hv' hC' hx' F' N' off' ne'; have offM := off'.mem; (first | lcg_open hv' | (obtain ⟨t9', hv9'⟩ := hv'; subst hv9')); clear off')
      | refine LCg.CompRest.zero ?_))
  k_with "CompEnd" => ((k_here; (refine LCg.CompEnd.intro (by assumption) (by assumption) _ (fun p hp => hp) ?offAO ?srcAO ?_; (case offAO => k_extra "my off"); (case srcAO => first | lcg_src | ((try dsimp only); k_mem)))))
  k_with "my enter" => ((refine' code_def ?k1AP ?k2AP ?k3AP ?k4AP ?k5AP ?kAAP ?kFAP ?kKAP ?k6AP ?k7AP ?k8AP ?k9AP ?kBAP ?_ ?c2AP ?c3AP ?c4AP ?c5AP; (case kAAP => exact rfl); (case kFAP => exact rfl); (case kKAP => first | exact rfl | assumption); (case k1AP => k_asm); (case k2AP => k_asm); (case k3AP => k_asm); (case k4AP => k_asm); (case k5AP => k_asm); (case k6AP => k_is); (case k7AP => k_is); (case k8AP => ktr_room); (case k9AP => exact BindsTo.of_eq rfl); (case c5AP => decide); (case kBAP => exact locs rfl); (case c2AP => exact rfl); (case c3AP => exact rfl); (case c4AP => exact rfl); k_whole; intro g' L' h' FG' F' N' B' X' T'; (try dsimp only); (try k_fold)))
  k_with "my enterC" => ((refine' code_defC ?k1AQ ?k2AQ ?k3AQ ?k4AQ ?k5AQ ?kAAQ ?kFAQ ?kKAQ ?k6AQ ?k7AQ ?k8AQ ?k9AQ ?kBAQ ?kDAQ ?_ ?c2AQ ?c3AQ ?c4AQ; (case kAAQ => exact rfl); (case kFAQ => exact rfl); (case kKAQ => first | exact rfl | assumption); (case k1AQ => k_asm); (case k2AQ => k_asm); (case k3AQ => k_asm); (case k4AQ => k_asm); (case k5AQ => k_asm); (case k6AQ => k_is); (case k7AQ => k_is); (case k8AQ => ktr_room); (case k9AQ => exact BindsTo.of_eq rfl); (case kBAQ => exact rfl); (case kDAQ => decide +kernel); (case c2AQ => exact rfl); (case c3AQ => exact rfl); (case c4AQ => exact rfl); k_whole; intro g' L' h' tk' cells' FG' F'; (first | (refine cells_in1 ?_; intro o' d1' N') | (refine cells_in2 ?_; intro o' o2' d1' d2' N') | (refine cells_in3 ?_; intro o' o2' o3' d1' d2' d3' N') | (refine cells_in4 ?_; intro o' o2' o3' o4' d1' d2' d3' d4' N')); intro B' X' T' l1; (try k_lt l1); (try dsimp only); (try k_fold)))
  k_with "eval ListComp" => ((k_here; (with_reducible show wpAny _ _ (eval (Expr.ListComp _ [⟨Expr.Name _ _, Expr.Subscript _ (Expr.Slice (some _) _ _ _) _, [], 0⟩] _ _) _) _ _ _); k_dflt (refine comp_tup (by k_asm) (by with_unfolding_all rfl) (by decide) (by rfl) (by decide) (by rfl) ?_)))
  k_with "exec Assign cons ListComp" => ((k_here; (with_reducible show wpAny _ _ (exec (Stmt.Assign [Expr.Name _ _] (Expr.ListComp _ [⟨Expr.Name _ _, Expr.Subscript _ (Expr.Slice (some _) _ _ _) _, [], 0⟩] _ _) _) _) _ _ _); k_dflt (refine comp_tup_assign (by k_asm) (by rfl) (by with_unfolding_all rfl) (by with_unfolding_all rfl) (by decide) (by rfl) (by decide) (by rfl) (by rfl) (by rfl) ?_)))
  k_with "subscriptTail Name Slice ref ref" => ((k_here; (with_reducible show wpAny _ _ (subscriptTail _ (PySem.Expr.Slice (some _) none none _) (Value.ref _) (Value.ref _)) _ _ _); k_dflt (refine' slice_tup1 ?FAT ?NAT ?lAT ?pAT ?eAT ?_ ?sAT ?tAT ?zAT; (case FAT => k_asm); (case NAT => k_asm); (case lAT => k_mem); (case pAT => exact Nat.le_of_ble_eq_true rfl); (case eAT => kl_lit); (case sAT => with_unfolding_all rfl); (case tAT => kmk_pure); (case zAT => kmk_size)); intro D' h' F' N' l1; (try k_lt l1); (try k_sweep)))
  k_with "TupSrc" => ((k_here; k_dflt (refine TupSrc.of (by rfl) (by k_asm) (by k_asm) (by k_mem) (by first | size_fits | exact Nat.le_of_ble_eq_true rfl) ?_; intro g'; lcg_lit)))
  k_with "my steps" => (repeat' ((fail_if_success (with_reducible show Ret _ _ _)); first | ((with_reducible show wpAny _ _ (call (Value.ref _) _ _) _ _ _); k_extra "my call") | ((fail_if_success ((with_reducible show wpAny _ _ (call (Value.ref _) _ _) _ _ _); k_extra "my nocall")); first | (k_unfold; (try dsimp only)) | walk1 | (dsimp only; walk1) | (leave1; walk_say "STEP leave1"; try dsimp only))))
  k_with "my sub" => (first | (with_reducible exact sub_self _) | (with_reducible refine sub_cons ?_; k_extra "my sub") | (with_reducible refine sub_left ?_; k_extra "my sub") | (with_reducible refine sub_right ?_; k_extra "my sub") | (intro p hp; simp only [List.mem_cons, List.mem_append, hp, true_or, or_true]; done))
  k_with "my ord" => (k_dflt (first | assumption | exact lt_all (by assumption) (by k_mem) | exact lt_all_u1 (by assumption) (by k_mem) | exact lt_all_u2 (by assumption) (by k_mem) | omega))
  k_with "my allLt" => (first | exact allLt_of (by assumption) | exact allLt_sub (by assumption) (by k_extra "my sub") | tbn_find)
  k_with "FinE" => (((unfold LCg.FinE); intro D' h' tk' F' N' o1'; replace o1' := off1_mem o1'; (try dsimp only [List.nil_append, List.cons_append] at N'); (try dsimp only [List.nil_append, List.cons_append] at o1'); (try dsimp only)))
  k_with "FinA" => (((unfold LCg.FinA); intro D' h' tk' F' N' o1'; replace o1' := off1_mem o1'; (try dsimp only [List.nil_append, List.cons_append] at N'); (try dsimp only [List.nil_append, List.cons_append] at o1'); (try dsimp only)))
  k_with "my omega" => (first
      | ((with_reducible show @LE.le Nat _ _ _); first | exact Nat.le_of_ble_eq_true rfl | with_reducible (first | exact o1 ‹_› (by decide) | exact o4 ‹_› (by decide) | exact o7 ‹_› (by decide) | exact o8 ‹_› (by decide) | exact o9 ‹_› (by decide) | exact q6 ‹_› (by decide) | exact q0 ‹_› (by decide) | exact r0 ‹_› (by decide) | exact q1 ‹_› ‹_› (by decide) | exact q3 ‹_› ‹_› (by decide) | exact q7 ‹_› ‹_› (by decide) | exact q8 ‹_› ‹_› (by decide) | exact q9 ‹_› ‹_› | exact r1 ‹_› ‹_› (by decide) | exact r2 ‹_› ‹_› | exact r4 ‹_› ‹_› | exact r8 ‹_› ‹_› (by decide) | exact o0 ‹_› (by decide) | exact Nat.add_le_add ‹_› ‹_› | exact Nat.le_add_left _ _ | exact Nat.le_of_lt ‹_›))
      | ((with_reducible show @LT.lt Nat _ _ _); first | exact Nat.le_of_ble_eq_true rfl | with_reducible (first | exact o2 ‹_› (by decide) | exact o3 ‹_› (by decide) | exact o5 ‹_› (by decide) | exact o6 ‹_› (by decide) | exact p5 ‹_› (by decide) | exact j6 ‹_› (by decide) | exact q2 ‹_› ‹_› (by decide) | exact q4 ‹_› ‹_› (by decide) | exact q5 ‹_› ‹_› (by decide) | exact p1 ‹_› ‹_› (by decide) | exact p2 ‹_› ‹_› (by decide) | exact p3 ‹_› ‹_› (by decide) | exact p4 ‹_› ‹_› (by decide) | exact p6 ‹_› ‹_› (by decide)))
      | ((with_reducible show @LE.le Int _ _ _); first | decide +kernel | with_reducible (first | exact i1 ‹_› | exact i2 ‹_› | exact i6 | exact i7 | exact j7 ‹_› | exact j4 ‹_› (by decide +kernel) | exact i8 ‹_› (by decide +kernel) | exact i9 ‹_› (by decide +kernel) | exact i3 ‹_› ‹_› | exact i4 ‹_› ‹_› | exact i5 ‹_› ‹_›))
      | ((with_reducible show @LT.lt Int _ _ _); first | decide +kernel | with_reducible (first | exact j1 ‹_› | exact j5 (by decide +kernel) | exact j3 ‹_› (by decide +kernel) | exact j8 ‹_› (by decide +kernel) | exact j9 ‹_› (by decide +kernel) | exact l1 ‹_› (by decide +kernel) | exact l2 ‹_› (by decide +kernel) | exact l3 ‹_› (by decide +kernel) | exact j0 ‹_› ‹_› (by decide +kernel)))
      | ((with_reducible show @Ne Nat _ _); with_reducible (first | exact Nat.ne_of_gt ‹_› | exact Nat.ne_of_lt ‹_› | exact Nat.succ_ne_self _ | exact (Nat.succ_ne_self _).symm))
      | with_reducible (first | exact j2 ‹_› | exact z4 ‹_› ‹_› | exact z6 ‹_› ‹_› | exact z3 ‹_› | exact z2 ‹_› ‹_›))
  k_with "my call" => ((k_here; (with_reducible show wpAny _ _ (call (Value.ref 195) [_, _]) _ _ _); (with_reducible rename OnesFor _ _ => ih9CA); (refine toks_up ?_); k_dflt (refine' ih9CA ?ktCA ?k1CA ?k2CA ?k3CA ?k4CA ?k5CA ?kKCA ?k6CA ?k7CA ?k8CA ?k9CA ?k10CA ?k11CA ?k12CA ?k125CA ?k13CA ?k14CA ?_; (case k1CA => k_asm); (case k2CA => k_asm); (case k3CA => k_asm); (case k4CA => k_asm); (case k5CA => k_asm); (case kKCA => first | exact rfl | assumption); (case k6CA => first | assumption | exact TmIn.mono (by assumption) (by k_extra "my sub")); (case ktCA => first | exact Or.inl rfl | exact Or.inr rfl | exact True.intro); (case k7CA => k_mem); (case k8CA => assumption); (case k9CA => assumption); (case k10CA => assumption); (case k11CA => assumption); (case k12CA => first | assumption | omega); (case k125CA => k_extra "my dep"); (case k13CA => ktr_room); (case k14CA => ktr_units); k_whole); intro t1' h' tk' ht0' ht1' F' N' hle'; (try dsimp only at hle'); (try k_sweep)))
  k_with "my nocall" => ((with_reducible show wpAny _ _ (call (Value.ref 195) _ _) _ _ _))
  trivial
theorem Nm.val_le {e : Ev} (h : e.ok) (n : Nm) : n.val e ≤ 3 := by
  obtain ⟨h1, h2, h3⟩ := h
  cases n <;> simp only [Nm.val] <;> omega
theorem Tm.small_val {e : Ev} (he : e.ok) {t : Tm} (h : t.small e) : t.val e ≤ 900000 := by
  cases t with
  | nm n => have := n.val_le he; simp only [Tm.val]; omega
  | suc t => exact h.2
  | plus t u => exact h.2.2
  | times t u =>
    have : t.val e * u.val e ≤ 900 * 900 := Nat.mul_le_mul h.2.2.1 h.2.2.2
    simp only [Tm.val]; omega
theorem len_ones {prog : Program} {w : World} {A : Around} {E : Value → Shared → Prop} {s : Shared} {t : Tok} {Q : Value → Shared → Prop} {n : Nat} (hn : n ≤ 900000) (h : Q (.int (n : Int) (s.toks + 1)) { s with toks := s.toks + 1 + 1 }) :
    wpAny (model prog w) A (call (.builtin "len") [.str (ones n) t]) Q E s := P.len_str (by rw [ones_len]; exact Int.not_le.mpr (j3 hn (by decide +kernel))) (by rw [ones_len]; exact h)
theorem max3i {M : Int} {v a b : Nat} (h : M = 0 ∨ M = (v : Int) ∨ M = (a : Int) ∨ M = (b : Int)) (g : 0 ≤ M ∧ (v : Int) ≤ M ∧ (a : Int) ≤ M ∧ (b : Int) ≤ M) : M = ((max v (max a b) : Nat) : Int) := by
  obtain ⟨n, rfl⟩ := Int.eq_ofNat_of_zero_le g.1
  refine Int.le_antisymm ?_ (Int.ofNat_le.mpr (Nat.max_le.mpr ⟨Int.ofNat_le.mp g.2.1, Nat.max_le.mpr ⟨Int.ofNat_le.mp g.2.2.1, Int.ofNat_le.mp g.2.2.2⟩⟩))
  rcases h with h | h | h | h <;> rw [h]
  · exact Int.natCast_nonneg _
  · exact Int.ofNat_le.mpr (Nat.le_max_left v _)
  · exact Int.ofNat_le.mpr (Nat.le_trans (Nat.le_max_left a b) (Nat.le_max_right v _))
  · exact Int.ofNat_le.mpr (Nat.le_trans (Nat.le_max_right a b) (Nat.le_max_right v _))
theorem max2i {M : Int} {v a : Nat} (h : M = 0 ∨ M = (v : Int) ∨ M = (a : Int)) (g : 0 ≤ M ∧ (v : Int) ≤ M ∧ (a : Int) ≤ M) : M = ((max v a : Nat) : Int) := by
  obtain ⟨n, rfl⟩ := Int.eq_ofNat_of_zero_le g.1
  refine Int.le_antisymm ?_ (Int.ofNat_le.mpr (Nat.max_le.mpr ⟨Int.ofNat_le.mp g.2.1, Int.ofNat_le.mp g.2.2⟩))
  rcases h with h | h | h <;> rw [h]
  · exact Int.natCast_nonneg _
  · exact Int.ofNat_le.mpr (Nat.le_max_left v a)
  · exact Int.ofNat_le.mpr (Nat.le_max_right v a)
def Tm.top (e : Ev) : Tm → Nat
  | .nm _ => 0
  | .suc t => max (t.val e + 1) (t.top e)
  | .plus t u => max (t.val e + u.val e) (max (t.top e) (u.top e))
  | .times t u => max (t.val e * u.val e) (max (t.top e) (u.top e))
def GreatSpec (w : World) (t : Tm) : Prop :=
  ∀ {mean : ExcName → Option Value} {mg mb : Str → Option Value}
    {dp un : Nat} {gd : Option (List Code)} {cn : Str} {cs : Scope} {a : Addr} {ccd : Value} {cl : List (Str × Addr)} {outer : List Env} {A₀ : Around} {base h₀ : Heap} {L : Addr} {m : Str → Option Value} {news : List (Addr × Obj)} {s : Shared}
    {Q E : Value → Shared → Prop}
    {v : Value} {de : Addr} {oe : Obj} {e : Ev} {t1 t2 t3 t4 t5 t6 : Tok}
    (_ : Below A₀ base outer h₀) (_ : Fr h₀ L s.heap m) (_ : (hd.heap_1 w.params).In h₀) (_ : News h₀ L s.heap news)
    (_ : Top view LO mean mg mb h₀) (_ : cs.kind = .function)
    (_ : TmIn news v t) (_ : (de, oe) ∈ news) (_ : (de == sysModules) = false)
    (_ : Obj.IsDictOf (PySem.strKind PySem.Challenge.rw_pq0002_01.row.prog w) oe (strPairs [(Value.str (Str.ofString "x") t1, Value.int e.x t2), (Value.str (Str.ofString "y") t3, Value.int e.y t4), (Value.str (Str.ofString "succ") t5, Value.int e.s t6)]))
    (_ : PyProof.V.FlatPairs PyData.str (strPairs [(Value.str (Str.ofString "x") t1, Value.int e.x t2), (Value.str (Str.ofString "y") t3, Value.int e.y t4), (Value.str (Str.ofString "succ") t5, Value.int e.s t6)]) (strData [(Value.str (Str.ofString "x") t1, Value.int e.x t2), (Value.str (Str.ofString "y") t3, Value.int e.y t4), (Value.str (Str.ofString "succ") t5, Value.int e.s t6)]))
    (_ : e.ok) (_ : t.small e) (_ : t.depth ≤ 45)
    (_ : dp + 5 * t.depth < 790) (_ : un + 20 * t.depth < 3900)
    (_ : ∀ t1' h' tk', Fr h₀ L h' m → News h₀ L h' news → Q (.int (t.top e : Nat) t1') { s with heap := h', toks := tk' }),
    wpAny (model PySem.Challenge.rw_pq0002_01.row.prog w) (ktrTop dp un gd cn cs L a ccd cl outer) (call (.ref 200) [v, .ref de]) Q E s
def GreatFor (w : World) (P : Tm → Prop) : Prop := ∀ {q}, P q → GreatSpec w q
theorem w55a : True := by
  k_with "my call" => ((k_here; (with_reducible show wpAny _ _ (call (Value.ref 200) [_, _]) _ _ _); (with_reducible rename GreatFor _ _ => ih9CD); k_dflt (refine' ih9CD ?ktCD ?k1CD ?k2CD ?k3CD ?k4CD ?k5CD ?kKCD ?k6CD ?k7CD ?k8CD ?k9CD ?k10CD ?k11CD ?k12CD ?k125CD ?k13CD ?k14CD ?_; (case k1CD => k_asm); (case k2CD => k_asm); (case k3CD => k_asm); (case k4CD => k_asm); (case k5CD => k_asm); (case kKCD => first | exact rfl | assumption); (case k6CD => first | assumption | exact TmIn.mono (by assumption) (by k_extra "my sub")); (case ktCD => first | exact Or.inl rfl | exact Or.inr rfl | exact True.intro); (case k7CD => k_mem); (case k8CD => assumption); (case k9CD => assumption); (case k10CD => assumption); (case k11CD => assumption); (case k12CD => first | assumption | omega); (case k125CD => k_extra "my dep"); (case k13CD => ktr_room); (case k14CD => ktr_units); k_whole); intro t1' h' tk' F' N'; (try k_sweep)))
  k_with "my nocall" => ((with_reducible show wpAny _ _ (call (Value.ref 200) _ _) _ _ _))
  k_with "call builtin:len" => ((k_here; (with_reducible show wpAny _ _ (call (Value.builtin "len") [Value.str (ones _) _]) _ _ _); refine len_ones (by assumption) ?_))
  trivial
theorem great_suc {w : World} {t : Tm} (IH : GreatFor w (fun q => q = t ∨ q = t)) : GreatSpec w (.suc t) := by
  intro mean mg mb dp un gd cn cs a ccd cl outer A₀ base h₀ L m news s Q E v de oe e t1 t2 t3 t4 t5 t6 B F X N T hk hin hde hds hdd hdf hev hval hdp hd hu ret
  obtain ⟨sH, sG, sD, sT, sO⟩ := s
  (try dsimp only at F); (try dsimp only at N); (try dsimp only at ret)
  have hones : OnesFor w (fun _ => True) := fun _ => ones_all _
  have hval0 := hval
  have hvv := Tm.small_val hev hval
  obtain ⟨hsm, hsv⟩ := hval
  have hdp0 := hdp
  have hd0 := hd
  have hu0 := hu
  simp only [Tm.depth] at hd hu hdp
  have hin0 := hin
  cases hin with | suc hm ht =>
  have key : ∀ (M : Int) t1' h' tk', M = (Tm.top e (.suc t) : Nat) → Fr h₀ L h' m → News h₀ L h' news → Ret Q (.int M t1') { heap := h', gens := sG, drawn := sD, toks := tk', os := sO } := fun M t1' h' tk' hM F' N' => by subst hM; exact ret t1' h' tk' F' N'
  replace N := newsCons (newsCons N hde) (List.mem_cons_of_mem _ hm)
  refine ret_of (α := Unit) ?_
  refine wpAny_call ?_
  w_strict (k_dflt (k_extra "my enterC"))
  k_extra "my steps"
  all_goals (try dsimp only at *)
  all_goals (
    (rename Fr h₀ L _ m => fX); (rename News h₀ L _ _ => nX)
    exact key _ _ _ _ (by simp only [Tm.top, Tm.val] at *; first | exact max2i (by assumption) (by assumption) | omega) fX (news_of nX (by k_extra "my sub")))
theorem top_bin (e : Ev) (q : Bool) (t r : Tm) : (mkOf q t r).top e = max ((mkOf q t r).val e) (max (t.top e) (r.top e)) := by cases q <;> rfl
theorem great_bin {w : World} {q : Bool} {t r : Tm} (IH : GreatFor w (fun q => q = t ∨ q = r)) : GreatSpec w (mkOf q t r) := by
  intro mean mg mb dp un gd cn cs a ccd cl outer A₀ base h₀ L m news s Q E v de oe e t1 t2 t3 t4 t5 t6 B F X N T hk hin hde hds hdd hdf hev hval hdp hd hu ret
  obtain ⟨sH, sG, sD, sT, sO⟩ := s
  (try dsimp only at F); (try dsimp only at N); (try dsimp only at ret)
  have hones : OnesFor w (fun _ => True) := fun _ => ones_all _
  have hval0 := hval
  have hvv := Tm.small_val hev hval
  obtain ⟨hsm, hsm2⟩ := small_bin hval
  have hdp0 := hdp
  have hd0 := hd
  have hu0 := hu
  simp only [mkOf_depth] at hd hu hdp
  have hin0 := hin
  obtain ⟨a8, tk8, v8, u8, e8, rfl, hm, ht, hr⟩ := TmIn.bin hin
  have key : ∀ (M : Int) t1' h' tk', M = (Tm.top e (mkOf q t r) : Nat) → Fr h₀ L h' m → News h₀ L h' news → Ret Q (.int M t1') { heap := h', gens := sG, drawn := sD, toks := tk', os := sO } := fun M t1' h' tk' hM F' N' => by subst hM; exact ret t1' h' tk' F' N'
  replace N := newsCons (newsCons N hde) (List.mem_cons_of_mem _ hm)
  refine ret_of (α := Unit) ?_
  refine wpAny_call ?_
  w_strict (k_dflt (k_extra "my enterC"))
  k_extra "my steps"
  all_goals (try dsimp only at *)
  all_goals (
    (rename Fr h₀ L _ m => fX); (rename News h₀ L _ _ => nX)
    exact key _ _ _ _ (by rw [top_bin]; first | exact max3i (by assumption) (by assumption) | omega) fX (news_of nX (by k_extra "my sub")))
theorem great_leaf {w : World} {x : Nm} : GreatSpec w (.nm x) := by
  intro mean mg mb dp un gd cn cs a ccd cl outer A₀ base h₀ L m news s Q E v de oe e t1 t2 t3 t4 t5 t6 B F X N T hk hin hde hds hdd hdf hev hval hdp hd hu ret
  obtain ⟨sH, sG, sD, sT, sO⟩ := s
  (try dsimp only at F); (try dsimp only at N); (try dsimp only at ret)
  have hones : OnesFor w (fun _ => True) := fun _ => ones_all _
  have hval0 := hval
  have hvv := Tm.small_val hev hval
  
  have hdp0 := hdp
  have hd0 := hd
  have hu0 := hu
  simp only [Tm.depth] at hd hu hdp
  have hin0 := hin
  cases hin with | nm hm =>
  have key : ∀ (M : Int) t1' h' tk', M = (Tm.top e (.nm x) : Nat) → Fr h₀ L h' m → News h₀ L h' news → Ret Q (.int M t1') { heap := h', gens := sG, drawn := sD, toks := tk', os := sO } := fun M t1' h' tk' hM F' N' => by subst hM; exact ret t1' h' tk' F' N'
  replace N := newsCons (newsCons N hde) (List.mem_cons_of_mem _ hm)
  refine ret_of (α := Unit) ?_
  refine wpAny_call ?_
  w_strict (k_dflt (k_extra "my enterC"))
  k_extra "my steps"
  all_goals (try dsimp only at *)
  all_goals (
    (rename Fr h₀ L _ m => fX); (rename News h₀ L _ _ => nX)
    exact key _ _ _ _ (by simp only [Tm.top, Tm.val] at *; first | exact max2i (by assumption) (by assumption) | omega) fX (news_of nX (by k_extra "my sub")))
theorem great_all {w : World} (t : Tm) : GreatSpec w t := by
  induction t with
  | nm n => exact great_leaf
  | suc t ih => exact great_suc (for1 (P := GreatSpec w) ih)
  | plus t r i1 i2 => exact great_bin (q := true) (for2 (P := GreatSpec w) i1 i2)
  | times t r i1 i2 => exact great_bin (q := false) (for2 (P := GreatSpec w) i1 i2)
theorem wpAny_widen {α : Type} {M : Model} {A A' : Around} {t : Sem α} {Q : α → Shared → Prop} {E : Value → Shared → Prop} {s : Shared} (h : wpAny M A' t Q E s) (hh : A.handled = A'.handled) (hd : A.depth ≤ A'.depth) (hf : A.frames = A'.frames) (hg : A.guards = A'.guards) (hu : A.units ≤ A'.units) :
    wpAny M A t Q E s := fun Γ p hΓ => h Γ p ⟨hΓ.1.trans hh, Nat.le_trans hΓ.2.1 hd, fun l hl => hΓ.2.2.1 l (hf.trans hl), fun g hl => hΓ.2.2.2.1 g (hg.trans hl), Nat.le_trans hΓ.2.2.2.2 hu⟩
theorem lt_sub9 {D : Addr} {l r : List (Addr × Obj)} (h : ∀ p ∈ r, p.1 < D) (hs : ∀ p ∈ l, p ∈ r) : ∀ p ∈ l, p.1 < D := fun p hp => h p (hs p hp)
theorem lt_sub29 {D X : Addr} {l r : List (Addr × Obj)} (h2 : @LT.lt Nat _ D X) (h : ∀ p ∈ r, p.1 < D) (hs : ∀ p ∈ l, p ∈ r) : ∀ p ∈ l, p.1 < X := fun p hp => Nat.lt_trans (h p (hs p hp)) h2
theorem w58 : True := by
  w_top off
  k_with_none
  k_with "my k_all" => (k_dflt (first | assumption | exact all_ne_sub9 (by assumption) (by k_extra "my sub") | exact all_ne_u0 (by assumption) (by k_extra "my sub") | exact all_ne_u1 (by assumption) (by k_extra "my sub") | exact all_ne_u2 (by assumption) (by k_extra "my sub") | exact all_ne_u3 (by assumption) (by k_extra "my sub") | exact all_ne_u4 (by assumption) (by k_extra "my sub") | (refine List.forall_mem_append.mpr ⟨?_, ?_⟩ <;> k_all)))
  k_with "my ktr_room" => (((try simp only [depth_under_make, depth_under_kw, depth_in1, depth_deeper, depth_caller]); (try dsimp only [ktrTop]); (try simp only [recursionLimit]); k_extra "my room"))
  k_with "my room" => (first | exact Nat.le_of_ble_eq_true rfl | exact rm0 hd rfl | exact rm1 hd rfl | exact rm5 hd rfl | exact rm6 hd rfl | exact rm4 hd rfl | exact rm2 hd rfl | exact rm3 hd rfl | exact rm7 hd rfl | exact rm8 (by assumption) rfl | omega)
  k_with "my units" => (first | exact Nat.le_of_ble_eq_true rfl | exact rm0 hu rfl | exact rm1 hu rfl | exact rm5 hu rfl | exact rm6 hu rfl | exact rm4 hu rfl | exact rm2 hu rfl | exact rm3 hu rfl | exact rm7 hu rfl | exact rm8 (by assumption) rfl | exact um1 hu rfl | exact um2 hu rfl | exact um3 hu rfl | exact um4 hu rfl | exact um5 hu rfl | (have hcL9 := cLine_is; omega))
  k_with "my dep" => (first | assumption | exact dm1 hdp | exact dm2 hdp | exact dm0 hdp | omega)
  k_with "my ktr_units" => (((try simp only [units_in1, units_deeper, Around.mark_units, units_caller]); (try dsimp only [ktrTop]); k_extra "my units"))
  k_with "my k_room" => (ktr_room)
  k_with "my k_units" => (ktr_units)
  k_with "my units_room" => (ktr_units)
  k_with "compareOp Eq ref ref" => ((k_here; (with_reducible show wpAny _ _ (compareOp CmpOp.Eq (Value.ref _) (Value.ref _)) _ _ _); first
      | refine' eq_zero_f (by assumption) (by assumption) (by k_extra "my sub") (by k_mem) (by first | rfl | exact mkOf_zero) (by omega) (by ktr_units) ?_
      | refine' eq_zero_t (by assumption) (by assumption) (by k_extra "my sub") (by k_mem) rfl (by omega) (by ktr_units) ?_))
  k_with "my k_ne" => (k_dflt (first | exact off_I (by assumption) (by k_mem) | exact off_C (by assumption) (by k_mem) | exact off_D (by assumption) (by k_mem) | assumption | exact ne_gt9 (by assumption) (by k_mem) | exact ne_lt9 (by assumption) (by k_mem) | exact ne_all9 (by assumption) (by k_mem) | exact ne_all9s (by assumption) (by k_mem) | exact ne_gt_u1 (by assumption) (by k_mem) | exact ne_lt_u1 (by assumption) (by k_mem) | exact ne_gt_u2 (by assumption) (by k_mem) | exact ne_lt_u2 (by assumption) (by k_mem) | exact ne_gt_u3 (by assumption) (by k_mem) | exact ne_lt_u3 (by assumption) (by k_mem) | exact ne_gt_u4 (by assumption) (by k_mem) | exact ne_lt_u4 (by assumption) (by k_mem)))
  k_with "my off" => (first | exact True.intro | (refine And.intro (off_at (by assumption) (by k_mem)) ?_; k_extra "my off") | (refine Off3.append ?_ ?_ <;> k_extra "my off") | (refine Off3.of_sub (by assumption) (fun p hp => ?_); simp only [List.mem_cons, List.mem_append, hp, true_or, or_true]; done) | (refine Off3.of_lt (by assumption) (by k_mem) (by k_mem) (by k_mem)))
  k_with "CompSrc" => ((k_here; k_dflt (refine LCg.CompSrc.range (by rfl) (by k_asm) (by k_asm) (by with_reducible assumption) (by first | decide | rfl) (by first | rfl | decide) (by first | size_fits | exact Nat.le_of_ble_eq_true rfl) ?_; intro g'; lcg_lit)))
  k_with "CompRest" => ((with_unfolding_all first
      | (refine CompRest_at (fun v9 h9 => (Option.some.inj h9).symm) ?_; intro I' oI' C' oC' D' m' h' tk' E' hC' hx' F' N' off' ne'; have offM := off'.mem; clear off')
      | (refine CompRest_ex (fun v9 h9 => h9) ?_; intro t9' I' oI' C' oC' D' m' h' tk' E' hC' hx' F' N' off' ne'; have offM := off'.mem; clear off')
      | (refine LCg.CompRest.succ ?_; intro v' I' oI' C' oC' D' m' h' tk' E' hv' hC' hx' F' N' off' ne'; have offM := off'.mem; (first | lcg_open hv' | (obtain ⟨t9', hv9'⟩ := hv'; subst hv9')); clear off')
      | refine LCg.CompRest.zero ?_))
  k_with "CompEnd" => ((k_here; (refine LCg.CompEnd.intro (by assumption) (by assumption) _ (fun p hp => hp) ?offAO ?srcAO ?_; (case offAO => k_extra "my off"); (case srcAO => first | lcg_src | ((try dsimp only); k_mem)))))
  k_with "my enter" => ((refine' code_def ?k1AP ?k2AP ?k3AP ?k4AP ?k5AP ?kAAP ?kFAP ?kKAP ?k6AP ?k7AP ?k8AP ?k9AP ?kBAP ?_ ?c2AP ?c3AP ?c4AP ?c5AP; (case kAAP => exact rfl); (case kFAP => exact rfl); (case kKAP => first | exact rfl | assumption); (case k1AP => k_asm); (case k2AP => k_asm); (case k3AP => k_asm); (case k4AP => k_asm); (case k5AP => k_asm); (case k6AP => k_is); (case k7AP => k_is); (case k8AP => ktr_room); (case k9AP => exact BindsTo.of_eq rfl); (case c5AP => decide); (case kBAP => exact locs rfl); (case c2AP => exact rfl); (case c3AP => exact rfl); (case c4AP => exact rfl); k_whole; intro g' L' h' FG' F' N' B' X' T'; (try dsimp only); (try k_fold)))
  k_with "my enterC" => ((refine' code_defC ?k1AQ ?k2AQ ?k3AQ ?k4AQ ?k5AQ ?kAAQ ?kFAQ ?kKAQ ?k6AQ ?k7AQ ?k8AQ ?k9AQ ?kBAQ ?kDAQ ?_ ?c2AQ ?c3AQ ?c4AQ; (case kAAQ => exact rfl); (case kFAQ => exact rfl); (case kKAQ => first | exact rfl | assumption); (case k1AQ => k_asm); (case k2AQ => k_asm); (case k3AQ => k_asm); (case k4AQ => k_asm); (case k5AQ => k_asm); (case k6AQ => k_is); (case k7AQ => k_is); (case k8AQ => ktr_room); (case k9AQ => exact BindsTo.of_eq rfl); (case kBAQ => exact rfl); (case kDAQ => decide +kernel); (case c2AQ => exact rfl); (case c3AQ => exact rfl); (case c4AQ => exact rfl); k_whole; intro g' L' h' tk' cells' FG' F'; (first | (refine cells_in1 ?_; intro o' d1' N') | (refine cells_in2 ?_; intro o' o2' d1' d2' N') | (refine cells_in3 ?_; intro o' o2' o3' d1' d2' d3' N') | (refine cells_in4 ?_; intro o' o2' o3' o4' d1' d2' d3' d4' N')); intro B' X' T' l1; (try k_lt l1); (try dsimp only); (try k_fold)))
  k_with "eval ListComp" => ((k_here; (with_reducible show wpAny _ _ (eval (Expr.ListComp _ [⟨Expr.Name _ _, Expr.Subscript _ (Expr.Slice (some _) _ _ _) _, [], 0⟩] _ _) _) _ _ _); k_dflt (refine comp_tup (by k_asm) (by with_unfolding_all rfl) (by decide) (by rfl) (by decide) (by rfl) ?_)))
  k_with "exec Assign cons ListComp" => ((k_here; (with_reducible show wpAny _ _ (exec (Stmt.Assign [Expr.Name _ _] (Expr.ListComp _ [⟨Expr.Name _ _, Expr.Subscript _ (Expr.Slice (some _) _ _ _) _, [], 0⟩] _ _) _) _) _ _ _); k_dflt (refine comp_tup_assign (by k_asm) (by rfl) (by with_unfolding_all rfl) (by with_unfolding_all rfl) (by decide) (by rfl) (by decide) (by rfl) (by rfl) (by rfl) ?_)))
  k_with "subscriptTail Name Slice ref ref" => ((k_here; (with_reducible show wpAny _ _ (subscriptTail _ (PySem.Expr.Slice (some _) none none _) (Value.ref _) (Value.ref _)) _ _ _); k_dflt (refine' slice_tup1 ?FAT ?NAT ?lAT ?pAT ?eAT ?_ ?sAT ?tAT ?zAT; (case FAT => k_asm); (case NAT => k_asm); (case lAT => k_mem); (case pAT => exact Nat.le_of_ble_eq_true rfl); (case eAT => kl_lit); (case sAT => with_unfolding_all rfl); (case tAT => kmk_pure); (case zAT => kmk_size)); intro D' h' F' N' l1; (try k_lt l1); (try k_sweep)))
  k_with "TupSrc" => ((k_here; k_dflt (refine TupSrc.of (by rfl) (by k_asm) (by k_asm) (by k_mem) (by first | size_fits | exact Nat.le_of_ble_eq_true rfl) ?_; intro g'; lcg_lit)))
  k_with "my steps" => (repeat' ((fail_if_success (with_reducible show Ret _ _ _)); first | ((with_reducible show wpAny _ _ (call (Value.ref _) _ _) _ _ _); k_extra "my call") | ((fail_if_success ((with_reducible show wpAny _ _ (call (Value.ref _) _ _) _ _ _); k_extra "my nocall")); first | (k_unfold; (try dsimp only)) | walk1 | (dsimp only; walk1) | (leave1; walk_say "STEP leave1"; try dsimp only))))
  k_with "my sub" => (first | (with_reducible exact sub_self _) | (with_reducible refine sub_cons ?_; k_extra "my sub") | (with_reducible refine sub_left ?_; k_extra "my sub") | (with_reducible refine sub_right ?_; k_extra "my sub") | (intro p hp; simp only [List.mem_cons, List.mem_append, hp, true_or, or_true]; done))
  k_with "my ord" => (k_dflt (first | assumption | exact lt_all (by assumption) (by k_mem) | exact lt_all_u1 (by assumption) (by k_mem) | exact lt_all_u2 (by assumption) (by k_mem) | omega))
  k_with "my allLt" => (first | exact allLt_of (by assumption) | exact allLt_sub (by assumption) (by k_extra "my sub") | tbn_find)
  k_with "FinE" => (((unfold LCg.FinE); intro D' h' tk' F' N' o1'; replace o1' := off1_mem o1'; (try dsimp only [List.nil_append, List.cons_append] at N'); (try dsimp only [List.nil_append, List.cons_append] at o1'); (try dsimp only)))
  k_with "FinA" => (((unfold LCg.FinA); intro D' h' tk' F' N' o1'; replace o1' := off1_mem o1'; (try dsimp only [List.nil_append, List.cons_append] at N'); (try dsimp only [List.nil_append, List.cons_append] at o1'); (try dsimp only)))
  k_with "my omega" => (first
      | ((with_reducible show @LE.le Nat _ _ _); first | exact Nat.le_of_ble_eq_true rfl | with_reducible (first | exact o1 ‹_› (by decide) | exact o4 ‹_› (by decide) | exact o7 ‹_› (by decide) | exact o8 ‹_› (by decide) | exact o9 ‹_› (by decide) | exact q6 ‹_› (by decide) | exact q0 ‹_› (by decide) | exact r0 ‹_› (by decide) | exact q1 ‹_› ‹_› (by decide) | exact q3 ‹_› ‹_› (by decide) | exact q7 ‹_› ‹_› (by decide) | exact q8 ‹_› ‹_› (by decide) | exact q9 ‹_› ‹_› | exact r1 ‹_› ‹_› (by decide) | exact r2 ‹_› ‹_› | exact r4 ‹_› ‹_› | exact r8 ‹_› ‹_› (by decide) | exact o0 ‹_› (by decide) | exact Nat.add_le_add ‹_› ‹_› | exact Nat.le_add_left _ _ | exact Nat.le_of_lt ‹_›))
      | ((with_reducible show @LT.lt Nat _ _ _); first | exact Nat.le_of_ble_eq_true rfl | with_reducible (first | exact o2 ‹_› (by decide) | exact o3 ‹_› (by decide) | exact o5 ‹_› (by decide) | exact o6 ‹_› (by decide) | exact p5 ‹_› (by decide) | exact j6 ‹_› (by decide) | exact q2 ‹_› ‹_› (by decide) | exact q4 ‹_› ‹_› (by decide) | exact q5 ‹_› ‹_› (by decide) | exact p1 ‹_› ‹_› (by decide) | exact p2 ‹_› ‹_› (by decide) | exact p3 ‹_› ‹_› (by decide) | exact p4 ‹_› ‹_› (by decide) | exact p6 ‹_› ‹_› (by decide)))
      | ((with_reducible show @LE.le Int _ _ _); first | decide +kernel | with_reducible (first | exact i1 ‹_› | exact i2 ‹_› | exact i6 | exact i7 | exact j7 ‹_› | exact j4 ‹_› (by decide +kernel) | exact i8 ‹_› (by decide +kernel) | exact i9 ‹_› (by decide +kernel) | exact i3 ‹_› ‹_› | exact i4 ‹_› ‹_› | exact i5 ‹_› ‹_›))
      | ((with_reducible show @LT.lt Int _ _ _); first | decide +kernel | with_reducible (first | exact j1 ‹_› | exact j5 (by decide +kernel) | exact j3 ‹_› (by decide +kernel) | exact j8 ‹_› (by decide +kernel) | exact j9 ‹_› (by decide +kernel) | exact l1 ‹_› (by decide +kernel) | exact l2 ‹_› (by decide +kernel) | exact l3 ‹_› (by decide +kernel) | exact j0 ‹_› ‹_› (by decide +kernel)))
      | ((with_reducible show @Ne Nat _ _); with_reducible (first | exact Nat.ne_of_gt ‹_› | exact Nat.ne_of_lt ‹_› | exact Nat.succ_ne_self _ | exact (Nat.succ_ne_self _).symm))
      | with_reducible (first | exact j2 ‹_› | exact z4 ‹_› ‹_› | exact z6 ‹_› ‹_› | exact z3 ‹_› | exact z2 ‹_› ‹_›))
  trivial
theorem wd_type : typeOf (.builtin "Exception.__init__") = pure (.type "wrapper_descriptor") := by show builtinType _ = _; rw [builtinType_eq_fast]; kernel_rfl
theorem wd_lookup : typeLookup (.type "wrapper_descriptor") "__get__" = pure (some (.builtin "wrapper_descriptor.__get__")) := by rw [typeLookup_type, builtinLookup_eq_fast]; kernel_rfl
def EndX (Q : Value → Shared → Prop) (g : Array GenState) (d : Drawn) (os : OsState) (ok : Heap → Value → Prop) : Prop := ∀ h' t' v, ok h' v → Q v ⟨h', g, d, t', os⟩
theorem EndX.use {Q : Value → Shared → Prop} {g : Array GenState} {d : Drawn} {os : OsState} {ok : Heap → Value → Prop} (H : EndX Q g d os ok) {h' : Heap} {t' : Nat} {v : Value} (hok : ok h' v) : Q v ⟨h', g, d, t', os⟩ := H h' t' v hok
theorem w58a : True := by
  k_with "my x_close" => ((refine EndX.use (by assumption) ?_; exact ⟨_, rfl, by assumption⟩))
  trivial
abbrev wrapObj (x : Addr) : Obj := { cls := .type "method-wrapper", dict := none, data := .fields #[.builtin "Exception.__init__", .ref x], slots := #[] }
theorem wd_get {prog : Program} {w : World} {Q E : Value → Shared → Prop} {x t : Addr} {h : Heap} {g : Array GenState} {d : Drawn} {tk : Nat} {os : OsState} {fr : Option (List Env)} {gd : Option (List Code)} (X : (hd.heap_1 w.params).In h)
    (hx : h.get? x = some { cls := .ref 60, dict := none, data := .fields #[.ref t, .none, .none, .none, .bool false, .none], slots := #[] })
    (hq : EndX Q g d os fun h' v => ∃ q, v = .ref q ∧ W.X.Mem h h' [] [(q, { cls := .type "method-wrapper", dict := none, data := .fields #[.builtin "Exception.__init__", .ref x], slots := #[] })]) :
    wpAny (model prog w) { handled := none, depth := 950, frames := fr, guards := gd, units := 9000 } (call (.builtin "wrapper_descriptor.__get__") [.builtin "Exception.__init__", .ref x, .ref 60]) Q E ⟨h, g, d, tk, os⟩ := by
  x_run
abbrev faultMro : List Value := [.ref 47, .type "Exception", .type "BaseException", .type "object"]
theorem fault_cls {w : World} {h : Heap} (X : (hd.heap_1 w.params).In h) : ∃ nm qn N bs hdct sn sub ab col dd k0 k1 k2 k3 k5, h.get? 60 = some (excClassObj nm qn 60 N bs faultMro hdct sn sub ab col dd k0 k1 k2 k3 k5 "Exception.__new__") := by
  refine' ⟨?a1, ?a2, ?a3, ?a4, ?a5, ?a6, ?a7, ?a8, ?a9, ?b1, ?b2, ?b3, ?b4, ?b5, ?b6, X _ _ ?c1⟩
  case c1 => with_unfolding_all rfl
theorem wd_call {prog : Program} {w : World} {A : Around} {Q E : Value → Shared → Prop} {x t b : Addr} {msg : Str} {tok : Tok} {h : Heap} {g : Array GenState} {d : Drawn} {tk : Nat} {os : OsState} (X : (hd.heap_1 w.params).In h)
    (hx : h.get? x = some { cls := .ref 60, dict := none, data := .fields #[.ref t, .none, .none, .none, .bool false, .none], slots := #[] })
    (hb : h.get? b = some { cls := .type "method-wrapper", dict := none, data := .fields #[.builtin "Exception.__init__", .ref x], slots := #[] })
    (hq : ∀ h' , h'.get? x = some { cls := .ref 60, dict := none, data := .fields #[.ref h.objs.size, .none, .none, .none, .bool false, .none], slots := #[] } → h'.get? h.objs.size = some { cls := .type "tuple", data := .seq #[.str msg tok] } →
      (∀ y o, y ≠ x → h.get? y = some o → h'.get? y = some o) → Q .none ⟨h', g, d, tk, os⟩) :
    wpAny (model prog w) A (call (.ref b) [.str msg tok]) Q E ⟨h, g, d, tk, os⟩ := by
  have FE := PySem.F.excBase_Exception
  obtain ⟨nm, qn, N, bs, hdct, sn, sub, ab, col, dd, k0, k1, k2, k3, k5, hC⟩ := fault_cls X
  have hxb : x ≠ b := by rintro rfl; rw [hx] at hb; cases hb
  refine wpAny_call (codeAny_of_tree ?_)
  show wpAny _ _ (callAny (.ref b) _) _ _ _
  unfold callAny
  refine wpAny_bind (wpAny_load hb ?_)
  show wpAny _ _ (do checkBoundCall "Exception.__init__" ⟨[.ref x, .str msg tok], []⟩; again (.builtin "Exception.__init__" ⟨[.ref x, .str msg tok], []⟩)) _ _ _
  refine wpAny_bind ?_
  simp only [checkBoundCall, FE.initKind, FE.initRow]
  rw [if_pos (by decide +kernel)]
  unfold Bind.checkArgs
  repeat (first | (with_reducible refine wpAny_loadPart_at hx ?_; dsimp only) | (with_reducible refine wpAny_loadPart_at hC ?_; dsimp only) | wp_step)
  refine ⟨Code.quiet_builtin _ (by decide +kernel), codeAny_builtin FE.initEntry ?_⟩
  wp_walk
  have hlt : x < h.objs.size := Heap.lt_size hx
  refine hq _ ?_ ?_ fun y o hy e => ?_
  · rw [Heap.get?_update_self _ (Heap.get?_push_of_some _ hx) rfl]
    rfl
  · rw [Heap.get?_update_other _ _ (Nat.ne_of_lt hlt)]
    exact Heap.get?_push_size _ rfl
  · rw [Heap.get?_update_other _ _ (Ne.symm hy)]
    exact Heap.get?_push_of_some _ e
theorem super_ga_b {prog : Program} {w : World} {A : Around} {Q : Fin → Shared → Prop} {E : Value → Shared → Prop} {so D x C : Addr} {l₀ l : List Value} {K : Frag} {name : Str} {id : String} {tok : Tok} {h : Heap} {g : Array GenState} {d : Drawn} {t : Nat} {os : OsState}
    (hso : h.get? so = some { cls := .type "super", dict := none, data := .fields #[.ref D, .ref x, .ref C], slots := #[] }) (hno : Looks (model prog w) h (opaqueClassAbove (.ref C)) none)
    (hC : Looks (model prog w) h (mroOf (.ref C)) l₀) (hl : (l₀.dropWhile (· != .ref D)).drop 1 = l) (X : K.In h)
    (hf : alongIn K name l = some (some (.builtin id))) (e1 : typeOf (.builtin id) = pure (.type "wrapper_descriptor")) (hne : (Value.ref x == Value.ref C) = false) (hn : (name == ("__class__" : Str)) = false)
    (hq : wpAny (model prog w) A (call (.builtin "wrapper_descriptor.__get__") [.builtin id, .ref x, .ref C]) (fun v s' => Q (.done (.ret v)) s') E ⟨h, g, d, t, os⟩) :
    wpAny (model prog w) A (Builtin.«super.__getattribute__» ⟨[.ref so, .str name tok], []⟩) Q E ⟨h, g, d, t, os⟩ := by
  have e2 := wd_lookup
  have hdt : ({ cls := .type "super", dict := none, data := .fields #[.ref D, .ref x, .ref C], slots := #[] } : Obj).data = .fields #[.ref D, .ref x, .ref C] := rfl
  have f0 : (#[.ref D, .ref x, .ref C] : Array Value)[0]? = some (.ref D) := rfl
  have f1 : (#[.ref D, .ref x, .ref C] : Array Value)[1]? = some (.ref x) := rfl
  have f2 : (#[.ref D, .ref x, .ref C] : Array Value)[2]? = some (.ref C) := rfl
  unfold Builtin.«super.__getattribute__»
  repeat (first
    | (with_reducible refine wpAny_field hso hdt f0 ?_) | (with_reducible refine wpAny_field hso hdt f1 ?_) | (with_reducible refine wpAny_field hso hdt f2 ?_)
    | (with_reducible refine ks_wpAny_notOpaque hno ?_)
    | (with_reducible refine Looks.at hC ?_; rw [hl])
    | (refine ks_forIn_along X (fun _ _ => rfl) rfl ?_ hf)
    | (with_reducible refine wpAny_of_eq e1 ?_)
    | (with_reducible refine wpAny_mono hq (fun v s' hv => ?_) fun _ _ z => z)
    | (simp only [hn, hne, Bool.or_false, Bool.false_eq_true, if_false])
    | wp_step
    | dsimp only)
  all_goals exact hv
theorem fault_meth {prog : Program} {w : World} {fr : Option (List Env)} {gd : Option (List Code)} {Q : Value × List Value → Shared → Prop} {E : Value → Shared → Prop} {so x t : Addr} {pl : Sem Bool} {h : Heap} {g : Array GenState} {d : Drawn} {tk : Nat} {os : OsState} (X : (hd.heap_1 w.params).In h)
    (hso : h.get? so = some { cls := .type "super", dict := none, data := .fields #[.ref 47, .ref x, .ref 60], slots := #[] })
    (hx : h.get? x = some { cls := .ref 60, dict := none, data := .fields #[.ref t, .none, .none, .none, .bool false, .none], slots := #[] })
    (hq : ∀ h' t' q, W.X.Mem h h' [] [(q, { cls := .type "method-wrapper", dict := none, data := .fields #[.builtin "Exception.__init__", .ref x], slots := #[] })] → Q (.ref q, []) ⟨h', g, d, t', os⟩) :
    wpAny (model prog w) { handled := none, depth := 949, frames := fr, guards := gd, units := 8990 } (getMethod (.ref so) (Str.ofString "__init__") pl) Q E ⟨h, g, d, tk, os⟩ := by
  have hno : Looks (model prog w) h (opaqueClassAbove (.ref 60)) none := looks_opaque X (by kernel_rfl)
  have hC : Looks (model prog w) h (mroOf (.ref 60)) (.ref 60 :: faultMro) := by
    obtain ⟨nm, qn, N, bs, hdct, sn, sub, ab, col, dd, k0, k1, k2, k3, k5, e⟩ := fault_cls X
    exact fun A Q E s k q => by
      obtain ⟨hh, g, d, t, os⟩ := s
      exact wpAny_mroOf_exc (k _ _ e) q
  have hf : alongIn (hd.heap_1 w.params) (Str.ofString "__init__") [.type "Exception", .type "BaseException", .type "object"] = some (some (.builtin "Exception.__init__")) := by kernel_rfl
  have hxC : x ≠ 60 := by
    obtain ⟨nm, qn, N, bs, hdct, sn, sub, ab, col, dd, k0, k1, k2, k3, k5, e⟩ := fault_cls X
    rintro rfl
    rw [hx] at e; cases e
  have hne : (Value.ref x == Value.ref 60) = false := by simp [hxC]
  have hn : ((Str.ofString "__init__") == ("__class__" : Str)) = false := by decide +kernel
  have hl : ((Value.ref 60 :: faultMro).dropWhile (· != .ref 47)).drop 1 = [.type "Exception", .type "BaseException", .type "object"] := by decide +kernel
  have hlk := PySem.F.ks_slot_super_ga.lookup
  have hcan := PySem.F.ks_canon_super_ga
  have hT : ∀ t', (⟨h, g, d, t', os⟩ : Shared).TypeIs (.ref so) "super" := fun _ => ⟨_, hso, rfl⟩
  unfold getMethod
  refine wpAny_bind (wpAny_specialOf (hT _) hlk ?_)
  show wpAny _ _ (if (Manifest.canonical "super.__getattribute__" != "object.__getattribute__") = true then _ else _) _ _ _
  rw [if_pos hcan]
  unfold getAttr getAttrBy
  refine wpAny_bind (wpAny_bind (wpAny_mkText (wpAny_holding (wpAny_bind (wpAny_typeOf (hT _) (wpAny_bind (wpAny_of_eq hlk ?_)))))))
  show wpAny _ _ (getAttrByItsOwn (.ref so) (.str (Str.ofString "__init__") tk) (.type "super") (.builtin "super.__getattribute__") true false) _ _ _
  unfold getAttrByItsOwn hookBefore callGetattribute boundAndCalled
  refine wpAny_bind (wpAny_of_eq (show (if onTheHeap (.type "super") then typeLookup (.type "super") "__getattr__" else pure none) = pure none from rfl) ?_)
  refine wpAny_bind (wpAny_attempt (wpAny_holding ?_))
  show wpAny _ _ (bindSpecial (.builtin "super.__getattribute__") (.ref so) >>= _) _ _ _
  refine wpAny_bind (wpAny_of_eq (PySem.F.ks_slot_super_ga.bind _) ?_)
  refine wpAny_mono (Q := fun v s' => ∃ h' t' q, v = .ref q ∧ s' = ⟨h', g, d, t', os⟩ ∧ W.X.Mem h h' [] [(q, { cls := .type "method-wrapper", dict := none, data := .fields #[.builtin "Exception.__init__", .ref x], slots := #[] })]) (E := fun _ _ => False)
    (wpAny_call_entry PySem.F.ks_slot_super_ga (hT _) PySem.F.ks_entry_super_ga (super_ga_b hso hno hC hl X hf wd_type hne hn ?_) (PySem.F.ks_gaArgs_super _ _)) (fun v s' hv => ?_) fun _ _ z => z.elim
  · refine wpAny_widen (wd_get (fr := fr) (gd := gd) X hx ?_) rfl ?_ rfl rfl ?_
    · rintro h' t' v ⟨q, rfl, D⟩
      exact ⟨_, rfl, h', t', q, rfl, rfl, D⟩
    · simp only [depth_in1]; omega
    · simp only [units_in1]; omega
  · obtain ⟨h', t', q, rfl, rfl, D⟩ := hv
    exact wpAny_pure (wpAny_pure (hq _ _ _ D))
abbrev faultObj (t : Addr) (dx : Option Addr) : Obj := { cls := .ref 60, dict := dx, data := .fields #[.ref t, .none, .none, .none, .bool false, .none], slots := #[] }
theorem mem_one {h₀ h h' : Heap} {L q : Addr} {o : Obj} {m : Str → Option Value} {news : List (Addr × Obj)} (D : W.X.Mem h h' [] [(q, o)]) (F : Fr h₀ L h m) (N : News h₀ L h news) :
    Fr h₀ L h' m ∧ News h₀ L h' ((q, o) :: news) ∧ ∀ p ∈ news, p.1 ≠ q := by
  have k : ∀ b o, h.get? b = some o → h'.get? b = some o := fun b o e => D.keep b o e (by simp [W.X.away])
  obtain ⟨n1, n2⟩ := D.nw (q, o) (.head _)
  obtain ⟨oL, es, ep, hL, r⟩ := F.ns
  refine ⟨F.keeps k, fun p hp => ?_, fun p hp e => ?_⟩
  · rcases List.mem_cons.mp hp with rfl | hp
    · refine ⟨n1, fun z => ?_, ?_⟩
      · dsimp only at z n2
        rw [z, hL] at n2; cases n2
      · cases z : h₀.get? q with
        | none => rfl
        | some o' => have := F.keep _ _ z; dsimp only at n2; rw [n2] at this; cases this
    · exact ⟨k _ _ (N p hp).1, (N p hp).2⟩
  · have := (N p hp).1; rw [e] at this; dsimp only at n2; rw [n2] at this; cases this
section
variable {prog : Program} {w : World} {A : Around} {E : Value → Shared → Prop} {s : Shared} {h₀ : Heap} {L : Addr} {m : Str → Option Value} {news : List (Addr × Obj)} {so x t b : Addr} {msg : Str} {tok : Tok}
theorem fault_meth_N {pl : Sem Bool} {Q : Value × List Value → Shared → Prop} (F : Fr h₀ L s.heap m) (X₀ : (hd.heap_1 w.params).In h₀) (N : News h₀ L s.heap news) (hso : (so, ks_superObj 47 x 60) ∈ news) (hx : (x, faultObj t none) ∈ news)
    (hh : A.handled = none) (hd : A.depth ≤ 949) (hu : A.units ≤ 8990)
    (h : ∀ q h' tk', Fr h₀ L h' m → News h₀ L h' ((q, wrapObj x) :: news) → (∀ p ∈ news, p.1 ≠ q) → Q (.ref q, []) { s with heap := h', toks := tk' }) : wpAny (model prog w) A (getMethod (.ref so) (Str.ofString "__init__") pl) Q E s := by
  refine wpAny_widen (A' := { handled := none, depth := 949, frames := A.frames, guards := A.guards, units := 8990 }) ?_ hh hd rfl rfl hu
  obtain ⟨hp, g, d, tk, os⟩ := s
  refine fault_meth (X₀.keeps F.keep) (N _ hso).1 (N _ hx).1 fun h' t' q D => ?_
  obtain ⟨F', N', ne⟩ := mem_one D F N
  exact h q h' t' F' N' ne
theorem fault_base_N {Q : Value → Shared → Prop} (F : Fr h₀ L s.heap m) (X₀ : (hd.heap_1 w.params).In h₀) (N : News h₀ L s.heap ((x, faultObj t none) :: news)) (ne : ∀ p ∈ news, p.1 ≠ x) (hb : (b, wrapObj x) ∈ news)
    (h : ∀ q h', Fr h₀ L h' m → News h₀ L h' ((x, faultObj q none) :: (q, tupObj #[.str msg tok] 0) :: news) → (∀ p ∈ news, p.1 < q) → x < q → Q .none { s with heap := h' }) : wpAny (model prog w) A (call (.ref b) [.str msg tok]) Q E s := by
  obtain ⟨hp, g, d, tk, os⟩ := s
  have nx := N _ (.head _)
  have hlx := Heap.lt_size nx.1
  refine wd_call (X₀.keeps F.keep) nx.1 (N _ (.tail _ hb)).1 fun h' e1 e2 k => ?_
  obtain ⟨oL, es, ep, hL, r⟩ := F.ns
  have kf : ∀ y o, h₀.get? y = some o → h'.get? y = some o := fun y o e => k y o (fun z => by rw [z, nx.2.2] at e; cases e) (F.keep _ _ e)
  refine h _ h' ⟨⟨oL, es, ep, k _ _ (fun z => nx.2.1 z.symm) hL, r⟩, kf, F.above⟩ (fun p hp => ?_) (fun p hp => Heap.lt_size (N p (.tail _ hp)).1) hlx
  rcases List.mem_cons.mp hp with rfl | hp
  · exact ⟨e1, nx.2⟩
  rcases List.mem_cons.mp hp with rfl | hp
  · refine ⟨e2, fun z => ?_, ?_⟩
    · dsimp only at z
      exact absurd (Heap.lt_size hL) (by rw [← z]; exact Nat.lt_irrefl _)
    · cases z : h₀.get? _ with
      | none => rfl
      | some o' => exact absurd (Heap.lt_size (F.keep _ _ z)) (Nat.lt_irrefl _)
  · exact ⟨k _ _ (ne p hp) (N p (.tail _ hp)).1, (N p (.tail _ hp)).2⟩
end
theorem refuse_fault (self : Value) : refuseLoop self "__setattr__" (.ref 60 :: faultMro) = pure () := by rw [refuseLoop_ref, refuseLoop_ref]; exact PySem.F.store_Exception.passes self
theorem osa_fault {prog : Program} {w : World} {A : Around} {s : Shared} {x t : Addr} {tk : Tok} {v : Value} {R : Result → Shared → Prop} (X : (hd.heap_1 w.params).In s.heap) (I : InstAt s.heap x (faultObj t none) 60 none)
    (h : ∀ b, wpAny (model prog w) A.in1 (Builtin.ObjectAttr.storeInOwnDict (.ref x) (.ref 60) (.str (Str.ofString "what") tk) (Str.ofString "what") v b)
      (fun fin s' => match fin with | .done f => R (.ok f) s' | .again c' => c'.quiet = true ∧ codeAny (model prog w) A c' R s') (fun e s' => R (.error e) s') s) :
    codeAny (model prog w) A (.call (.builtin "object.__setattr__") ⟨[.ref x, .str (Str.ofString "what") tk, v], []⟩) R s := by
  have SF := PySem.F.store_object
  have sub : Looks (model prog w) s.heap (isInstance (.ref x) (.type "object")) true := I.type.andThen (looks_mroIn X (by kernel_rfl))
  refine codeAny_call_builtin SF.slot.plain SF.entry (@check_slot (model prog w) _ _ s "object.__setattr__" "object" "__setattr__" (.ref x) [.str (Str.ofString "what") tk, v] [] _ SF.kind SF.split sub (SF.args (.ref x) (.str (Str.ofString "what") tk) v) ?_)
  have hm : Looks (model prog w) s.heap (mroOf (.ref 60)) (.ref 60 :: faultMro) := by
    obtain ⟨nm, qn, N, bs, hdct, sn, sub, ab, col, dd, k0, k1, k2, k3, k5, e⟩ := fault_cls X
    exact fun A Q E s k q => by
      obtain ⟨hh, g, d, t, os⟩ := s
      exact wpAny_mroOf_exc (k _ _ e) q
  have ha : Looks (model prog w) s.heap (typeLookup (.ref 60) (Str.ofString "what")) none := looks_findIn X (by kernel_rfl)
  rw [osa_eq, refuse_eq]
  refine wpAny_bind (wpAny_bind (I.type.here (wpAny_bind (hm.here ?_))))
  rw [refuse_fault]
  refine wpAny_pure (wpAny_bind (I.type.here (wpAny_bind (ha.here (wpAny_bind (wpAny_pure ?_))))))
  exact h _
theorem set_fault {prog : Program} {w : World} {A : Around} {E : Value → Shared → Prop} {s : Shared} {h₀ : Heap} {L : Addr} {m : Str → Option Value} {news : List (Addr × Obj)} {x t : Addr} {v : Value}
    {Q : Unit → Shared → Prop} (F : Fr h₀ L s.heap m) (X₀ : (hd.heap_1 w.params).In h₀) (N : News h₀ L s.heap ((x, faultObj t none) :: news)) (ne : ∀ p ∈ news, p.1 ≠ x)
    (h : ∀ h' dx, Fr h₀ L h' m → News h₀ L h' ((x, faultObj t (some dx)) :: news) → Q () { s with heap := h', toks := s.toks + 2 }) : wpAny (model prog w) A (setAttr (.ref x) (Str.ofString "what") v) Q E s := by
  have nx := N _ (.head _)
  have I : InstAt s.heap x (faultObj t none) 60 none := ⟨nx.1, rfl, rfl, trivial⟩
  have X := X₀.keeps F.keep
  refine set_plain X I (by kernel_rfl) ?_
  refine osa_fault (s := { s with toks := s.toks + 1 }) X I fun b => ?_
  obtain ⟨cd, hc, hd'⟩ := any_some (show (clsIn (hd.heap_1 w.params) 60).any (·.hasDict) = true by kernel_rfl)
  refine wpAny_bind (wpAny_pure (wpAny_bind (wpAny_bind (wpAny_loadPart nx.1 (wpAny_bind ((looks_clsIn X hc) _ _ _ _ (fun _ _ e => e) ?_))))))
  rw [hd']
  have hlx : x < s.heap.objs.size := Heap.lt_size nx.1
  refine wpAny_bind (wpAny_alloc ?_)
  have g1 := Heap.get?_push_of_some { cls := .type "dict", data := .dict #[] } nx.1
  have g2 : (s.heap.push { cls := .type "dict", data := .dict #[] }).get? s.heap.objs.size = some { cls := .type "dict", data := .dict #[] } := Heap.get?_push_size _ rfl
  refine wpAny_bind (wpAny_updatePart g1 ?_)
  have g3 : ((s.heap.push { cls := .type "dict", data := .dict #[] }).update x fun o => { o with dict := some s.heap.objs.size }).get? s.heap.objs.size = some { cls := .type "dict", data := .dict #[] } :=
    (Heap.get?_update_other _ _ (Nat.ne_of_lt hlx)).trans g2
  refine wpAny_pure (a := some s.heap.objs.size) (wpAny_bind (wpAny_pure (wpAny_bind ?_)))
  unfold nsSet
  refine wpAny_bind (wpAny_bind (wpAny_askSetting (wpAny_pure (wpAny_bind (wpAny_mkText (wpAny_bind (wpAny_loadPart g3 ?_)))))))
  dsimp only
  rw [if_neg (show ¬ (aRefKeyMayBeTheName (Str.ofString "what") #[] = true) by rw [aRefKeyMayBeTheName_at]; simp)]
  refine wpAny_updatePart g3 ?_
  have ep := putName_dict (Str.ofString "what") (if (Str.ofString "what").cps.isEmpty = true then 0 else reduceHash ((model prog w).w.params.strHash (Str.ofString "what").cps)) (Value.str (Str.ofString "what") (s.toks + 1)) v [] 0
  have ud := fun hf => Heap.get?_update_self (Obj.putName (Str.ofString "what") (if (Str.ofString "what").cps.isEmpty = true then 0 else reduceHash ((model prog w).w.params.strHash (Str.ofString "what").cps)) (Value.str (Str.ofString "what") (s.toks + 1)) v) g3 hf
  have sb := Heap.SameBut.update ((s.heap.push { cls := .type "dict", data := .dict #[] }).update x fun o => { o with dict := some s.heap.objs.size }) s.heap.objs.size (Obj.putName (Str.ofString "what") (if (Str.ofString "what").cps.isEmpty = true then 0 else reduceHash ((model prog w).w.params.strHash (Str.ofString "what").cps)) (Value.str (Str.ofString "what") (s.toks + 1)) v)
  have ep' : Obj.putName (Str.ofString "what") (if (Str.ofString "what").cps.isEmpty = true then 0 else reduceHash ((model prog w).w.params.strHash (Str.ofString "what").cps)) (Value.str (Str.ofString "what") (s.toks + 1)) v { cls := .type "dict", data := .dict #[] } = _ := ep
  rw [ep'] at ud
  have ud := ud rfl
  have keep : ∀ y o, y ≠ x → s.heap.get? y = some o → _ := fun y o hy e => (sb.2 y (Nat.ne_of_lt (Heap.lt_size e))).trans ((Heap.get?_update_other _ _ (Ne.symm hy)).trans (Heap.get?_push_of_some { cls := .type "dict", data := .dict #[] } e))
  have gx := (sb.2 x (Nat.ne_of_lt hlx)).trans (Heap.get?_update_self (fun o : Obj => { o with dict := some s.heap.objs.size }) g1 rfl)
  refine wpAny_bind (wpAny_lookBehind ud (pastItsLine_dict (by simp [putL, sizeLine_eq])) ?_)
  obtain ⟨oL, es, ep, hL, r⟩ := F.ns
  refine wpAny_pure (h _ s.heap.objs.size ⟨⟨oL, es, ep, keep _ _ (fun z => nx.2.1 z.symm) hL, r⟩, fun y o e => keep y o (fun z => by rw [z] at e; have := nx.2.2; dsimp only at this; rw [e] at this; cases this) (F.keep _ _ e), F.above⟩ fun p hp => ?_)
  rcases List.mem_cons.mp hp with rfl | hp
  · exact ⟨gx, nx.2⟩
  · exact ⟨keep _ _ (ne p hp) (N p (.tail _ hp)).1, (N p (.tail _ hp)).2⟩
theorem w60 : True := by
  w_top off
  trivial
theorem callWith_wrapF {M : Model} {A : Around} {E : Value → Shared → Prop} {s : Shared} {pos : Pos} {u x : Addr} {first : List Value} {args : List (Bool × Sem Value)} {Q : Value → Shared → Prop} (hp : args.any (·.1) = false)
    (h : wpAny M A (evalArgs (.ref u) true args []) (fun a s₁ => s₁.heap.get? u = some (wrapObj x) ∧ wpAny M A (call (.ref u) (first ++ a.pos) a.kw) Q E s₁) E s) : wpAny M A (callWith pos (.ref u) first args []) Q E s := by
  unfold callWith
  refine wpAny_bind (wpAny_holding (wpAny_mono h (fun a s₁ h₁ => wpAny_bind (wpAny_standAt ?_)) fun _ _ x => x))
  obtain ⟨hc, h1⟩ := h₁
  simp only [hp, List.any_nil, Bool.or_false]
  refine wpAny_bind (m := keeperOf (.ref u)) ?_
  unfold keeperOf
  refine wpAny_bind (wpAny_load hc ?_)
  simp only [show (Value.type "method-wrapper" != Value.type "method") = true by decide, show (Value.type "method-wrapper" == Value.type "builtin_function_or_method" || Value.type "method-wrapper" == Value.type "method-wrapper") = true by decide, if_true]
  exact wpAny_pure (wpAny_bind (wpAny_mono h1 (fun r s₂ hr => wpAny_bind (wpAny_holding (wpAny_point (wpAny_pure hr)))) fun _ _ x => x))
theorem callWith_wrap {M : Model} {A : Around} {E : Value → Shared → Prop} {s : Shared} {pos : Pos} {u x : Addr} {first : List Value} {env : Env} {e : PySem.Expr} {rest : List PySem.Expr} {Q : Value → Shared → Prop}
    (h : wpAny M A (spliced (backTo pos (starEach (e :: rest) env))) (fun vs s₁ => s₁.heap.get? u = some (wrapObj x) ∧ wpAny M A (call (.ref u) (first ++ vs)) Q E s₁) E s)
    (he : starEach (e :: rest) env = (false, eval e env) :: starEach rest env := by rfl) (hplain : (backTo pos (starEach rest env)).any (·.1) = false := by rfl) :
    wpAny M A (callWith pos (.ref u) first (backTo pos (starEach (e :: rest) env)) []) Q E s := by
  rw [he] at h ⊢
  exact callWith_wrapF (by show (false || (backTo pos (starEach rest env)).any (·.1)) = false; rw [hplain]; rfl) (evalArgs_plain h)
theorem inst_fault {h₀ h : Heap} {L x t : Addr} {news : List (Addr × Obj)} (N : News h₀ L h news) (hm : (x, faultObj t none) ∈ news) : InstAt h x (faultObj t none) 60 none := ⟨(N _ hm).1, rfl, rfl, trivial⟩
theorem w60a : True := by
  k_with "my k_inst" => (exact inst_fault (by k_asm) (by k_mem))
  trivial
theorem fault_init {w : World} {mean : ExcName → Option Value} {mg mb : Str → Option Value}
    {A A₀ : Around} {env : Env} {outer : List Env} {base h₀ : Heap} {L : Addr} {m : Str → Option Value} {news : List (Addr × Obj)} {s : Shared}
    {R : Result → Shared → Prop} {x t : Addr} {msg : Str} {tok : Tok}
    (B : Below A₀ base outer h₀) (F : Fr h₀ L s.heap m) (X : (hd.heap_1 w.params).In h₀) (N : News h₀ L s.heap ((x, faultObj t none) :: news)) (ne : ∀ p ∈ news, p.1 ≠ x)
    (T : Top view LO mean mg mb h₀) (hA : A.frames = some (env :: outer)) (hf : env.frame = some L) (hk : env.scope.kind = .function) (hh : A.handled = none)
    (hd : A.depth < 900) (hu : A.units < 5000)
    (hq : ∀ h' tk' t' dx, Fr h₀ L h' m → News h₀ L h' ((x, faultObj t' (some dx)) :: (t', tupObj #[.str msg tok] 0) :: news) → (∀ p ∈ news, p.1 < t') → R (.ok (.ret .none)) { s with heap := h', toks := tk' }) :
    codeAny (model PySem.Challenge.rw_pq0002_01.row.prog w) A (.call (.ref 37) ⟨[.ref x, .str msg tok], []⟩) R s := by
  w_strict (k_dflt (refine' ks_code_super ?k1 ?k2 ?k3 ?k4 ?k5 ?kA ?kF ?kK ?k6 ?k7 ?k8 ?k9 ?kB ?_ ?c1 ?c2 ?c3 ?c4; (case kA => assumption); (case kF => assumption); (case kK => assumption); (case k1 => k_asm); (case k2 => k_asm); (case k3 => k_asm); (case k4 => k_asm); (case k5 => k_asm); (case k6 => k_is); (case k7 => k_is); (case k8 => (show _ < recursionLimit; simp only [recursionLimit]; omega)); (case k9 => exact BindsTo.of_eq rfl); (case kB => exact locs rfl); (case c1 => decide); (case c2 => exact rfl); (case c3 => exact rfl); (case c4 => exact rfl); intro g' L' h' FG' F' N' B' X' T' l1; (try k_lt l1); (try dsimp only)))
  k_extra "my steps"
  all_goals (try dsimp only at *)
  rename_i so' _ _ _ l1
  refine fault_meth_N (t := t) (by k_asm) (by k_asm) (by k_asm) (by k_mem) (by k_mem) hh (by simp only [depth_deeper]; omega) (by simp only [units_deeper]; omega) ?_
  intro q h2 tk2 F2 N2 ne2
  have hxs : x < so' := l1 _ (.head _)
  have hsn : ∀ p ∈ news, p.1 < so' := fun p hp => l1 p (.tail _ hp)
  refine callWith_wrap (x := x) ?_
  k_extra "my steps"
  all_goals (try dsimp only at *)
  · exact (N2 _ (.head _)).1
  refine fault_base_N (t := t) (news := (q, wrapObj x) :: (so', ks_superObj 47 x 60) :: news) F2 (by k_asm) (fun p hp => N2 p ?_) (fun p hp => ?_) (.head _) ?_
  · simp only [List.mem_cons] at hp ⊢
    rcases hp with h | h | h | h <;> simp [h]
  · simp only [List.mem_cons] at hp
    rcases hp with h | h | h
    · subst h; exact fun z => ne2 _ (.tail _ (.head _)) z.symm
    · subst h; exact Nat.ne_of_gt hxs
    · exact ne p h
  intro t2 h3 F3 N3 l3 l4
  k_extra "my steps"
  all_goals (try dsimp only at *)
  refine set_fault F3 (by k_asm) N3 (fun p hp => ?_) ?_
  · simp only [List.mem_cons] at hp
    rcases hp with h | h | h | h
    · subst h; exact Nat.ne_of_gt l4
    · subst h; exact fun z => ne2 _ (.tail _ (.head _)) z.symm
    · subst h; exact Nat.ne_of_gt hxs
    · exact ne p h
  intro h4 dx F4 N4
  have N5 : News _ _ h4 ((x, faultObj t2 (some dx)) :: (t2, tupObj #[Value.str msg tok] 0) :: news) := fun p hp => N4 p (by
    simp only [List.mem_cons] at hp ⊢
    rcases hp with h | h | h <;> simp [h])
  clear N4
  k_extra "my steps"
  all_goals (try dsimp only at *)
  exact hq _ _ _ _ (by assumption) (by assumption) fun p hp => l3 p (.tail _ (.tail _ hp))
theorem w61 : True := by
  w_top off
  trivial
theorem fault_check_new {M : Model} {A : Around} {E : Value → Shared → Prop} {w : World} {h : Heap} {g : Array GenState} {d : Drawn} {t : Nat} {os : OsState} {rest : List Value} {Q : Unit → Shared → Prop} (X : (hd.heap_1 w.params).In h)
    (hq : Q () ⟨h, g, d, t, os⟩) : wpAny M A (checkBuiltinCall "Exception.__new__" ⟨.ref 60 :: rest, []⟩) Q E ⟨h, g, d, t, os⟩ := by
  have FE := PySem.F.excBase_Exception
  obtain ⟨nm, qn, N, bs, hdct, sn, sub, ab, col, dd, k0, k1, k2, k3, k5, hC⟩ := fault_cls X
  have hcont : (Value.ref 60 :: faultMro).contains (.type "Exception") = true := by decide +kernel
  have hstar := FE.noStar
  simp only [checkBuiltinCall, FE.newKind, FE.newSplit, FE.newRow]
  repeat (first | refine wpAny_loadPart_at hC ?_ | (refine wpAny_isSubtype_exc hC ?_; rw [hcont]) | refine wpAny_staticBase_exc hC ?_ | refine wpAny_madeBy_exc hC ?_ | simp only [bne_self_eq_false, Bool.false_eq_true, if_false] | wp_step)
  exact hq
theorem fault_new {prog : Program} {A : Around} {R : Result → Shared → Prop} {w : World} {h : Heap} {g : Array GenState} {d : Drawn} {t : Nat} {os : OsState} {rest : List Value} (X : (hd.heap_1 w.params).In h)
    (hq : R (.ok (.ret (.ref (h.objs.size + 1)))) ⟨(h.push { cls := .type "tuple", data := .seq rest.toArray }).push
      { cls := .ref 60, data := .fields #[.ref h.objs.size, .none, .none, .none, .bool false, .none] }, g, d, t, os⟩) (hrest : rest.length ≤ sizeLine := by size_fits) :
    codeAny (model prog w) A (.builtin "Exception.__new__" ⟨.ref 60 :: rest, []⟩) R ⟨h, g, d, t, os⟩ := by
  have FE := PySem.F.excBase_Exception
  obtain ⟨nm, qn, N, bs, hdct, sn, sub, ab, col, dd, k0, k1, k2, k3, k5, hC⟩ := fault_cls X
  have hends := FE.ends
  have hcB : (Value.ref 60 :: faultMro).contains (.type "Exception") = true := by decide +kernel
  have hcA : (Value.ref 60 :: faultMro).contains (.type "AttributeError") = false := by decide +kernel
  have hcN : (Value.ref 60 :: faultMro).contains (.type "NameError") = false := by decide +kernel
  refine codeAny_builtinAt FE.entry ?_
  unfold Builtin.«BaseException.__new__»
  refine _root_.PySem.wpAt_bind ?_
  show _root_.PySem.wpAt _ _ _ (stack >>= _) _ _ _
  refine _root_.PySem.wpAt_bind (_root_.PySem.wpAt_stack fun p below => _root_.PySem.wpAt_of_wpAny ?_)
  wp_walk
  refine _root_.PySem.wpAt_of_wpAny ?_
  rw [FE.owner]
  repeat (first | with_reducible refine wpAny_madeHere_exc FE.canon hC ?_ | with_reducible refine wpAny_loadPart_at hC ?_ | (with_reducible refine wpAny_isSubtype_exc hC ?_; first | rw [hcB] | rw [hcA] | rw [hcN]) | wp_step)
  show R _ _
  rw [Heap.size_push]
  exact hq
theorem fault_make {w : World} {mean : ExcName → Option Value} {mg mb : Str → Option Value} {A A₀ : Around} {env : Env} {outer : List Env} {base h₀ : Heap} {L : Addr} {m : Str → Option Value} {news : List (Addr × Obj)} {s : Shared}
    {Q E : Value → Shared → Prop} {msg : Str} {tok : Tok}
    (B : Below A₀ base outer h₀) (F : Fr h₀ L s.heap m) (X₀ : (hd.heap_1 w.params).In h₀) (N : News h₀ L s.heap news)
    (T : Top view LO mean mg mb h₀) (hA : A.frames = some (env :: outer)) (hf : env.frame = some L) (hk : env.scope.kind = .function) (hh : A.handled = none)
    (hd : A.depth < 880) (hu : A.units < 4900)
    (hq : ∀ h' tk' x t' dx, Fr h₀ L h' m → News h₀ L h' ((x, faultObj t' (some dx)) :: (t', tupObj #[.str msg tok] 0) :: news) → (∀ p ∈ news, p.1 < x) → (∀ p ∈ news, p.1 < t') → Q (.ref x) { s with heap := h', toks := tk' }) :
    wpAny (model PySem.Challenge.rw_pq0002_01.row.prog w) A (call (.ref 60) [.str msg tok]) Q E s := by
  have FE := PySem.F.excBase_Exception
  obtain ⟨hp, g, d, tk, os⟩ := s
  have X := X₀.keeps F.keep
  obtain ⟨nm, qn, NN, bs, hdct, sn, sub, ab, col, dd, k0, k1, k2, k3, k5, hC⟩ := fault_cls X
  have f1 := tc_lookup
  have f2 := tc_bind (.ref 60)
  have hT : (⟨hp, g, d, tk, os⟩ : Shared).TypeIs (.ref 60) "type" := ⟨_, hC, rfl⟩
  refine wpAny_call (codeAny_of_tree ?_)
  show wpAny _ _ (callAny (.ref 60) _) _ _ _
  repeat (any_goals (first | assumption | with_reducible refine wpAny_loadPart_at hC ?_ | wp_step))
  refine ⟨rfl, ?_⟩
  refine codeAny_call_builtin_at (Code.quiet_builtin _ (by decide +kernel)) entry_typeCall (wpAny_check_type_call_sub hC ?_)
  repeat (first | with_reducible refine wpAny_loadPart_at hC ?_ | with_reducible refine wpAny_madeBy_exc hC ?_ | wp_step)
  refine codeAny_call_builtin_code (Code.quiet_builtin _ FE.quiet) (fault_check_new X ?_)
  refine fault_new X ?_ (by simp [sizeLine_eq])
  show wpAny _ _ _ _ _ _
  have N2 := (N.push F { cls := .type "tuple", data := .seq [Value.str msg tok].toArray }).push (F.push _) { cls := .ref 60, data := .fields #[.ref hp.objs.size, .none, .none, .none, .bool false, .none] }
  have F2 := (F.push { cls := .type "tuple", data := .seq [Value.str msg tok].toArray }).push { cls := .ref 60, data := .fields #[.ref hp.objs.size, .none, .none, .none, .bool false, .none] }
  rw [Heap.size_push] at N2
  have lt : ∀ p ∈ ((hp.objs.size, ({ cls := .type "tuple", data := .seq [Value.str msg tok].toArray } : Obj)) :: news), p.1 < hp.objs.size + 1 := fun p hp' => by
    rcases List.mem_cons.mp hp' with rfl | hp'
    · exact Nat.lt_succ_self _
    · exact Nat.lt_succ_of_lt (Heap.lt_size (N _ hp').1)
  show wpAny _ _ _ _ _ ⟨(hp.push { cls := .type "tuple", data := .seq [Value.str msg tok].toArray }).push { cls := .ref 60, data := .fields #[.ref hp.objs.size, .none, .none, .none, .bool false, .none] }, g, d, tk, os⟩
  generalize (hp.push { cls := .type "tuple", data := .seq [Value.str msg tok].toArray }).push { cls := .ref 60, data := .fields #[.ref hp.objs.size, .none, .none, .none, .bool false, .none] } = h2 at N2 F2 ⊢
  have X2 := X₀.keeps F2.keep
  have I : InstAt h2 (hp.objs.size + 1) (faultObj hp.objs.size none) 60 none := ⟨(N2 _ (.head _)).1, rfl, rfl, trivial⟩
  have isi : Looks (model PySem.Challenge.rw_pq0002_01.row.prog w) h2 (isInstance (.ref (hp.objs.size + 1)) (.ref 60)) true := I.type.andThen (looks_mroIn X2 (by kernel_rfl))
  refine wpAny_bind (isi.at ?_)
  show wpAny _ _ (if (!true) = true then _ else _) _ _ _
  rw [if_neg (by decide)]
  refine wpAny_bind (wpAny_holding (special_fn (s := ⟨h2, g, d, tk, os⟩) X2 I (by kernel_rfl) (f := 37) (by kernel_rfl) (wpAny_call ?_)))
  refine fault_init B F2 X₀ N2 (fun p hp' => Nat.ne_of_lt (lt p hp')) T ?_ hf hk ?_ ?_ ?_ fun h' tk' t' dx F' N' l5 => ?_
  · exact hA
  · exact hh
  · exact Nat.lt_of_le_of_lt (show _ ≤ A.depth + 9 from Nat.add_le_add_left (by first | decide | exact Nat.le_of_ble_eq_true rfl) _) (by omega)
  · exact Nat.lt_of_le_of_lt (show _ ≤ A.units + 90 from Nat.add_le_add_left (by first | decide | exact Nat.le_of_ble_eq_true rfl) _) (by omega)
  · show wpAny _ _ (if (Value.none != Value.none) = true then _ else _) _ _ _
    rw [if_neg (by decide)]
    have N3 : News h₀ L h' ((hp.objs.size + 1, faultObj t' (some dx)) :: (t', tupObj #[.str msg tok] 0) :: news) := fun p hp' => N' p (by
      simp only [List.mem_cons] at hp' ⊢
      rcases hp' with h | h | h <;> simp [h])
    exact wpAny_pure (hq _ _ _ _ _ F' N3 (fun p hp' => lt p (.tail _ hp')) fun p hp' => l5 p (.tail _ hp'))
theorem w62 : True := by
  w_top off
  trivial
def FaultUp (w : World) (E : Value → Shared → Prop) (v : Value) (s₁ : Shared) : Prop :=
  ∃ x t dx, v = .ref x ∧ (hd.heap_1 w.params).In s₁.heap ∧ s₁.heap.get? x = some (faultObj t (some dx)) ∧ E (.ref x) s₁
theorem raise_fault {w : World} {M : Model} {A : Around} {E : Value → Shared → Prop} {s : Shared} {env : Env} {e : PySem.Expr} {pos : Pos} {Q : Flow → Shared → Prop} (hh : A.handled = none)
    (h : wpAny M A (eval e env) (FaultUp w E) E s) : wpAny M A (exec (.Raise (some e) none pos) env) Q E s := by
  show wpAny M A (do standAt pos; raiseStmt env (some (do let v ← eval e env; standAt pos; pure v)) none) Q E s
  refine wpAny_bind (wpAny_standAt ?_)
  unfold raiseStmt
  dsimp only
  refine wpAny_bind (wpAny_bind (wpAny_mono h (fun v s₁ h₁ => wpAny_bind (wpAny_standAt (wpAny_pure ?_))) fun _ _ x => x))
  obtain ⟨x, t, dx, rfl, X, hx, hE⟩ := h₁
  obtain ⟨nm, qn, N, bs, hdct, sn, sub, ab, col, dd, k0, k1, k2, k3, k5, hC⟩ := fault_cls X
  have hcB : (Value.ref 60 :: faultMro).contains (.type "BaseException") = true := by decide +kernel
  obtain ⟨hp, g, d, tk, os⟩ := s₁
  repeat (first | with_reducible refine wpAny_loadPart_at hx ?_ | with_reducible refine wpAny_loadPart_at hC ?_ | (with_reducible refine wpAny_isSubtype_exc hC ?_; rw [hcB]) | wp_step)
  exact wpAny_raiseNew_none hh hE
theorem mem_fr {env : Env} {outer : List Env} {L b : Addr} (hf : env.frame = some L) (hm : b ∈ (env :: outer).filterMap (·.frame)) : b = L ∨ b ∈ outer.filterMap (·.frame) := by
  obtain ⟨e, he, hf'⟩ := List.mem_filterMap.mp hm
  rcases List.mem_cons.mp he with rfl | he
  · exact .inl (Option.some.inj (hf.symm.trans hf')).symm
  · exact .inr (List.mem_filterMap.mpr ⟨e, he, hf'⟩)
theorem leave_fault {M : Model} {A : Around} {E : Value → Shared → Prop} {s' : Shared} {base g : Heap} {outer : List Env} {L x t dx : Addr} {m : Str → Option Value} {env : Env} {Q : Unit → Shared → Prop} {news : List (Addr × Obj)} {vs : List Value} {n : Nat}
    (K : Below A base outer g) (F : Fr g L s'.heap m) (N : News g L s'.heap ((x, faultObj t (some dx)) :: (t, tupObj vs.toArray n) :: news)) (nx : ∀ p ∈ news, p.1 ≠ x) (nt : ∀ p ∈ news, p.1 ≠ t) (hf : env.frame = some L)
    (hQ : ∀ h', RaisedS base g outer x (.ref 60) t vs news h' → g.UpToSlots h' → Q () { s' with heap := h' }) (hk : env.scope.kind = .function := by rfl) :
    wpAny M (A.deeper env) (leaving env (.ref x)) Q E s' := by
  have K' := pushX (env := env) K F hf hk
  have hin : ∀ e ∈ (env :: outer), ∀ b, e.frame = some b → b ∈ x :: t :: (env :: outer).filterMap (·.frame) := fun e he b hb => .tail _ (.tail _ (List.mem_filterMap.mpr ⟨e, he, hb⟩))
  have hx := N _ (.head _)
  have ht := N _ (.tail _ (.head _))
  have gn : ∀ b o, g.get? b = some o → b ≠ x ∧ b ≠ t := fun b o q => ⟨(fun z => by rw [z, hx.2.2] at q; cases q), (fun z => by rw [z, ht.2.2] at q; cases q)⟩
  have st : base.StaysIn (hideAll s'.heap (x :: t :: (env :: outer).filterMap (·.frame))) := fun b o q => hideAll_get _ (K'.stays b o q) fun hm => by
    have z := gn b o (K.stays b o q)
    rcases List.mem_cons.mp hm with h | hm
    · exact z.1 h
    rcases List.mem_cons.mp hm with h | hm
    · exact z.2 h
    rw [(K'.frames.mem hm).1] at q; cases q
  have sg : ∀ b o, g.get? b = some o → b ∉ outer.filterMap (·.frame) → (hideAll s'.heap (x :: t :: (env :: outer).filterMap (·.frame))).get? b = some o := fun b o q nm => hideAll_get _ (F.keep b o q) fun hm => by
    have z := gn b o q
    rcases List.mem_cons.mp hm with h | hm
    · exact z.1 h
    rcases List.mem_cons.mp hm with h | hm
    · exact z.2 h
    rcases mem_fr hf hm with z | z
    · rw [z, kts_self F] at q; cases q
    · exact nm z
  have hl : ∀ q ∈ news, (hideAll s'.heap (x :: t :: (env :: outer).filterMap (·.frame))).get? q.1 = some q.2 ∧ g.get? q.1 = none ∧ base.get? q.1 = none := fun q hq => by
    have hn := N q (.tail _ (.tail _ hq))
    refine ⟨hideAll_get _ hn.1 fun hm => ?_, hn.2.2, fresh_of_stays K.stays hn.2.2⟩
    rcases List.mem_cons.mp hm with h | hm
    · exact nx q hq h
    rcases List.mem_cons.mp hm with h | hm
    · exact nt q hq h
    rcases mem_fr hf hm with z | hm
    · exact hn.2.1 z
    · obtain ⟨o, ho, _⟩ := (K.frames.mem hm).2
      rw [hn.2.2] at ho; cases ho
  refine wpAny_leaving_firstW (a0 := .ref t) K'.stack (funFrames_hide K'.frames hin) hf hx.1 (fun b o q => of_hideAll _ q) (hideAll_none _ (.head _)) rfl rfl rfl fun h' hL => ?_
  obtain ⟨k1, ⟨_, _, k2⟩, k3, k4⟩ := hL
  exact hQ h' ⟨⟨_, st, sg, hl, ⟨k1, hideAll_none _ (.head _), k2, k3⟩, hideAll_none _ (.tail _ (.head _))⟩, Heap.TupAt.of_slots ⟨_, _, ht.1, rfl, rfl⟩ k4⟩ ((Heap.UpToSlots.of_keeps F.keep).trans k4)
def Up (base h₀ : Heap) (L : Addr) (m : Str → Option Value) (l : List Env) (news : List (Addr × Obj)) (e : Value) (h' : Heap) : Prop :=
  ∃ x t vs g, e = .ref x ∧ Fr h₀ L g m ∧ RaisedS base g l x (.ref 60) t vs news h' ∧ g.UpToSlots h'
theorem raisedS_sub {base G : Heap} {l : List Env} {e t : Addr} {cls : Value} {vs : List Value} {news news' : List (Addr × Obj)} {h : Heap} (R : RaisedS base G l e cls t vs news h) (hs : ∀ p ∈ news', p ∈ news) : RaisedS base G l e cls t vs news' h := by
  obtain ⟨⟨B, hB, hBG, hl, hfl, hnew⟩, htup⟩ := R
  exact ⟨⟨B, hB, hBG, fun q hq => hl q (hs q hq), hfl, hnew⟩, htup⟩
theorem w62a : True := by
  k_with "exec Raise some none" => ((k_here; (with_reducible show wpAny _ _ (exec (Stmt.Raise (some (Expr.Call (Expr.Name _ _) (_ :: _) [] _)) none _) _) _ _ _); k_dflt (refine raise_fault (w := ‹World›) rfl ?_)))
  trivial
section
variable {M : Model} {A : Around} {E : Value → Shared → Prop} {s' : Shared} {base g h₀ : Heap} {outer : List Env} {L : Addr} {m : Str → Option Value} {env : Env} {Q : Unit → Shared → Prop} {news : List (Addr × Obj)} {er : Value}
theorem leave_up (K : Below A base outer g) (hf : env.frame = some L) (U : Up base g L m (env :: outer) news er s'.heap)
    (hQ : ∀ h' x t vs, er = .ref x → RaisedS base g outer x (.ref 60) t vs news h' → g.UpToSlots h' → Q () { s' with heap := h' }) : wpAny M (A.deeper env) (leaving env er) Q E s' := by
  obtain ⟨x, t, vs, g₂, rfl, F, ⟨⟨B, hB, hBG, hl, hfl, hnew⟩, htup⟩, hsm⟩ := U
  exact wpAny_leaves_onW (Around.frames_deeper K.stack) hf hfl fun h' x1 x2 =>
    hQ h' x t vs rfl ⟨⟨B, hB, fun b o q nm => hBG b o (F.keep b o q) (fun hm => by
      rcases mem_fr hf hm with z | z
      · rw [z, kts_self F] at q
        cases q
      · exact nm z), fun q hq => ⟨(hl q hq).1, kts_none F.keep (hl q hq).2.1, (hl q hq).2.2⟩, x1, hnew⟩, htup.of_slots x2⟩ ((Heap.UpToSlots.of_keeps F.keep).trans (hsm.trans x2))
def FlyF (base : Heap) (l : List Env) (e : Addr) (cls a0 fl : Value) (h : Heap) : Prop := base.StaysIn h ∧ base.get? e = none ∧ h.FunFrames base l ∧ h.TracedAtW base e cls a0 fl
def RaisedF (base G : Heap) (l : List Env) (e t : Addr) (vs : List Value) (news : List (Addr × Obj)) (h : Heap) : Prop :=
  (∃ B fl, base.StaysIn B ∧ (∀ b o, G.get? b = some o → b ∉ l.filterMap (·.frame) → B.get? b = some o) ∧ (∀ q ∈ news, B.get? q.1 = some q.2 ∧ G.get? q.1 = none ∧ base.get? q.1 = none) ∧ FlyF B l e (.ref 60) (.ref t) fl h ∧ B.get? t = none) ∧ h.TupAt t vs
def UpF (base h₀ : Heap) (L : Addr) (m : Str → Option Value) (l : List Env) (news : List (Addr × Obj)) (e : Value) (h' : Heap) : Prop :=
  ∃ x t vs g, e = .ref x ∧ Fr h₀ L g m ∧ RaisedF base g l x t vs news h' ∧ g.UpToSlots h'
theorem leaving_any {s : Shared} {e : Addr} {cls a0 fl : Value} (hfr : A.frames = some (env :: outer)) (hf : env.frame = some L) (hfl : FlyF base (env :: outer) e cls a0 fl s.heap)
    (h : ∀ h', Heap.LeftW base (env :: outer) e cls a0 s.heap h' → Q () { s with heap := h' }) : wpAny M A (leaving env (.ref e)) Q E s := by
  obtain ⟨hkb, hen, hl, ht⟩ := hfl
  by_cases hq : fl = rawInt L
  · subst hq
    unfold leaving
    refine wpAny_bind (wpAny_noteFrame_againW hf ht ?_)
    refine wpAny_setFlight_noneW hkb hl ht fun h' k1 k2 k3 k4 => h h' ⟨k1, k2, k3, fun b o hb hn => ⟨o.slots, k4 b o hb hn⟩⟩
  obtain ⟨oe, vs, T, oT, ts, he, ⟨hcls, h0⟩, hd, h1, hnT, hTe, hT, hdT, h3⟩ := ht
  subst hcls
  unfold leaving noteFrame
  simp only [hf]
  refine wpAny_bind (wpAny_bind (wpAny_field he hd h1 ?_))
  rw [if_pos (show (Value.ref T != Value.none) = true from by simp)]
  refine wpAny_bind (wpAny_field hT hdT h3 ?_)
  rw [if_neg (show ¬ ((fl == rawInt L) = true) from by simpa using hq)]
  refine wpAny_bind (wpAny_setField hT hdT (Array.getElem?_eq_some_iff.mp h3).1 ?_)
  have other : ∀ b, b ≠ T → (s.heap.update T (Obj.mapFields (·.setIfInBounds 3 Value.none))).get? b = s.heap.get? b := fun b hb => Heap.get?_update_other _ _ (Ne.symm hb)
  have noRecord : ∀ b o, s.heap.get? b = some o → (∀ vs, o.data ≠ .fields vs) → b ≠ T := fun b o hb hnf q => by
    rw [q, hT] at hb; injection hb with hb; subst hb; exact hnf ts hdT
  refine wpAny_newEntryW hfr (hl.of_keeps fun b o hb hnf => ⟨o, (other b (noRecord b o hb hnf)).trans hb, rfl⟩) hf ((other e (Ne.symm hTe)).trans he)
    (fun b o hbo => (other b fun q => by rw [q, hnT] at hbo; cases hbo).trans (hkb b o hbo)) hen hd (Array.getElem?_eq_some_iff.mp h1).1 h0
    fun h' ⟨x1, x2, x3, x4⟩ => h h' ⟨x1, x2, x3, fun b o hb hnf => x4 b o ((other b (noRecord b o hb hnf)).trans hb) hnf⟩
theorem leave_upF (K : Below A base outer g) (hf : env.frame = some L) (U : UpF base g L m (env :: outer) news er s'.heap)
    (hQ : ∀ h' x t vs, er = .ref x → RaisedS base g outer x (.ref 60) t vs news h' → g.UpToSlots h' → Q () { s' with heap := h' }) : wpAny M (A.deeper env) (leaving env er) Q E s' := by
  obtain ⟨x, t, vs, g₂, rfl, F, ⟨⟨B, fl, hB, hBG, hl, hfl, hnew⟩, htup⟩, hsm⟩ := U
  have hen := hfl.2.1
  exact leaving_any (Around.frames_deeper K.stack) hf hfl fun h' ⟨y1, ⟨_, _, y2⟩, y3, x2⟩ =>
    hQ h' x t vs rfl ⟨⟨B, hB, fun b o q nm => hBG b o (F.keep b o q) (fun hm => by
      rcases mem_fr hf hm with z | z
      · rw [z, kts_self F] at q
        cases q
      · exact nm z), fun q hq => ⟨(hl q hq).1, kts_none F.keep (hl q hq).2.1, (hl q hq).2.2⟩, ⟨y1, hen, y2, y3⟩, hnew⟩, htup.of_slots x2⟩ ((Heap.UpToSlots.of_keeps F.keep).trans (hsm.trans x2))
end
theorem comp_err {M : Model} {A : Around} {E : Value → Shared → Prop} {s₁ : Shared} {base h₀ : Heap} {outer : List Env} {L I C D : Addr} {oI oC oD : Obj} {m m' : Str → Option Value} {env : Env} {Q : Value → Shared → Prop} {news : List (Addr × Obj)} {er acc : Value}
    {scope : Scope} {cl : List (Str × Addr)} {use : Option (Value → Sem Unit)} {A₀ : Around} {K : List (Addr × Obj)} (B₀ : Below A₀ base outer h₀) (hfr : A.frames = some (env :: outer)) (hf : env.frame = some L)
    (hC : LCg.NsObj oC m') (U : Up base h₀ L m (env :: outer) ((I, oI) :: (C, oC) :: (D, oD) :: news) er s₁.heap) (hCL : C ≠ L) (hC₀ : h₀.get? C = none) (hK : ∀ p ∈ K, p ∈ news) (hKC : ∀ p ∈ K, p.1 ≠ C)
    (hE : ∀ h', UpF base h₀ L m (env :: outer) K er h' → E er { s₁ with heap := h' }) :
    notedBy M A (compEnvC scope cl C env) (fun e s'' => compPost M A E use Q acc C (.error e) s'') er s₁ := by
  obtain ⟨x, t, vs, g, rfl, F, ⟨⟨B, hB, hBG, hl, hfl, hnew⟩, htup⟩, hsm⟩ := U
  have hnote : noteFrame (.ref x) (compEnvC scope cl C env) = noteFrame (.ref x) env := by unfold noteFrame PySem.frameOf; rfl
  unfold notedBy
  rw [hnote]
  refine wpAny_looks_onW hfr hf hfl fun h₂ hheld hsm₂ => ?_
  have qC := hl (C, oC) (.tail _ (.head _))
  have hC2 := hheld.1 _ _ qC.1
  obtain ⟨f1, f2, f3, f4⟩ := hheld
  have hns : h₂.Ns C m' := hC.ns hC2
  have hdict : ∃ es n, oC.data = .dict es n := by
    obtain ⟨o, es, n, ho, hd, _⟩ := hns
    rw [hC2] at ho; cases ho
    exact ⟨es, n, hd⟩
  obtain ⟨es, n, hdict⟩ := hdict
  have outf : C ∉ (env :: outer).filterMap (·.frame) := fun hm => by
    rcases mem_fr hf hm with z | z
    · exact hCL z
    · obtain ⟨_, o, ho, _⟩ := B₀.frames.mem z
      rw [hC₀] at ho; cases ho
  have notC : ∀ b o, h₂.get? b = some o → (∀ es n, o.data ≠ .dict es n) → b ≠ C := fun b o hb hn q => by
    rw [q, hC2] at hb; cases hb; exact hn _ _ hdict
  have ff3 : ∀ l : List Env, C ∉ l.filterMap (·.frame) → ∀ h₃, Heap.SameBut C h₂ h₃ → h₂.FunFrames B l → h₃.FunFrames (hideAll B [C]) l := fun l => by
    induction l with
    | nil => intro _ _ _ _; trivial
    | cons e r ih =>
      intro hm h₃ hs ⟨hk, ⟨L', o, hf', hn, ho, hd⟩, hr⟩
      have hL' : L' ≠ C := fun q => hm (by rw [List.filterMap_cons, hf', q]; exact .head _)
      refine ⟨hk, ⟨L', o, hf', ?_, (hs.2 _ hL').trans ho, hd⟩, ih (fun q => hm (by rw [List.filterMap_cons, hf']; exact .tail _ q)) h₃ hs hr⟩
      cases q : (hideAll B [C]).get? L' with
      | none => rfl
      | some o' => have := of_hideAll _ q; rw [hn] at this; cases this
  have hideN : ∀ b, B.get? b = none → (hideAll B [C]).get? b = none := fun b hb => by
    cases q : (hideAll B [C]).get? b with
    | none => rfl
    | some o' => have := of_hideAll _ q; rw [hb] at this; cases this
  refine ⟨m', hns, fun h₃ hs₃ cenv hcl => ?_⟩
  obtain ⟨oe, ws, T, oT, ts, he, ⟨hcls, h0⟩, hd, h1, hnT, hTe, hT, hdT, h3⟩ := f4
  have xC : x ≠ C := notC _ _ he (fun es n q => by rw [hd] at q; cases q)
  have TC : T ≠ C := notC _ _ hT (fun es n q => by rw [hdT] at q; cases q)
  have he3 := (hs₃.2 _ xC).trans he
  have hT3 := (hs₃.2 _ TC).trans hT
  have hsz3 : 3 < ts.size := (Array.getElem?_eq_some_iff.mp h3).1
  unfold PySem.passOn
  refine wpAny_bind (wpAny_field he3 hd h1 ?_)
  rw [if_neg (show ¬ ((Value.ref T == Value.none) = true) from by simp)]
  unfold setFlight
  refine wpAny_bind (wpAny_bind (wpAny_field he3 hd h1 ?_))
  rw [if_pos (show (Value.ref T != Value.none) = true from by simp)]
  refine wpAny_setField hT3 hdT hsz3 (wpAny_throw ?_)
  have other : ∀ b, b ≠ T → (h₃.update T (Obj.mapFields (·.setIfInBounds 3 (cenv.frame.elim Value.none fun f => rawInt f)))).get? b = h₃.get? b :=
    fun b hb => Heap.get?_update_other _ _ (Ne.symm hb)
  have hsz : C < h₂.objs.size := Heap.lt_size hC2
  refine hE _ ⟨x, t, vs, g, rfl, F, ⟨⟨hideAll B [C], cenv.frame.elim Value.none (fun f => rawInt f), ?_, ?_, ?_, ⟨?_, hideN _ f2, ?_, ?_⟩, hideN _ hnew⟩, ?_⟩, ?_⟩
  · exact fun b o q => hideAll_get _ (hB b o q) fun hm => by
      rw [List.mem_singleton.mp hm, qC.2.2] at q; cases q
  · exact fun b o q nm => hideAll_get _ (hBG b o q nm) fun hm => by
      rw [List.mem_singleton.mp hm, qC.2.1] at q; cases q
  · exact fun q hq => ⟨hideAll_get _ (hl q (.tail _ (.tail _ (.tail _ (hK q hq))))).1 (fun hm => hKC q hq (List.mem_singleton.mp hm)), (hl q (.tail _ (.tail _ (.tail _ (hK q hq))))).2⟩
  · refine fun b o q => (other b fun z => ?_).trans ((hs₃.2 b fun z => ?_).trans (f1 b o (of_hideAll _ q)))
    · rw [z, hideN _ hnT] at q; cases q
    · have := hideAll_none (h := B) [C] (b := b) (by rw [z]; exact .head _)
      rw [this] at q; cases q
  · refine (ff3 _ outf h₃ hs₃ f3).of_keeps fun b o hb hnf => ⟨o, (other b fun z => ?_).trans hb, rfl⟩
    rw [z, hT3] at hb; cases hb; exact hnf _ hdT
  · exact ⟨oe, ws, T, _, _, (other x (Ne.symm hTe)).trans he3, ⟨hcls, h0⟩, hd, h1, hideN _ hnT, hTe, Heap.get?_update_self _ hT3 (Obj.isFreed_of_fields (Obj.data_mapFields hdT _)), Obj.data_mapFields hdT _, by simp [hsz3]⟩
  · obtain ⟨o, n', ho, hc, hd'⟩ := (htup.of_slots hsm₂)
    refine ⟨o, n', (other t fun z => ?_).trans ((hs₃.2 t (notC _ _ ho fun es n q => by rw [hd'] at q; cases q)).trans ho), hc, hd'⟩
    rw [z, hT] at ho; cases ho; rw [hdT] at hd'; cases hd'
  · intro b o q hnf
    obtain ⟨sl, hb⟩ := (hsm.trans hsm₂) b o q hnf
    refine ⟨sl, (other b fun z => ?_).trans ((hs₃.2 b fun z => ?_).trans hb)⟩
    · rw [z, hT] at hb; cases hb; exact hnf _ hdT
    · rw [z, qC.2.1] at q; cases q
theorem w64 : True := by
  w_top off
  trivial
def RaiseTo (P : Prop) (base h₀ : Heap) (L : Addr) (m : Str → Option Value) (l : List Env) (news : List (Addr × Obj)) (s : Shared) (E : Value → Shared → Prop) : Prop := P → ∀ er h' tk', Up base h₀ L m l news er h' → E er { s with heap := h', toks := tk' }
theorem raise_end {P : Prop} {base h₀ g h9 : Heap} {L x t : Addr} {m : Str → Option Value} {l : List Env} {news news' : List (Addr × Obj)} {s : Shared} {E : Value → Shared → Prop} {vs : List Value} {tk : Nat} (H : RaiseTo P base h₀ L m l news s E) (p : P) (FG : Fr h₀ L g m) (R : RaisedS base g l x (.ref 60) t vs news' h9) (U : g.UpToSlots h9) (hs : ∀ p ∈ news, p ∈ news') :
    E (.ref x) { s with heap := h9, toks := tk } := H p _ _ _ ⟨x, t, vs, g, rfl, FG, raisedS_sub R hs, U⟩
section
variable {M : Model} {A : Around} {E : Value → Shared → Prop} {s : Shared}
def StrPart (n : Nat) (K : Str → Shared → Prop) (v : Value) (s₁ : Shared) : Prop := ∃ y t, v = .str y t ∧ y.length ≤ 30 ∧ ∀ out : Str, out.length ≤ n + 30 → K out s₁
theorem StrPart.intro {n : Nat} {K : Str → Shared → Prop} {y : Str} {t : Tok} {s₁ : Shared} (hy : y.length ≤ 30) (h : ∀ out : Str, out.length ≤ n + 30 → K out s₁) : StrPart n K (.str y t) s₁ := ⟨y, t, rfl, hy, h⟩
theorem joinParts_gen {out : Str} {n : Nat} {x : Sem Value} {rest : List (Sem Value)} {Q : Value → Shared → Prop} (ho : out.length ≤ n) (hn : n ≤ 900)
    (h : wpAny M A x (StrPart n fun o s₁ => wpAny M A (joinParts o rest) Q E s₁) E s) : wpAny M A (joinParts out (x :: rest)) Q E s :=
  joinParts_cons (wpAny_mono h (fun v s₁ h₁ => by
    obtain ⟨y, t, rfl, hy, h₁⟩ := h₁
    have hl : (out ++ y).length ≤ n + 30 := by rw [strLen_append]; omega
    exact ⟨Nat.le_trans hl (by rw [sizeLine_eq]; omega), h₁ _ hl⟩) fun _ _ e => e)
theorem joinParts_last {out : Str} {n : Nat} {Q : Value → Shared → Prop} (ho : out.length ≤ n) (hn : n ≤ 900) (h : ∀ o : Str, o.length ≤ n → Q (.str o s.toks) { s with toks := s.toks + 1 }) : wpAny M A (joinParts out []) Q E s := joinParts_nil (h _ ho) (Nat.le_trans ho (by rw [sizeLine_eq]; omega))
theorem int_text30 {a : Int} (h : a.natAbs < 10000000) : (Str.ofString (toString a)).length ≤ 30 := by
  rw [PySem.ofString_length]
  have := int_text_length_le10 (k := 7) (by decide) (by simpa using h)
  omega
end
theorem w64a : True := by
  k_with "my fault" => (((with_reducible show wpAny _ _ (call (Value.ref 60) [Value.str _ _]) _ _ _); refine' fault_make ?kBCJ ?kFCJ ?kXCJ ?kNCJ ?kTCJ ?kACJ ?kfCJ ?kkCJ ?khCJ ?kdCJ ?kuCJ ?_; (case kACJ => exact rfl); (case kBCJ => k_asm); (case kFCJ => k_asm); (case kXCJ => k_asm); (case kNCJ => k_asm); (case kTCJ => k_asm); (case kfCJ => exact rfl); (case kkCJ => exact rfl); (case khCJ => exact rfl); (case kdCJ => ktr_room); (case kuCJ => ktr_units); intro hv tkv xv tv dv Fv Nv lv lt; refine ⟨xv, tv, dv, rfl, Frag.In.keeps (by k_asm) (Fr.keep (by assumption)), (Nv _ (.head _)).1, ?_⟩; show wpAny _ _ (leaving _ _) _ _ _; refine leave_fault (by assumption) Fv Nv (fun p hp => Nat.ne_of_lt (lv p hp)) (fun p hp => Nat.ne_of_lt (lt p hp)) rfl (fun h9 R9 U9 => ?_); exact raise_end (by assumption) (by k_extra "my none") (by assumption) R9 U9 (by k_extra "my sub")))
  k_with "joinParts" => ((k_here; first
      | ((with_reducible refine joinParts_consE ?_); (with_reducible refine' joinParts_gen ?hoCK ?hnCK ?_); (case hoCK => first | assumption | exact (show Str.empty.length ≤ 0 from by decide +kernel)); (case hnCK => exact Nat.le_of_ble_eq_true rfl))
      | ((with_reducible show wpAny _ _ (joinParts _ (_ :: _)) _ _ _); (with_reducible refine' joinParts_gen ?hoCK ?hnCK ?_); (case hoCK => first | assumption | exact (show Str.empty.length ≤ 0 from by decide +kernel)); (case hnCK => exact Nat.le_of_ble_eq_true rfl))
      | ((try with_reducible refine joinParts_nilE ?_); (with_reducible refine' joinParts_last ?hoCK ?hnCK ?_); (case hoCK => assumption); (case hnCK => exact Nat.le_of_ble_eq_true rfl); intro msg' hmsg')))
  k_with "StrPart" => ((k_here; (with_unfolding_all refine StrPart.intro ?hyCL ?_); (case hyCL => first | omega | decide +kernel | exact int_text30 (by omega)); intro out' hout'))
  k_with "formatField str" => ((k_here; (with_reducible show wpAny _ _ (formatField (Value.str _ _) Str.empty) _ _ _); (refine formatField_str ?_ (by rw [sizeLine_eq]; omega)); intro _ _))
  trivial
abbrev envKV (e : Ev) (t1 t2 t3 t4 t5 t6 : Tok) : List (Value × Value) := [(Value.str (Str.ofString "x") t1, Value.int e.x t2), (Value.str (Str.ofString "y") t3, Value.int e.y t4), (Value.str (Str.ofString "succ") t5, Value.int e.s t6)]
theorem w64b : True := by
  k_with "my none" => (exact True.intro)
  trivial
section
variable {w : World} {mean : ExcName → Option Value} {mg mb : Str → Option Value}
    {dp un : Nat} {gd : Option (List Code)} {cn : Str} {cs : Scope} {a : Addr} {ccd : Value} {cl : List (Str × Addr)} {outer : List Env} {A₀ : Around} {base h₀ : Heap} {L : Addr} {m : Str → Option Value} {news : List (Addr × Obj)} {s : Shared}
    {Q E : Value → Shared → Prop} {ta : Addr} {nm : Str} {tt : Tok} {te : Nat} {de : Addr} {oe : Obj} {e : Ev} {t1 t2 t3 t4 t5 t6 : Tok} {v u : Value}
theorem named_bad1
    (B : Below A₀ base outer h₀) (F : Fr h₀ L s.heap m) (X : (hd.heap_1 w.params).In h₀) (N : News h₀ L s.heap news)
    (T : Top view LO mean mg mb h₀) (hk : cs.kind = .function)
    (hta : (ta, tupObj #[.str nm tt] te) ∈ news) (hde : (de, oe) ∈ news) (hds : (de == sysModules) = false)
    (hdd : Obj.IsDictOf (PySem.strKind PySem.Challenge.rw_pq0002_01.row.prog w) oe (strPairs (envKV e t1 t2 t3 t4 t5 t6)))
    (hdf : PyProof.V.FlatPairs PyData.str (strPairs (envKV e t1 t2 t3 t4 t5 t6)) (strData (envKV e t1 t2 t3 t4 t5 t6)))
    (hnl : nm.length ≤ 10) (hno : (Spec.lookup (PyData.str nm) (strData (envKV e t1 t2 t3 t4 t5 t6))).isSome = false) (hd : dp < 800) (hu : un < 4000)
    (hE : RaiseTo True base h₀ L m (envX cn cs L a ccd cl :: outer) news s E) :
    wpAny (model PySem.Challenge.rw_pq0002_01.row.prog w) (ktrTop dp un gd cn cs L a ccd cl outer) (call (.ref 131) [.ref ta, .ref de]) Q E s := by
  replace N := newsCons (newsCons N hde) (List.mem_cons_of_mem _ hta)
  refine ret_of (α := Unit) ?_
  refine wpAny_call ?_
  w_strict (k_dflt (k_extra "my enter"))
  k_extra "my steps"
  all_goals (try dsimp only at *)
  all_goals k_extra "my fault"
theorem named_bad2
    (B : Below A₀ base outer h₀) (F : Fr h₀ L s.heap m) (X : (hd.heap_1 w.params).In h₀) (N : News h₀ L s.heap news)
    (T : Top view LO mean mg mb h₀) (hk : cs.kind = .function)
    (hta : (ta, tupObj #[.str nm tt, v] te) ∈ news)
    (hnl : nm.length ≤ 10) (hd : dp < 800) (hu : un < 4000)
    (hE : RaiseTo True base h₀ L m (envX cn cs L a ccd cl :: outer) news s E) :
    wpAny (model PySem.Challenge.rw_pq0002_01.row.prog w) (ktrTop dp un gd cn cs L a ccd cl outer) (call (.ref 131) [.ref ta, .ref de]) Q E s := by
  replace N := newsCons N hta
  refine ret_of (α := Unit) ?_
  refine wpAny_call ?_
  w_strict (k_dflt (k_extra "my enter"))
  k_extra "my steps"
  all_goals (try dsimp only at *)
  all_goals k_extra "my fault"
theorem named_bad3
    (B : Below A₀ base outer h₀) (F : Fr h₀ L s.heap m) (X : (hd.heap_1 w.params).In h₀) (N : News h₀ L s.heap news)
    (T : Top view LO mean mg mb h₀) (hk : cs.kind = .function)
    (hta : (ta, tupObj #[.str nm tt, v, u] te) ∈ news)
    (hnl : nm.length ≤ 10) (hd : dp < 800) (hu : un < 4000)
    (hE : RaiseTo True base h₀ L m (envX cn cs L a ccd cl :: outer) news s E) :
    wpAny (model PySem.Challenge.rw_pq0002_01.row.prog w) (ktrTop dp un gd cn cs L a ccd cl outer) (call (.ref 131) [.ref ta, .ref de]) Q E s := by
  replace N := newsCons N hta
  refine ret_of (α := Unit) ?_
  refine wpAny_call ?_
  w_strict (k_dflt (k_extra "my enter"))
  k_extra "my steps"
  all_goals (try dsimp only at *)
  all_goals k_extra "my fault"
theorem env_yes {x : Nm} (hx : x ≠ .zero) : (Spec.lookup (PyData.str x.str) (strData (envKV e t1 t2 t3 t4 t5 t6))).isSome = true := by
  cases x
  · exact absurd rfl hx
  · rfl
  · rfl
  · rfl
theorem named_good {n : Nm} (hx : n ≠ .zero)
    (B : Below A₀ base outer h₀) (F : Fr h₀ L s.heap m) (X : (hd.heap_1 w.params).In h₀) (N : News h₀ L s.heap news)
    (T : Top view LO mean mg mb h₀) (hk : cs.kind = .function)
    (hta : (ta, tupObj #[.str n.str tt] te) ∈ news) (hde : (de, oe) ∈ news) (hds : (de == sysModules) = false)
    (hdd : Obj.IsDictOf (PySem.strKind PySem.Challenge.rw_pq0002_01.row.prog w) oe (strPairs (envKV e t1 t2 t3 t4 t5 t6)))
    (hdf : PyProof.V.FlatPairs PyData.str (strPairs (envKV e t1 t2 t3 t4 t5 t6)) (strData (envKV e t1 t2 t3 t4 t5 t6)))
    (hd : dp < 800) (hu : un < 4000)
    (ret : ∀ t1' h' tk', Fr h₀ L h' m → News h₀ L h' news → Q (.int (n.val e : Nat) t1') { s with heap := h', toks := tk' }) :
    wpAny (model PySem.Challenge.rw_pq0002_01.row.prog w) (ktrTop dp un gd cn cs L a ccd cl outer) (call (.ref 131) [.ref ta, .ref de]) Q E s := by
  replace N := newsCons (newsCons N hde) (List.mem_cons_of_mem _ hta)
  have hyes0 := env_yes (e := e) (t1 := t1) (t2 := t2) (t3 := t3) (t4 := t4) (t5 := t5) (t6 := t6) hx
  cases n
  · exact absurd rfl hx
  all_goals (
    simp only [Nm.str] at *
    refine ret_of (α := Unit) ?_
    refine wpAny_call ?_
    w_strict (k_dflt (k_extra "my enter"))
    k_extra "my steps"
    all_goals (try dsimp only at *))
  all_goals (
    (rename Fr h₀ L _ m => fX); (rename News h₀ L _ _ => nX)
    exact ret _ _ _ fX (news_of nX (by k_extra "my sub")))
end
section
variable {prog : Program} {w : World} {A : Around} {E : Value → Shared → Prop} {s : Shared} {h₀ : Heap} {L : Addr} {m : Str → Option Value} {env : Env}
def KMark (_ : List (Addr × Obj)) (_ : Prop) : Prop := True
def ElE (base h₀ : Heap) (L : Addr) (m : Str → Option Value) (l : List Env) (P : Prop) (all : List (Addr × Obj)) (s₁ : Shared) (er : Value) (s' : Shared) : Prop := P ∧ ∃ h' tk, s' = { s₁ with heap := h', toks := tk } ∧ Up base h₀ L m l all er h'
theorem Up.sub {base : Heap} {l : List Env} {news news' : List (Addr × Obj)} {er : Value} {h' : Heap} (U : Up base h₀ L m l news er h') (hs : ∀ p ∈ news', p ∈ news) : Up base h₀ L m l news' er h' := by
  obtain ⟨x, t, vs, g, e, F, R, u⟩ := U
  exact ⟨x, t, vs, g, e, F, raisedS_sub R hs, u⟩
theorem ElE.intro {base : Heap} {l : List Env} {P : Prop} {news all : List (Addr × Obj)} {s₁ : Shared} {er : Value} {h' : Heap} {tk : Nat} (p : P) (U : Up base h₀ L m l all er h') (hs : ∀ p ∈ news, p ∈ all) : ElE base h₀ L m l P news s₁ er { s₁ with heap := h', toks := tk } := ⟨p, h', tk, rfl, U.sub hs⟩
def RestE (prog : Program) (w : World) (A : Around) (h₀ : Heap) (L : Addr) (m : Str → Option Value) (env : Env) (elt : Expr) (x : Str) (scope : Scope) (cl : List (Str × Addr)) (s : Shared) (S : List (Addr × Obj) → Prop) (P : Nat → Value → Prop)
    (Er : List (Addr × Obj) → Shared → Value → Shared → Prop) (Fin : Nat → List Value → List (Addr × Obj) → Prop) : Nat → Nat → Nat → List Value → List (Addr × Obj) → Prop
  | 0, _, T, ys, news => Fin T ys news
  | k + 1, i, T, ys, news => ∀ v I oI C oC D m₂ h tk, T ≤ tk → P i v → LCg.NsObj oC m₂ → m₂ x = some v → Fr h₀ L h m → News h₀ L h ((I, oI) :: (C, oC) :: (D, LCg.lst ys) :: news) → LCg.Off3 I C D news → ((@Ne Nat I C) ∧ (@Ne Nat I D) ∧ (@Ne Nat C D)) →
      wpAny (model prog w) A (eval elt (compEnvC scope cl C env)) (EndT h₀ L m { s with heap := h, toks := tk } I oI C oC D (LCg.lst ys) S (fun T' y news' => RestE prog w A h₀ L m env elt x scope cl s S P Er Fin k (i + 1) T' (ys ++ [y]) news')) (Er ((I, oI) :: (C, oC) :: (D, LCg.lst ys) :: news) { s with heap := h, toks := tk }) { s with heap := h, toks := tk }
theorem RestE.zero {elt : Expr} {x : Str} {scope : Scope} {cl : List (Str × Addr)} {S : List (Addr × Obj) → Prop} {P : Nat → Value → Prop} {Er : List (Addr × Obj) → Shared → Value → Shared → Prop} {Fin : Nat → List Value → List (Addr × Obj) → Prop} {i T : Nat} {ys : List Value} {news : List (Addr × Obj)} (h : Fin T ys news) :
    RestE prog w A h₀ L m env elt x scope cl s S P Er Fin 0 i T ys news := h
theorem RestE.succ {elt : Expr} {x : Str} {scope : Scope} {cl : List (Str × Addr)} {S : List (Addr × Obj) → Prop} {P : Nat → Value → Prop} {Er : List (Addr × Obj) → Shared → Value → Shared → Prop} {Fin : Nat → List Value → List (Addr × Obj) → Prop} {k i T : Nat} {ys : List Value} {news : List (Addr × Obj)}
    (h : ∀ v I oI C oC D m₂ h tk, T ≤ tk → P i v → LCg.NsObj oC m₂ → m₂ x = some v → Fr h₀ L h m → News h₀ L h ((I, oI) :: (C, oC) :: (D, LCg.lst ys) :: news) → LCg.Off3 I C D news → ((@Ne Nat I C) ∧ (@Ne Nat I D) ∧ (@Ne Nat C D)) →
      wpAny (model prog w) A (eval elt (compEnvC scope cl C env)) (EndT h₀ L m { s with heap := h, toks := tk } I oI C oC D (LCg.lst ys) S (fun T' y news' => RestE prog w A h₀ L m env elt x scope cl s S P Er Fin k (i + 1) T' (ys ++ [y]) news')) (Er ((I, oI) :: (C, oC) :: (D, LCg.lst ys) :: news) { s with heap := h, toks := tk }) { s with heap := h, toks := tk }) :
    RestE prog w A h₀ L m env elt x scope cl s S P Er Fin (k + 1) i T ys news := h
theorem RestE.at {elt : Expr} {x : Str} {scope : Scope} {cl : List (Str × Addr)} {S : List (Addr × Obj) → Prop} {P : Nat → Value → Prop} {Er : List (Addr × Obj) → Shared → Value → Shared → Prop} {Fin : Nat → List Value → List (Addr × Obj) → Prop} {k i T : Nat} {ys : List Value} {news : List (Addr × Obj)}
    {xv : Value} (hv : ∀ v, P i v → v = xv)
    (h : ∀ I oI C oC D m₂ h tk, T ≤ tk → LCg.NsObj oC m₂ → m₂ x = some xv → Fr h₀ L h m → News h₀ L h ((I, oI) :: (C, oC) :: (D, LCg.lst ys) :: news) → LCg.Off3 I C D news → ((@Ne Nat I C) ∧ (@Ne Nat I D) ∧ (@Ne Nat C D)) →
      wpAny (model prog w) A (eval elt (compEnvC scope cl C env)) (EndT h₀ L m { s with heap := h, toks := tk } I oI C oC D (LCg.lst ys) S (fun T' y news' => RestE prog w A h₀ L m env elt x scope cl s S P Er Fin k (i + 1) T' (ys ++ [y]) news')) (Er ((I, oI) :: (C, oC) :: (D, LCg.lst ys) :: news) { s with heap := h, toks := tk }) { s with heap := h, toks := tk }) :
    RestE prog w A h₀ L m env elt x scope cl s S P Er Fin (k + 1) i T ys news := fun v I oI C oC D m₂ h' tk hT hP hC hm F N off ne => by
  obtain rfl := hv v hP
  exact h I oI C oC D m₂ h' tk hT hC hm F N off ne

theorem block_E {elt iter : Expr} {x : Str} {px : Pos} {scope : Scope} {cl : List (Str × Addr)} {pos : Pos} {s₂ : Shared} {I : Addr} {fp : List Addr} {n T : Nat} {P : Nat → Value → Prop} {St : Nat → Heap → Prop} {S : List (Addr × Obj) → Prop} {news : List (Addr × Obj)}
    {Er : List (Addr × Obj) → Shared → Value → Shared → Prop} {Fin : Nat → List Value → List (Addr × Obj) → Prop} {RR : Value → Addr → Result → Shared → Prop}
    (W : Walks prog w A I fp [I] n P St) (hsz : n ≤ sizeLine) (hIo : ∀ i h, St i h → ∃ o, h.get? I = some o)
    (hSt : ∀ i h h' o nw, St i h → h.get? I = some o → h'.get? I = some o → (∀ b o, h₀.get? b = some o → h'.get? b = some o) → News h₀ L h' nw → S nw → St i h')
    (hcell : ∀ y ∈ scope.names, y.2 ≠ .cell) (hkind : scope.kind = .function) (hx : scope.names.lookup x = some .local) (hst : St 0 s₂.heap) (hfp : ∀ b ∈ fp, b < s₂.heap.objs.size)
    (F : Fr h₀ L s₂.heap m) (N : News h₀ L s₂.heap news) (hIL : L ≠ I) (hI₀ : h₀.get? I = none) (off : ∀ p ∈ news, p.1 ≠ I) (hS : S news) (hT : T ≤ s₂.toks)
    (R : RestE prog w A h₀ L m env elt x scope cl s₂ S P Er Fin n 0 T [] news)
    (hErr : ∀ D C I' oI oC m₂ ys news' sx er s', LCg.NsObj oC m₂ → C ≠ L → h₀.get? C = none → LCg.Off3 I' C D news' → S news' → (∃ h' tk, sx = { s₂ with heap := h', toks := tk }) → Er ((I', oI) :: (C, oC) :: (D, LCg.lst ys) :: news') sx er s' →
      notedBy (model prog w) A (compEnvC scope cl C env) (fun e s'' => RR (.ref D) C (.error e) s'') er s')
    (hRR : ∀ D C h tk T' m' ys news', T' ≤ tk → Fr h₀ L h m → News h₀ L h ((D, LCg.lst ys) :: news') → LCg.Off1 D news' → h.Ns C m' → h₀.get? C = none → h₀.get? D = none → C ≠ L → D ≠ L → C ≠ D → (∀ p ∈ news', p.1 ≠ C) → Fin T' ys news' → RR (.ref D) C (.ok .next) { s₂ with heap := h, toks := tk }) :
    wpAny (model prog w) A (newList []) (fun acc s₃ => wpAny (model prog w) A (newFunctionEnv scope env.globals cl [] env.qual none .none (some env)) (fun cenv s₄ =>
      codeAny (model prog w) A (.compStart (.ListComp elt [⟨.Name x px, iter, [], 0⟩] scope pos) 0 (.ref I) acc { cenv with scope := relabel scope env }) (RR acc cenv.locals) s₄) E s₃) E s₂ := by
  refine wpAny_newObj_type (wpAny_newFunctionEnv hcell (by intro y hy; simp at hy) (fun h₁ hns₁ hsb₁ => ?_) hkind)
  dsimp only at hns₁ hsb₁ ⊢
  generalize hH2 : s₂.heap.push { cls := .type "list", dict := none, data := .seq ([] : List Value).toArray } = H2 at hns₁ hsb₁ ⊢
  have hC : H2.objs.size = s₂.heap.objs.size + 1 := by rw [← hH2, Heap.size_push]
  have hDC : s₂.heap.objs.size ≠ H2.objs.size := by rw [hC]; exact Nat.ne_of_lt (Nat.lt_succ_self _)
  have below : ∀ b, b < s₂.heap.objs.size → b ≠ H2.objs.size ∧ b ≠ s₂.heap.objs.size := fun b hb => ⟨by rw [hC]; exact Nat.ne_of_lt (Nat.lt_succ_of_lt hb), Nat.ne_of_lt hb⟩
  have hDf : s₂.heap.objs.size ∉ fp := fun hm => Nat.lt_irrefl _ (hfp _ hm)
  have hCf : H2.objs.size ∉ fp := fun hm => by have := hfp _ hm; rw [hC] at this; exact Nat.lt_irrefl _ (Nat.lt_of_succ_lt this)
  have hIlt : I < s₂.heap.objs.size := hfp I (W.sub I (List.mem_singleton.mpr rfl))
  have old : ∀ b o, s₂.heap.get? b = some o → h₁.get? b = some o := fun b o e => hsb₁.extBut b o (below b (Heap.lt_size e)).1 (Heap.get?_push_of_some _ (hH2 ▸ Heap.get?_push_of_some _ e))
  have hacc : h₁.get? s₂.heap.objs.size = some (LCg.lst []) := hsb₁.extBut _ _ hDC (Heap.get?_push_of_some _ (hH2 ▸ Heap.get?_push_size _ rfl))
  have hst₁ : St 0 h₁ := W.frame _ _ _ hst fun b _ o e => old b o e
  have fresh₀ : ∀ a, s₂.heap.objs.size ≤ a → h₀.get? a = none := fun a ha => by
    cases e : h₀.get? a with
    | none => rfl
    | some o' => exact absurd (Heap.lt_size (F.keep a o' e)) (Nat.not_lt.mpr ha)
  have hD₀ : h₀.get? s₂.heap.objs.size = none := fresh₀ _ (Nat.le_refl _)
  have hC₀ : h₀.get? H2.objs.size = none := fresh₀ _ (by rw [hC]; exact Nat.le_succ _)
  have hLlt : L < s₂.heap.objs.size := F.ns.lt
  have hDL : s₂.heap.objs.size ≠ L := Ne.symm (below L hLlt).2
  have hCL : H2.objs.size ≠ L := Ne.symm (below L hLlt).1
  have hCI : I ≠ H2.objs.size := (below I hIlt).1
  have hDI : I ≠ s₂.heap.objs.size := (below I hIlt).2
  have off₀ : LCg.Off3 I H2.objs.size s₂.heap.objs.size news := LCg.Off3.of fun p hp => ⟨off p hp, (below _ (Heap.lt_size (N p hp).1)).1, (below _ (Heap.lt_size (N p hp).1)).2⟩
  have loop : ∀ s₃ : Shared, s₃ = { s₂ with heap := h₁, toks := s₂.toks + ([] : List (Str × Value)).length } →
      codeAny (model prog w) A (.compLoop (.ListComp elt [⟨.Name x px, iter, [], 0⟩] scope pos) 0 (.ref I) (.ref s₂.heap.objs.size) (compEnvC scope cl H2.objs.size env))
        (RR (.ref s₂.heap.objs.size) H2.objs.size) s₃ := by
    rintro s₃ rfl
    obtain ⟨PP, hPP⟩ : ∃ PP : Nat → Shared → Prop, ∀ k s', PP k s' ↔ (∃ h' tk i T' ys m' news', s' = { s₂ with heap := h', toks := tk } ∧ i ≤ n ∧ k = n + 1 - i ∧ ys.length = i ∧ T' ≤ tk ∧ St i h' ∧ Fr h₀ L h' m ∧ h'.Ns H2.objs.size m' ∧ News h₀ L h' ((s₂.heap.objs.size, LCg.lst ys) :: news') ∧
        LCg.Off3 I H2.objs.size s₂.heap.objs.size news' ∧ S news' ∧ RestE prog w A h₀ L m env elt x scope cl s₂ S P Er Fin (n - i) i T' ys news') := ⟨_, fun _ _ => Iff.rfl⟩
    refine codeAny_compLoop_tests PP ?_ (n + 1)
      ((hPP _ _).mpr ⟨h₁, _, 0, T, [], _, news, rfl, Nat.zero_le _, rfl, rfl, hT, hst₁, F.keeps old, hns₁, fun p hp => ?_, off₀, hS, R⟩)
    · intro k s' h9
      obtain ⟨h', tk, i, T', ys, m', news', h9⟩ := (hPP _ _).mp h9
      obtain rfl := h9.1
      have hi := h9.2.1; obtain rfl := h9.2.2.1
      have hyl := h9.2.2.2.1; have hTk := h9.2.2.2.2.1; have hst' := h9.2.2.2.2.2.1; have F' := h9.2.2.2.2.2.2.1; have hn' := h9.2.2.2.2.2.2.2.1; have N' := h9.2.2.2.2.2.2.2.2.1; have off' := h9.2.2.2.2.2.2.2.2.2.1; have hS' := h9.2.2.2.2.2.2.2.2.2.2.1; have R' := h9.2.2.2.2.2.2.2.2.2.2.2
      clear h9
      by_cases hlt : i < n
      · obtain ⟨j, hj⟩ := sub_ex hlt
        rw [hj] at R'
        refine toks_up (W.item i _ _ _ hlt hst' fun v h₂ tk₂ hPv hst₂ hk₂ hle => ?_)
        refine wpAny_assign_Name (wpAny_storeName_local (lookup_relabel_local hx) (hn'.at' fun o e => hk₂ _ o (by simpa using Ne.symm hCI) e) (fun h₃ hn₃ hs₃ => ?_) (by simp [compEnvC, relabel, hkind]))
        refine wpAny_tests_nil ?_
        simp only [if_true]
        have hst₃ : St (i + 1) h₃ := W.frame _ _ _ hst₂ fun b hb o e => hs₃.extBut b o (fun q => hCf (by have q' : b = H2.objs.size := q; rw [← q']; exact hb)) e
        obtain ⟨oI, heI⟩ := hIo _ _ hst₃
        obtain ⟨oC, heC, hoC⟩ := LCg.ns_obj hn₃
        have F₃ : Fr h₀ L h₃ m := (LCg.fr_but F' hk₂ hIL hI₀).change hs₃ hCL hC₀
        have off3 := off'.mem
        have N₂ : News h₀ L h₂ ((s₂.heap.objs.size, LCg.lst ys) :: news') := LCg.news_but N' hk₂ fun p hp => by
          rcases List.mem_cons.mp hp with rfl | hp
          · exact Ne.symm hDI
          · exact (off3 p hp).1
        have N₃ : News h₀ L h₃ ((I, oI) :: (H2.objs.size, oC) :: (s₂.heap.objs.size, LCg.lst ys) :: news') := fun p hp => by
          rcases List.mem_cons.mp hp with rfl | hp
          · exact ⟨heI, Ne.symm hIL, hI₀⟩
          · rcases List.mem_cons.mp hp with rfl | hp
            · exact ⟨heC, hCL, hC₀⟩
            · refine ⟨hs₃.extBut _ _ ?_ (N₂ p hp).1, (N₂ p hp).2⟩
              rcases List.mem_cons.mp hp with rfl | hp
              · exact hDC
              · exact (off3 p hp).2.1
        have hle' : tk ≤ tk₂ := hle
        refine wpAny_mono (R' v I oI H2.objs.size oC s₂.heap.objs.size _ h₃ _ (le_suc3 hTk hle') hPv hoC (by simp) F₃ N₃ off' ⟨hCI, hDI, Ne.symm hDC⟩) (fun y s₄ h₄ => ?_) fun er s' e => hErr _ _ _ _ _ _ _ _ _ er s' hoC hCL hC₀ off' hS' ⟨_, _, rfl⟩ e
        obtain ⟨h₄, tk₄, news₄, h9⟩ := h₄
        obtain rfl := h9.1
        have F₄ := h9.2.1; have N₄ := h9.2.2.1; have off₄ := h9.2.2.2.1; have hS₄ := h9.2.2.2.2.1; have R₄ := h9.2.2.2.2.2
        clear h9
        have zC := (N₄ (H2.objs.size, oC) (List.mem_cons_of_mem _ List.mem_cons_self)).1
        have zD := (N₄ (s₂.heap.objs.size, LCg.lst ys) (List.mem_cons_of_mem _ (List.mem_cons_of_mem _ List.mem_cons_self))).1
        have N₄' : News h₀ L h₄ news₄ := fun p hp => N₄ p (List.mem_cons_of_mem _ (List.mem_cons_of_mem _ (List.mem_cons_of_mem _ hp)))
        have hst₄ : St (i + 1) h₄ := hSt _ _ _ _ _ hst₃ heI (N₄ (I, oI) List.mem_cons_self).1 F₄.keep N₄' hS₄
        refine append_at (hsz := by show ys.toArray.size ≤ sizeLine; rw [List.size_toArray, hyl]; exact Nat.le_trans hi hsz) zD fun h₅ hs₅ hD₅ => ?_
        have off4 := off₄.mem
        refine ⟨n + 1 - (i + 1), sub_lt3 hlt, (hPP _ _).mpr ⟨h₅, tk₄, i + 1, tk₄, ys ++ [y], _, news₄, rfl, hlt, rfl, by rw [List.length_append, List.length_singleton, hyl], Nat.le_refl _, W.frame _ _ _ hst₄ fun b hb o e => hs₅.extBut b o (fun q => hDf (q ▸ hb)) e, F₄.change hs₅ hDL hD₀,
          (hoC.ns zC).sameBut hs₅ (Ne.symm hDC), fun p hp => ?_, off₄, hS₄, ?_⟩⟩
        · rcases List.mem_cons.mp hp with rfl | hp
          · exact ⟨hD₅.trans (congrArg some (LCg.lst_snoc ys y)), hDL, hD₀⟩
          · exact ⟨hs₅.extBut _ _ (off4 p hp).2.2 (N₄' p hp).1, (N₄' p hp).2⟩
        · rw [sub_eq3 hj]
          exact R₄
      · obtain rfl : i = n := Nat.le_antisymm hi (Nat.not_lt.mp hlt)
        rw [Nat.sub_self] at R'
        refine toks_up (W.done _ _ _ hst' fun h₂ tk₂ hk₂ hle => ?_)
        have off3 := off'.mem
        have hle' : tk ≤ tk₂ := hle
        exact hRR _ _ h₂ tk₂ T' _ ys news' (Nat.le_trans hTk hle') (LCg.fr_but F' hk₂ hIL hI₀) (LCg.news_but N' hk₂ fun p hp => by
          rcases List.mem_cons.mp hp with rfl | hp
          · exact Ne.symm hDI
          · exact (off3 p hp).1) off'.one (hn'.at' fun o e => hk₂ _ o (by simpa using Ne.symm hCI) e) hC₀ hD₀ hCL hDL (Ne.symm hDC) (fun p hp => (off3 p hp).2.1) R'
    · rcases List.mem_cons.mp hp with rfl | hp
      · exact ⟨hacc, hDL, hD₀⟩
      · exact ⟨old _ _ (N p hp).1, (N p hp).2⟩
  exact codeAny_compStart_list (loop _ rfl) (W.self 0 _ _ _ hst₁ (loop _ rfl))
def TupSrcE (prog : Program) (w : World) (A : Around) (base h₀ : Heap) (L : Addr) (m : Str → Option Value) (env : Env) (outer : List Env) (E : Value → Shared → Prop) (elt : Expr) (x : Str) (scope : Scope) (cl : List (Str × Addr)) (Fin : Shared → Nat → List Value → List (Addr × Obj) → Prop) (xv : Value) (s₁ : Shared) : Prop :=
  ∃ ax its k news K P, xv = .ref ax ∧ A.handled = none ∧ Fr h₀ L s₁.heap m ∧ News h₀ L s₁.heap news ∧ (ax, tupObj its k) ∈ news ∧ its.size ≤ sizeLine ∧ (∀ p ∈ K, p ∈ news) ∧ (∀ er h' tk, P → UpF base h₀ L m (env :: outer) K er h' → E er { s₁ with heap := h', toks := tk }) ∧
    ∀ g, RestE prog w A h₀ L m env elt x scope cl { s₁ with heap := g } (fun nw => (ax, tupObj its k) ∈ nw ∧ ∀ p ∈ K, p ∈ nw) (fun i v => its[i]? = some v) (ElE base h₀ L m (env :: outer) P) (Fin { s₁ with heap := g }) its.size 0 s₁.toks [] news
theorem TupSrcE.of {base : Heap} {outer : List Env} {elt : Expr} {x : Str} {scope : Scope} {cl : List (Str × Addr)} {Fin : Shared → Nat → List Value → List (Addr × Obj) → Prop} {ax : Addr} {its : Array Value} {k : Nat} {news K : List (Addr × Obj)} {P : Prop} {s₁ : Shared} (_ : KMark K P)
    (hh : A.handled = none) (F : Fr h₀ L s₁.heap m) (N : News h₀ L s₁.heap news) (hm : (ax, tupObj its k) ∈ news) (hsz : its.size ≤ sizeLine) (n : Nat) (hn : its.size = n) (hK : ∀ p ∈ K, p ∈ news)
    (hE : ∀ er h' tk, P → UpF base h₀ L m (env :: outer) K er h' → E er { s₁ with heap := h', toks := tk })
    (h : ∀ g, RestE prog w A h₀ L m env elt x scope cl { s₁ with heap := g } (fun nw => (ax, tupObj its k) ∈ nw ∧ ∀ p ∈ K, p ∈ nw) (fun i v => its[i]? = some v) (ElE base h₀ L m (env :: outer) P) (Fin { s₁ with heap := g }) n 0 s₁.toks [] news) :
    TupSrcE prog w A base h₀ L m env outer E elt x scope cl Fin (.ref ax) s₁ := ⟨ax, its, k, news, K, P, rfl, hh, F, N, hm, hsz, hK, hE, hn ▸ h⟩
theorem comp_tup_assignE {A₀ : Around} {base : Heap} {outer : List Env} {elt iter : Expr} {x y : Str} {px py : Pos} {scope : Scope} {cl : List (Str × Addr)} {pos spos : Pos} {Q : Flow → Shared → Prop} (_F₀ : Fr h₀ L s.heap m) (B₀ : Below A₀ base outer h₀) (hfr : A.frames = some (env :: outer)) (hf : env.frame = some L) (hLe : env.locals = L)
    (hsw : swapsWith (.ListComp elt [⟨.Name x px, iter, [], 0⟩] scope pos) (some (.Name y py)) spos.line env = pure true)
    (hclos : closureFor scope env = pure cl) (hcell : ∀ z ∈ scope.names, z.2 ≠ .cell) (hkind : scope.kind = .function)
    (hnames : ∀ z ∈ scope.names, z.2 = .local → scope.names.lookup z.1 = some .local) (hx : scope.names.lookup x = some .local)
    (hy : env.kindOf y = some .local) (hp : (env.scope.kind == .class || (env.scope.kind == .module && env.locals != env.globals)) = false)
    (h : wpAny (model prog w) A (eval iter env) (fun xv s₁ => TupSrcE prog w A base h₀ L m env outer E elt x scope cl (fun s₂ => FinAT h₀ L m s₂ y Q) xv s₁) E s)
    (hs : ∀ x, foldedSetIterable iter env x = pure x := by intro _; rfl) :
    wpAny (model prog w) A (exec (.Assign [.Name y py] (.ListComp elt [⟨.Name x px, iter, [], 0⟩] scope pos) spos) env) Q E s := by
  subst hLe
  rw [exec_Assign_Name_used _ _ _ _ hsw]
  refine wpAny_bind (wpAny_standAt (wpAny_bind ?_))
  show wpAny _ A (do let _ ← comprehension (.ListComp elt [⟨.Name x px, iter, [], 0⟩] scope pos) scope env _ (newList []) false (eval iter env) (some (assign (.Name y py) env))) _ _ s
  refine wpAny_bind (wpAny_mono (wpAny_comprehension_free (use := some (assign (.Name y py) env)) (Q := fun _ s' => Q .next s') rfl hs hclos hkind hnames
    (wpAny_mono h (fun xv s₁ h₁ => ?_) fun _ _ e => e)) (fun _ s' hq => wpAny_pure (wpAny_pure hq)) fun _ _ e => e)
  obtain ⟨ax, its, k, news, K, P, rfl, hh, F, N, hm, hsz, hK, hE, R⟩ := h₁
  have ht : s₁.heap.IsTuple ax its := ⟨_, (N _ hm).1, rfl, _, rfl⟩
  have hlt : ax < s₁.heap.objs.size := Heap.lt_size (N _ hm).1
  refine wpAny_pyIter_tuple ht ?_
  have up : ∀ b o, s₁.heap.get? b = some o → (s₁.heap.push { cls := .type "tuple_iterator", data := .fields #[.ref ax, .int 0 0] }).get? b = some o := fun b o e => Heap.get?_push_of_some _ e
  refine block_E (Walks.tuple hh s₁.heap.objs.size ax (Nat.ne_of_lt hlt) its) hsz (fun i h st => ?_) (fun i h h' o nw st e e' kk NN S => ?_) hcell hkind hx ⟨⟨_, Heap.get?_push_size _ rfl, rfl, rfl⟩, ht.push _⟩ (fun b hb => ?_)
    (F.keeps up) (N.grown up) (Nat.ne_of_lt F.ns.lt) (next_is_new F) (fun p hp => Nat.ne_of_lt (Heap.lt_size (N p hp).1)) ⟨hm, hK⟩ (Nat.le_refl _) (R _) ?_ ?_
  · obtain ⟨o, e, _⟩ := st.1
    exact ⟨o, e⟩
  · refine ⟨?_, ⟨_, (NN _ S.1).1, rfl, _, rfl⟩⟩
    obtain ⟨o', q, r⟩ := st.1
    rw [e] at q
    cases q
    exact ⟨o, e', r⟩
  · show b < (s₁.heap.push _).objs.size
    rw [Heap.size_push]
    rcases List.mem_cons.mp hb with rfl | hb
    · exact Nat.lt_succ_self _
    · rw [List.mem_singleton.mp hb]; exact Nat.lt_succ_of_lt hlt
  · rintro D C I' oI oC m₂ ys news' sx er s' hoC hCL hC₀ off hS ⟨h₁, tk₁, rfl⟩ ⟨hP, h₂, tk₂, rfl, U⟩
    exact comp_err B₀ hfr hf hoC U hCL hC₀ hS.2 (fun p hp => (off.mem p (hS.2 p hp)).2.1) fun h₃ UF => hE er h₃ tk₂ hP UF
  · intro D C h' tk T' m' ys news' hTk F' N' o1 hn hC₀ hD₀ hCL hDL hCD offC fin
    show wpAny _ A (assign (.Name y py) env (.ref D)) _ _ _
    refine wpAny_assign_Name (wpAny_storeName_local hy F'.ns (fun h₂ hn₂ hs₂ => ?_) hp)
    have hL₀ : h₀.get? env.locals = none := Heap.get?_none_of_le F'.above
    have F₂ : Fr h₀ env.locals h₂ (fun z => if z = y then some (.ref D) else m z) := ⟨hn₂, fun b o e => hs₂.extBut b o (fun q => by rw [q, hL₀] at e; cases e) (F'.keep b o e), F'.above⟩
    refine ⟨m', hn.sameBut hs₂ hCL, fun h'' hs'' => fin D h'' _ (Nat.le_succ_of_le hTk) (F₂.change hs'' hCL hC₀) (fun p hp => ?_) o1⟩
    have z : h₂.get? p.1 = some p.2 := hs₂.extBut _ _ (N' p hp).2.1 (N' p hp).1
    refine ⟨hs''.extBut _ _ ?_ z, (N' p hp).2⟩
    rcases List.mem_cons.mp hp with rfl | hp
    · exact Ne.symm hCD
    · exact offC p hp
end
theorem w66 : True := by
  w_top off
  k_with_none
  k_with "my k_all" => (k_dflt (first | assumption | exact all_ne_sub9 (by assumption) (by k_extra "my sub") | exact all_ne_u0 (by assumption) (by k_extra "my sub") | exact all_ne_u1 (by assumption) (by k_extra "my sub") | exact all_ne_u2 (by assumption) (by k_extra "my sub") | exact all_ne_u3 (by assumption) (by k_extra "my sub") | exact all_ne_u4 (by assumption) (by k_extra "my sub") | (refine List.forall_mem_append.mpr ⟨?_, ?_⟩ <;> k_all)))
  k_with "my ktr_room" => (((try simp only [depth_under_make, depth_under_kw, depth_in1, depth_deeper, depth_caller]); (try dsimp only [ktrTop]); (try simp only [recursionLimit]); k_extra "my room"))
  k_with "my room" => (first | exact Nat.le_of_ble_eq_true rfl | exact rm0 hd rfl | exact rm1 hd rfl | exact rm5 hd rfl | exact rm6 hd rfl | exact rm4 hd rfl | exact rm2 hd rfl | exact rm3 hd rfl | exact rm7 hd rfl | exact rm8 (by assumption) rfl | omega)
  k_with "my units" => (first | exact Nat.le_of_ble_eq_true rfl | exact rm0 hu rfl | exact rm1 hu rfl | exact rm5 hu rfl | exact rm6 hu rfl | exact rm4 hu rfl | exact rm2 hu rfl | exact rm3 hu rfl | exact rm7 hu rfl | exact rm8 (by assumption) rfl | exact um1 hu rfl | exact um2 hu rfl | exact um3 hu rfl | exact um4 hu rfl | exact um5 hu rfl | (have hcL9 := cLine_is; omega))
  k_with "my dep" => (first | assumption | exact dm1 hdp | exact dm2 hdp | exact dm0 hdp | omega)
  k_with "my ktr_units" => (((try simp only [units_in1, units_deeper, Around.mark_units, units_caller]); (try dsimp only [ktrTop]); k_extra "my units"))
  k_with "my k_room" => (ktr_room)
  k_with "my k_units" => (ktr_units)
  k_with "my units_room" => (ktr_units)
  k_with "compareOp Eq ref ref" => ((k_here; (with_reducible show wpAny _ _ (compareOp CmpOp.Eq (Value.ref _) (Value.ref _)) _ _ _); first
      | refine' eq_zero_f (by assumption) (by assumption) (by k_extra "my sub") (by k_mem) (by first | rfl | exact mkOf_zero) (by omega) (by ktr_units) ?_
      | refine' eq_zero_t (by assumption) (by assumption) (by k_extra "my sub") (by k_mem) rfl (by omega) (by ktr_units) ?_))
  k_with "my k_ne" => (k_dflt (first | exact off_I (by assumption) (by k_mem) | exact off_C (by assumption) (by k_mem) | exact off_D (by assumption) (by k_mem) | assumption | exact ne_gt9 (by assumption) (by k_mem) | exact ne_lt9 (by assumption) (by k_mem) | exact ne_all9 (by assumption) (by k_mem) | exact ne_all9s (by assumption) (by k_mem) | exact ne_gt_u1 (by assumption) (by k_mem) | exact ne_lt_u1 (by assumption) (by k_mem) | exact ne_gt_u2 (by assumption) (by k_mem) | exact ne_lt_u2 (by assumption) (by k_mem) | exact ne_gt_u3 (by assumption) (by k_mem) | exact ne_lt_u3 (by assumption) (by k_mem) | exact ne_gt_u4 (by assumption) (by k_mem) | exact ne_lt_u4 (by assumption) (by k_mem)))
  k_with "my off" => (first | exact True.intro | (refine And.intro (off_at (by assumption) (by k_mem)) ?_; k_extra "my off") | (refine Off3.append ?_ ?_ <;> k_extra "my off") | (refine Off3.of_sub (by assumption) (fun p hp => ?_); simp only [List.mem_cons, List.mem_append, hp, true_or, or_true]; done) | (refine Off3.of_lt (by assumption) (by k_mem) (by k_mem) (by k_mem)))
  k_with "CompSrc" => ((k_here; k_dflt (refine LCg.CompSrc.range (by rfl) (by k_asm) (by k_asm) (by with_reducible assumption) (by first | decide | rfl) (by first | rfl | decide) (by first | size_fits | exact Nat.le_of_ble_eq_true rfl) ?_; intro g'; lcg_lit)))
  k_with "CompRest" => ((with_unfolding_all first
      | (refine CompRest_at (fun v9 h9 => (Option.some.inj h9).symm) ?_; intro I' oI' C' oC' D' m' h' tk' E' hC' hx' F' N' off' ne'; have offM := off'.mem; clear off')
      | (refine CompRest_ex (fun v9 h9 => h9) ?_; intro t9' I' oI' C' oC' D' m' h' tk' E' hC' hx' F' N' off' ne'; have offM := off'.mem; clear off')
      | (refine LCg.CompRest.succ ?_; intro v' I' oI' C' oC' D' m' h' tk' E' hv' hC' hx' F' N' off' ne'; have offM := off'.mem; (first | lcg_open hv' | (obtain ⟨t9', hv9'⟩ := hv'; subst hv9')); clear off')
      | refine LCg.CompRest.zero ?_))
  k_with "CompEnd" => ((k_here; (refine LCg.CompEnd.intro (by assumption) (by assumption) _ (fun p hp => hp) ?offAO ?srcAO ?_; (case offAO => k_extra "my off"); (case srcAO => first | lcg_src | ((try dsimp only); k_mem)))))
  k_with "my enter" => ((refine' code_def ?k1AP ?k2AP ?k3AP ?k4AP ?k5AP ?kAAP ?kFAP ?kKAP ?k6AP ?k7AP ?k8AP ?k9AP ?kBAP ?_ ?c2AP ?c3AP ?c4AP ?c5AP; (case kAAP => exact rfl); (case kFAP => exact rfl); (case kKAP => first | exact rfl | assumption); (case k1AP => k_asm); (case k2AP => k_asm); (case k3AP => k_asm); (case k4AP => k_asm); (case k5AP => k_asm); (case k6AP => k_is); (case k7AP => k_is); (case k8AP => ktr_room); (case k9AP => exact BindsTo.of_eq rfl); (case c5AP => decide); (case kBAP => exact locs rfl); (case c2AP => exact rfl); (case c3AP => exact rfl); (case c4AP => exact rfl); k_whole; intro g' L' h' FG' F' N' B' X' T'; (try dsimp only); (try k_fold)))
  k_with "my enterC" => ((refine' code_defC ?k1AQ ?k2AQ ?k3AQ ?k4AQ ?k5AQ ?kAAQ ?kFAQ ?kKAQ ?k6AQ ?k7AQ ?k8AQ ?k9AQ ?kBAQ ?kDAQ ?_ ?c2AQ ?c3AQ ?c4AQ; (case kAAQ => exact rfl); (case kFAQ => exact rfl); (case kKAQ => first | exact rfl | assumption); (case k1AQ => k_asm); (case k2AQ => k_asm); (case k3AQ => k_asm); (case k4AQ => k_asm); (case k5AQ => k_asm); (case k6AQ => k_is); (case k7AQ => k_is); (case k8AQ => ktr_room); (case k9AQ => exact BindsTo.of_eq rfl); (case kBAQ => exact rfl); (case kDAQ => decide +kernel); (case c2AQ => exact rfl); (case c3AQ => exact rfl); (case c4AQ => exact rfl); k_whole; intro g' L' h' tk' cells' FG' F'; (first | (refine cells_in1 ?_; intro o' d1' N') | (refine cells_in2 ?_; intro o' o2' d1' d2' N') | (refine cells_in3 ?_; intro o' o2' o3' d1' d2' d3' N') | (refine cells_in4 ?_; intro o' o2' o3' o4' d1' d2' d3' d4' N')); intro B' X' T' l1; (try k_lt l1); (try dsimp only); (try k_fold)))
  k_with "eval ListComp" => ((k_here; (with_reducible show wpAny _ _ (eval (Expr.ListComp _ [⟨Expr.Name _ _, Expr.Subscript _ (Expr.Slice (some _) _ _ _) _, [], 0⟩] _ _) _) _ _ _); k_dflt (refine comp_tup (by k_asm) (by with_unfolding_all rfl) (by decide) (by rfl) (by decide) (by rfl) ?_)))
  k_with "exec Assign cons ListComp" => ((k_here; (with_reducible show wpAny _ _ (exec (Stmt.Assign [Expr.Name _ _] (Expr.ListComp _ [⟨Expr.Name _ _, Expr.Subscript _ (Expr.Slice (some _) _ _ _) _, [], 0⟩] _ _) _) _) _ _ _); k_dflt (refine comp_tup_assign (by k_asm) (by rfl) (by with_unfolding_all rfl) (by with_unfolding_all rfl) (by decide) (by rfl) (by decide) (by rfl) (by rfl) (by rfl) ?_)))
  k_with "subscriptTail Name Slice ref ref" => ((k_here; (with_reducible show wpAny _ _ (subscriptTail _ (PySem.Expr.Slice (some _) none none _) (Value.ref _) (Value.ref _)) _ _ _); k_dflt (refine' slice_tup1 ?FAT ?NAT ?lAT ?pAT ?eAT ?_ ?sAT ?tAT ?zAT; (case FAT => k_asm); (case NAT => k_asm); (case lAT => k_mem); (case pAT => exact Nat.le_of_ble_eq_true rfl); (case eAT => kl_lit); (case sAT => with_unfolding_all rfl); (case tAT => kmk_pure); (case zAT => kmk_size)); intro D' h' F' N' l1; (try k_lt l1); (try k_sweep)))
  k_with "TupSrc" => ((k_here; k_dflt (refine TupSrc.of (by rfl) (by k_asm) (by k_asm) (by k_mem) (by first | size_fits | exact Nat.le_of_ble_eq_true rfl) ?_; intro g'; lcg_lit)))
  k_with "my steps" => (repeat' ((fail_if_success (with_reducible show Ret _ _ _)); first | ((with_reducible show wpAny _ _ (call (Value.ref _) _ _) _ _ _); k_extra "my call") | ((fail_if_success ((with_reducible show wpAny _ _ (call (Value.ref _) _ _) _ _ _); k_extra "my nocall")); first | (k_unfold; (try dsimp only)) | walk1 | (dsimp only; walk1) | (leave1; walk_say "STEP leave1"; try dsimp only))))
  k_with "my sub" => (first | (with_reducible exact sub_self _) | (with_reducible refine sub_cons ?_; k_extra "my sub") | (with_reducible refine sub_left ?_; k_extra "my sub") | (with_reducible refine sub_right ?_; k_extra "my sub") | (intro p hp; simp only [List.mem_cons, List.mem_append, hp, true_or, or_true]; done))
  k_with "my ord" => (k_dflt (first | assumption | exact lt_all (by assumption) (by k_mem) | exact lt_all_u1 (by assumption) (by k_mem) | exact lt_all_u2 (by assumption) (by k_mem) | omega))
  k_with "my allLt" => (first | exact allLt_of (by assumption) | exact allLt_sub (by assumption) (by k_extra "my sub") | tbn_find)
  k_with "FinE" => (((unfold LCg.FinE); intro D' h' tk' F' N' o1'; replace o1' := off1_mem o1'; (try dsimp only [List.nil_append, List.cons_append] at N'); (try dsimp only [List.nil_append, List.cons_append] at o1'); (try dsimp only)))
  k_with "FinA" => (((unfold LCg.FinA); intro D' h' tk' F' N' o1'; replace o1' := off1_mem o1'; (try dsimp only [List.nil_append, List.cons_append] at N'); (try dsimp only [List.nil_append, List.cons_append] at o1'); (try dsimp only)))
  k_with "my omega" => (first
      | ((with_reducible show @LE.le Nat _ _ _); first | exact Nat.le_of_ble_eq_true rfl | with_reducible (first | exact o1 ‹_› (by decide) | exact o4 ‹_› (by decide) | exact o7 ‹_› (by decide) | exact o8 ‹_› (by decide) | exact o9 ‹_› (by decide) | exact q6 ‹_› (by decide) | exact q0 ‹_› (by decide) | exact r0 ‹_› (by decide) | exact q1 ‹_› ‹_› (by decide) | exact q3 ‹_› ‹_› (by decide) | exact q7 ‹_› ‹_› (by decide) | exact q8 ‹_› ‹_› (by decide) | exact q9 ‹_› ‹_› | exact r1 ‹_› ‹_› (by decide) | exact r2 ‹_› ‹_› | exact r4 ‹_› ‹_› | exact r8 ‹_› ‹_› (by decide) | exact o0 ‹_› (by decide) | exact Nat.add_le_add ‹_› ‹_› | exact Nat.le_add_left _ _ | exact Nat.le_of_lt ‹_›))
      | ((with_reducible show @LT.lt Nat _ _ _); first | exact Nat.le_of_ble_eq_true rfl | with_reducible (first | exact o2 ‹_› (by decide) | exact o3 ‹_› (by decide) | exact o5 ‹_› (by decide) | exact o6 ‹_› (by decide) | exact p5 ‹_› (by decide) | exact j6 ‹_› (by decide) | exact q2 ‹_› ‹_› (by decide) | exact q4 ‹_› ‹_› (by decide) | exact q5 ‹_› ‹_› (by decide) | exact p1 ‹_› ‹_› (by decide) | exact p2 ‹_› ‹_› (by decide) | exact p3 ‹_› ‹_› (by decide) | exact p4 ‹_› ‹_› (by decide) | exact p6 ‹_› ‹_› (by decide)))
      | ((with_reducible show @LE.le Int _ _ _); first | decide +kernel | with_reducible (first | exact i1 ‹_› | exact i2 ‹_› | exact i6 | exact i7 | exact j7 ‹_› | exact j4 ‹_› (by decide +kernel) | exact i8 ‹_› (by decide +kernel) | exact i9 ‹_› (by decide +kernel) | exact i3 ‹_› ‹_› | exact i4 ‹_› ‹_› | exact i5 ‹_› ‹_›))
      | ((with_reducible show @LT.lt Int _ _ _); first | decide +kernel | with_reducible (first | exact j1 ‹_› | exact j5 (by decide +kernel) | exact j3 ‹_› (by decide +kernel) | exact j8 ‹_› (by decide +kernel) | exact j9 ‹_› (by decide +kernel) | exact l1 ‹_› (by decide +kernel) | exact l2 ‹_› (by decide +kernel) | exact l3 ‹_› (by decide +kernel) | exact j0 ‹_› ‹_› (by decide +kernel)))
      | ((with_reducible show @Ne Nat _ _); with_reducible (first | exact Nat.ne_of_gt ‹_› | exact Nat.ne_of_lt ‹_› | exact Nat.succ_ne_self _ | exact (Nat.succ_ne_self _).symm))
      | with_reducible (first | exact j2 ‹_› | exact z4 ‹_› ‹_› | exact z6 ‹_› ‹_› | exact z3 ‹_› | exact z2 ‹_› ‹_›))
  k_with "my x_close" => ((refine EndX.use (by assumption) ?_; exact ⟨_, rfl, by assumption⟩))
  k_with "exec Raise some none" => ((k_here; (with_reducible show wpAny _ _ (exec (Stmt.Raise (some (Expr.Call (Expr.Name _ _) (_ :: _) [] _)) none _) _) _ _ _); k_dflt (refine raise_fault (w := ‹World›) rfl ?_)))
  k_with "my fault" => (((with_reducible show wpAny _ _ (call (Value.ref 60) [Value.str _ _]) _ _ _); refine' fault_make ?kBCJ ?kFCJ ?kXCJ ?kNCJ ?kTCJ ?kACJ ?kfCJ ?kkCJ ?khCJ ?kdCJ ?kuCJ ?_; (case kACJ => exact rfl); (case kBCJ => k_asm); (case kFCJ => k_asm); (case kXCJ => k_asm); (case kNCJ => k_asm); (case kTCJ => k_asm); (case kfCJ => exact rfl); (case kkCJ => exact rfl); (case khCJ => exact rfl); (case kdCJ => ktr_room); (case kuCJ => ktr_units); intro hv tkv xv tv dv Fv Nv lv lt; refine ⟨xv, tv, dv, rfl, Frag.In.keeps (by k_asm) (Fr.keep (by assumption)), (Nv _ (.head _)).1, ?_⟩; show wpAny _ _ (leaving _ _) _ _ _; refine leave_fault (by assumption) Fv Nv (fun p hp => Nat.ne_of_lt (lv p hp)) (fun p hp => Nat.ne_of_lt (lt p hp)) rfl (fun h9 R9 U9 => ?_); exact raise_end (by assumption) (by k_extra "my none") (by assumption) R9 U9 (by k_extra "my sub")))
  k_with "joinParts" => ((k_here; first
      | ((with_reducible refine joinParts_consE ?_); (with_reducible refine' joinParts_gen ?hoCK ?hnCK ?_); (case hoCK => first | assumption | exact (show Str.empty.length ≤ 0 from by decide +kernel)); (case hnCK => exact Nat.le_of_ble_eq_true rfl))
      | ((with_reducible show wpAny _ _ (joinParts _ (_ :: _)) _ _ _); (with_reducible refine' joinParts_gen ?hoCK ?hnCK ?_); (case hoCK => first | assumption | exact (show Str.empty.length ≤ 0 from by decide +kernel)); (case hnCK => exact Nat.le_of_ble_eq_true rfl))
      | ((try with_reducible refine joinParts_nilE ?_); (with_reducible refine' joinParts_last ?hoCK ?hnCK ?_); (case hoCK => assumption); (case hnCK => exact Nat.le_of_ble_eq_true rfl); intro msg' hmsg')))
  k_with "StrPart" => ((k_here; (with_unfolding_all refine StrPart.intro ?hyCL ?_); (case hyCL => first | omega | decide +kernel | exact int_text30 (by omega)); intro out' hout'))
  k_with "formatField str" => ((k_here; (with_reducible show wpAny _ _ (formatField (Value.str _ _) Str.empty) _ _ _); (refine formatField_str ?_ (by rw [sizeLine_eq]; omega)); intro _ _))
  trivial
theorem w66a : True := by
  k_with "my k_enter" => (first | k_extra "my enter" | k_extra "my enterC")
  trivial
abbrev natObj (w : World) (t1 t2 : Tok) (most : Nat) : Obj := dictOf [{ hash := PyData.keyHash w.params (Str.ofString "most"), key := Value.str (Str.ofString "most") t1, val := Value.int (most : Int) t2 }] 1
def Tm.ev (e : Ev) (most : Nat) : Tm → Option Nat
  | .nm n => some (n.val e)
  | .suc t => match t.ev e most with
    | some a => if a + 1 ≤ most then some (a + 1) else none
    | none => none
  | .plus t u => match t.ev e most, u.ev e most with
    | some a, some b => if a + b ≤ most then some (a + b) else none
    | _, _ => none
  | .times t u => match t.ev e most, u.ev e most with
    | some a, some b => if a * b ≤ most then some (a * b) else none
    | _, _ => none
section
variable {e : Ev} {most : Nat} {t r : Tm} {a b n : Nat}
theorem ev_suc_n1 (h : t.ev e most = none) : (Tm.suc t).ev e most = none := by simp only [Tm.ev, h]
theorem ev_suc_n2 (h : t.ev e most = some a) (hm : (most : Int) < (a : Int) + 0 + 1) : (Tm.suc t).ev e most = none := by simp only [Tm.ev, h]; exact if_neg (Nat.not_le.mpr ((@Int.ofNat_lt most (a + 1)).mp hm))
theorem ev_suc_s (h : t.ev e most = some a) (hm : ¬ (most : Int) < (a : Int) + 0 + 1) : (Tm.suc t).ev e most = some (a + 1) := by simp only [Tm.ev, h]; exact if_pos (Nat.not_lt.mp fun l => hm ((@Int.ofNat_lt most (a + 1)).mpr l))
theorem ev_plus_n1 (h : t.ev e most = none) : (Tm.plus t r).ev e most = none := by simp only [Tm.ev, h]
theorem ev_plus_n2 (h : r.ev e most = none) : (Tm.plus t r).ev e most = none := by simp only [Tm.ev, h]; split <;> simp_all
theorem ev_plus_n3 (h : t.ev e most = some a) (h2 : r.ev e most = some b) (hm : (most : Int) < (a : Int) + ((b : Int) + 0) + 0) : (Tm.plus t r).ev e most = none := by simp only [Tm.ev, h, h2]; exact if_neg (Nat.not_le.mpr ((@Int.ofNat_lt most (a + b)).mp hm))
theorem ev_plus_s (h : t.ev e most = some a) (h2 : r.ev e most = some b) (hm : ¬ (most : Int) < (a : Int) + ((b : Int) + 0) + 0) : (Tm.plus t r).ev e most = some (a + b) := by simp only [Tm.ev, h, h2]; exact if_pos (Nat.not_lt.mp fun l => hm ((@Int.ofNat_lt most (a + b)).mpr l))
theorem ev_times_n1 (h : t.ev e most = none) : (Tm.times t r).ev e most = none := by simp only [Tm.ev, h]
theorem ev_times_n2 (h : r.ev e most = none) : (Tm.times t r).ev e most = none := by simp only [Tm.ev, h]; split <;> simp_all
theorem ev_times_n3 (h : t.ev e most = some a) (h2 : r.ev e most = some b) (hm : (most : Int) < (a : Int) * (b : Int)) : (Tm.times t r).ev e most = none := by
  simp only [Tm.ev, h, h2]; exact if_neg (Nat.not_le.mpr ((@Int.ofNat_lt most (a * b)).mp hm))
theorem ev_times_s (h : t.ev e most = some a) (h2 : r.ev e most = some b) (hm : ¬ (most : Int) < (a : Int) * (b : Int)) : (Tm.times t r).ev e most = some (a * b) := by
  simp only [Tm.ev, h, h2]; exact if_pos (Nat.not_lt.mp fun l => hm ((@Int.ofNat_lt most (a * b)).mpr l))
theorem ev_le (he : e.ok) (hm : most ≤ 1000000) (h : t.ev e most = some n) : n ≤ 1000003 := by
  cases t with
  | nm x => have := x.val_le he; simp only [Tm.ev, Option.some.injEq] at h; exact h ▸ o1 this rfl
  | suc t => simp only [Tm.ev] at h; split at h <;> (try split at h) <;> simp_all <;> first | exact Nat.le_trans ‹n ≤ most› (o1 ‹most ≤ 1000000› rfl) | omega
  | plus t u => simp only [Tm.ev] at h; split at h <;> (try split at h) <;> simp_all <;> first | exact Nat.le_trans ‹n ≤ most› (o1 ‹most ≤ 1000000› rfl) | omega
  | times t u => simp only [Tm.ev] at h; split at h <;> (try split at h) <;> simp_all <;> first | exact Nat.le_trans ‹n ≤ most› (o1 ‹most ≤ 1000000› rfl) | omega
end
def ValueSpec (w : World) (R : List (Addr × Obj) → Value → Prop) (o : Option Nat) (most : Nat) (e : Ev) (d : Nat) : Prop :=
  ∀ {mean : ExcName → Option Value} {mg mb : Str → Option Value}
    {dp un : Nat} {gd : Option (List Code)} {cn : Str} {cs : Scope} {a : Addr} {ccd : Value} {cl : List (Str × Addr)} {outer : List Env} {A₀ : Around} {base h₀ : Heap} {L : Addr} {m : Str → Option Value} {news : List (Addr × Obj)} {s : Shared}
    {Q E : Value → Shared → Prop}
    {v : Value} {de na nd : Addr} {oe : Obj} {t1 t2 t3 t4 t5 t6 t7 t8 : Tok}
    (_ : Below A₀ base outer h₀) (_ : Fr h₀ L s.heap m) (_ : (hd.heap_1 w.params).In h₀) (_ : News h₀ L s.heap news)
    (_ : Top view LO mean mg mb h₀) (_ : cs.kind = .function)
    (_ : R news v) (_ : (de, oe) ∈ news) (_ : (de == sysModules) = false)
    (_ : Obj.IsDictOf (PySem.strKind PySem.Challenge.rw_pq0002_01.row.prog w) oe (strPairs (envKV e t1 t2 t3 t4 t5 t6)))
    (_ : PyProof.V.FlatPairs PyData.str (strPairs (envKV e t1 t2 t3 t4 t5 t6)) (strData (envKV e t1 t2 t3 t4 t5 t6)))
    (_ : (na, instObj 167 nd) ∈ news) (_ : (nd, natObj w t7 t8 most) ∈ news)
    (_ : d ≤ 40) (_ : dp + 5 * d < 760) (_ : un + 20 * d < 3700)
    (_ : ∀ n t1' h' tk', o = some n → Fr h₀ L h' m → News h₀ L h' news → Q (.int (n : Nat) t1') { s with heap := h', toks := tk' })
    (_ : RaiseTo (o = none) base h₀ L m (envX cn cs L a ccd cl :: outer) news s E),
    wpAny (model PySem.Challenge.rw_pq0002_01.row.prog w) (ktrTop dp un gd cn cs L a ccd cl outer) (call (.ref 164) [.ref na, v, .ref de]) Q E s
def TmR (t : Tm) : List (Addr × Obj) → Value → Prop := fun news v => TmIn news v t
def ValFor (w : World) (most : Nat) (e : Ev) (P : Tm → Prop) : Prop := ∀ {q}, P q → ValueSpec w (TmR q) (q.ev e most) most e q.depth
theorem w66b : True := by
  k_with "execs cons" => (((with_reducible refine wpAny_execs_cons ?_); try dsimp only))
  k_with "execs nil" => ((with_reducible refine wpAny_execs_nil ?_))
  k_with "exec Assign cons ListComp" => ((k_here; (with_reducible show wpAny _ _ (exec (Stmt.Assign [Expr.Name _ _] (Expr.ListComp _ [⟨Expr.Name _ _, Expr.Subscript _ (Expr.Slice _ _ _ _) _, [], 0⟩] _ _) _) _) _ _ _); k_dflt (refine comp_tup_assignE (by k_asm) (by k_asm) (by rfl) (by rfl) (by rfl) (by with_unfolding_all rfl) (by with_unfolding_all rfl) (by decide) (by rfl) (by decide) (by rfl) (by rfl) (by rfl) ?_)))
  trivial
def opsD : List PyData := [.tuple [.str (Str.ofString "succ"), .int 2], .tuple [.str (Str.ofString "plus"), .int 3], .tuple [.str (Str.ofString "times"), .int 3]]
theorem opsD_ok : PyData.canLayAll0 opsD = true := by decide +kernel
theorem notin_ops {prog : Program} {w : World} {A : Around} {E : Value → Shared → Prop} {s : Shared} {h₀ : Heap} {L x c p1 p2 p3 : Addr} {all : List (Addr × Obj)} {Q : Value → Shared → Prop} {op : Str} {k : Int} {n0 n1 n2 n3 n4 : Nat} {u1 u2 u3 u4 u5 u6 u7 u8 : Tok} (b : Bool)
    (N : News h₀ L s.heap all) (hx : (x, tupObj #[.str op u1, .int k u2] n0) ∈ all) (hc : (c, tupObj #[.ref p1, .ref p2, .ref p3] n4) ∈ all)
    (h1 : (p1, tupObj #[.str (Str.ofString "succ") u3, .int 2 u4] n1) ∈ all) (h2 : (p2, tupObj #[.str (Str.ofString "plus") u5, .int 3 u6] n2) ∈ all) (h3 : (p3, tupObj #[.str (Str.ofString "times") u7, .int 3 u8] n3) ∈ all)
    (hd : PyData.canLay0 (.tuple [.str op, .int k]) = true) (hb : (!opsD.any fun y => PyData.eqv y (.tuple [.str op, .int k])) = b) (hu : A.units + 64 < cLine) (h : Q (.bool b) s) : wpAny (model prog w) A (compareOp .NotIn (.ref x) (.ref c)) Q E s := by
  refine SeqAt.notIn_tuple_reads (xs := opsD) (reads_tuple_at (N _ hc).1 rfl rfl (.cons (reads_tuple_at (N _ h1).1 rfl rfl (.cons (.str _ _) (.cons (.int _ _) .nil))) (.cons (reads_tuple_at (N _ h2).1 rfl rfl (.cons (.str _ _) (.cons (.int _ _) .nil))) (.cons (reads_tuple_at (N _ h3).1 rfl rfl (.cons (.str _ _) (.cons (.int _ _) .nil))) .nil))))
    (reads_tuple_at (N _ hx).1 rfl rfl (.cons (.str _ _) (.cons (.int _ _) .nil))) opsD_ok hd ?_ (by rw [hb]; exact h)
  have := Nat.min_le_left (PyData.depthAll opsD) (PyData.tuple [.str op, .int k]).depth
  have e : PyData.depthAll opsD ≤ 10 := by decide +kernel
  rw [Nat.add_assoc]; exact Nat.lt_of_le_of_lt (Nat.add_le_add_left (o8 (Nat.le_trans this e) rfl) _) hu
theorem w66c : True := by
  k_with "compareOp NotIn" => ((k_here; (with_reducible show wpAny _ _ (compareOp CmpOp.NotIn (Value.ref _) (Value.ref _)) _ _ _); k_dflt (first
      | (refine' notin_ops false ?NCS ?aCS ?bCS ?cCS ?dCS ?eCS ?fCS ?gCS ?iCS ?_; (case NCS => k_asm); (case aCS => k_mem); (case bCS => k_mem); (case cCS => k_mem); (case dCS => k_mem); (case eCS => k_mem); (case fCS => first | exact opOf_lay | decide +kernel); (case gCS => first | exact opOf_ops | decide +kernel); (case iCS => ktr_units); k_whole)
      | (refine' notin_ops true ?NCS ?aCS ?bCS ?cCS ?dCS ?eCS ?fCS ?gCS ?iCS ?_; (case NCS => k_asm); (case aCS => k_mem); (case bCS => k_mem); (case cCS => k_mem); (case dCS => k_mem); (case eCS => k_mem); (case fCS => decide +kernel); (case gCS => decide +kernel); (case iCS => ktr_units); k_whole))))
  k_with "my heldE" => ((intro er9 h9 tk9 p9 U9; show wpAny _ _ (leaving _ _) _ _ _; refine leave_upF (by assumption) rfl U9 (fun h8 x8 t8 vs8 e8 R8 V8 => ?_); subst e8; exact raise_end (by assumption) p9 (by assumption) R8 V8 (fun _ h => h)))
  k_with "TupSrcE" => ((k_here; k_dflt (first
      | refine TupSrcE.of (by assumption) (by rfl) (by k_asm) (by k_asm) (by k_mem) (by first | size_fits | exact Nat.le_of_ble_eq_true rfl) 1 (by rfl) ?hKCU ?hECU ?_
      | refine TupSrcE.of (by assumption) (by rfl) (by k_asm) (by k_asm) (by k_mem) (by first | size_fits | exact Nat.le_of_ble_eq_true rfl) 2 (by rfl) ?hKCU ?hECU ?_); (case hKCU => k_extra "my sub"); (case hECU => k_extra "my heldE"); intro g'))
  k_with "RestE" => ((with_unfolding_all first
      | (refine RestE.at (fun v9 h9 => (Option.some.inj h9).symm) ?_; intro I' oI' C' oC' D' m' h' tk' hT' hC' hx' F' N' off' ne'; have offM := off'.mem; clear off')
      | (refine RestE.succ ?_; intro v' I' oI' C' oC' D' m' h' tk' hT' hv' hC' hx' F' N' off' ne'; have offM := off'.mem; lcg_open hv'; clear off')
      | refine RestE.zero ?_))
  k_with "EndT" => ((k_here; (refine EndT.intro (by assumption) (by assumption) ?offCW ?srcCW ?_; (case offCW => k_extra "my off"); (case srcCW => ((try dsimp only); refine ⟨by k_mem, ?_⟩; k_extra "my sub")))))
  k_with "FinAT" => (((unfold FinAT); intro D' h' tk' hT' F' N' o1'; replace o1' := off1_mem o1'; (try dsimp only [List.nil_append, List.cons_append] at o1'); (try dsimp only [List.nil_append, List.cons_append] at N'); (try dsimp only)))
  k_with "my none" => (first
      | exact ev_bin_n1 (by assumption) | exact ev_bin_n2 (by assumption) | exact ev_plus_n1 (by assumption) | exact ev_plus_n2 (by assumption) | exact ev_plus_n3 (by assumption) (by assumption) (by assumption)
      | exact ev_times_n1 (by assumption) | exact ev_times_n2 (by assumption) | exact ev_times_n3 (by assumption) (by assumption) (by assumption)
      | exact ev_suc_n1 (by assumption) | exact ev_suc_n2 (by assumption) (by assumption) | exact True.intro)
  k_with "my callE" => ((intro p9 er9 h9 tk9 U9; exact ElE.intro (by k_extra "my none") U9 (fun _ h => h)))
  k_with "my call" => ((k_here; (with_reducible show wpAny _ _ (call (Value.ref 164) [_, _, _]) _ _ _); (with_reducible rename ValFor _ _ _ _ => ih9DA); k_dflt (refine' ih9DA ?ktDA ?k1DA ?k2DA ?k3DA ?k4DA ?k5DA ?kKDA ?k6DA ?k7DA ?k8DA ?k9DA ?k10DA ?k11DA ?k12DA ?k125DA ?k13DA ?k14DA ?_ ?kEDA; (case k1DA => k_asm); (case k2DA => k_asm); (case k3DA => k_asm); (case k4DA => k_asm); (case k5DA => k_asm); (case kKDA => first | exact rfl | assumption); (case k6DA => first | assumption | exact TmIn.mono (by assumption) (by k_extra "my sub")); (case ktDA => first | exact Or.inl rfl | exact Or.inr rfl | exact True.intro); (case k7DA => k_mem); (case k8DA => assumption); (case k9DA => assumption); (case k10DA => assumption); (case k11DA => k_mem); (case k12DA => k_mem); (case k125DA => k_extra "my dep"); (case k13DA => ktr_room); (case k14DA => ktr_units); (case kEDA => k_extra "my callE"); k_whole); intro n' t1' h' tk' ho' F' N'; obtain hb' := ev_le (by assumption) (by assumption) ho'; (try k_sweep)))
  k_with "my nocall" => ((with_reducible show wpAny _ _ (call (Value.ref 164) _ _) _ _ _))
  trivial
theorem opOf_lay {q : Bool} : PyData.canLay0 (.tuple [.str (opOf q), .int 3]) = true := by cases q <;> decide +kernel
theorem opOf_ops {q : Bool} : (!opsD.any fun y => PyData.eqv y (.tuple [.str (opOf q), .int 3])) = false := by cases q <;> decide +kernel
theorem ev_bin_n1 {e : Ev} {most : Nat} {q : Bool} {t r : Tm} (h : t.ev e most = none) : (mkOf q t r).ev e most = none := by cases q; exact ev_times_n1 h; exact ev_plus_n1 h
theorem ev_bin_n2 {e : Ev} {most : Nat} {q : Bool} {t r : Tm} (h : r.ev e most = none) : (mkOf q t r).ev e most = none := by cases q; exact ev_times_n2 h; exact ev_plus_n2 h
theorem w66d : True := by
  k_with "compareOp Eq str str" => ((k_here; (with_reducible show wpAny _ _ (compareOp CmpOp.Eq (Value.str (opOf _) _) (Value.str _ _)) _ _ _); (k_dflt (refine op_times ?_ ?_)); all_goals (intro hq9; subst hq9; (try dsimp only [opOf, mkOf] at *))))
  trivial
theorem val_bin {w : World} {most : Nat} {e : Ev} {q : Bool} {t r : Tm} (IH : ValFor w most e (fun q => q = t ∨ q = r)) (hev : e.ok) (hm0 : most ≤ 1000000) : ValueSpec w (TmR (mkOf q t r)) ((mkOf q t r).ev e most) most e (mkOf q t r).depth := by
  intro mean mg mb dp un gd cn cs a ccd cl outer A₀ base h₀ L m news s Q E v de na nd oe t1 t2 t3 t4 t5 t6 t7 t8 B F X N T hk hin hde hds hdd hdf hna hnd hdp hd hu ret hE
  obtain ⟨sH, sG, sD, sT, sO⟩ := s
  (try dsimp only at F); (try dsimp only at N); (try dsimp only at ret); (try dsimp only at hE)
  simp only [mkOf_depth] at hd hu hdp
  have hdep : (mkOf q t r).depth ≤ 60 := by rw [mkOf_depth]; omega
  unfold TmR at hin
  have hin0 := hin
  obtain ⟨a8, tk8, v8, u8, e8, rfl, hm, ht, hr⟩ := TmIn.bin hin
  clear hin
  have hKM : KMark news ((mkOf q t r).ev e most = none) := True.intro
  have key : ∀ (M : Int) n t1' h' tk', (mkOf q t r).ev e most = some n → M = n → Fr h₀ L h' m → News h₀ L h' news → Ret Q (.int M t1') { heap := h', gens := sG, drawn := sD, toks := tk', os := sO } := fun M n t1' h' tk' ho hM F' N' => by subst hM; exact ret n t1' h' tk' ho F' N'
  replace N := newsCons (newsCons (newsCons (newsCons N hde) (List.mem_cons_of_mem _ hnd)) (List.mem_cons_of_mem _ (List.mem_cons_of_mem _ hna))) (List.mem_cons_of_mem _ (List.mem_cons_of_mem _ (List.mem_cons_of_mem _ hm)))
  refine ret_of (α := Unit) ?_
  refine wpAny_call ?_
  w_strict (k_dflt (k_extra "my enterC"))
  k_extra "my steps"
  all_goals (try dsimp only at *)
  · k_extra "my fault"
  · (rename Fr h₀ L _ m => fX); (rename News h₀ L _ _ => nX); exact key _ _ _ _ _ (ev_plus_s (by assumption) (by assumption) (by assumption)) (by simp) fX (news_of nX (by k_extra "my sub"))
  · k_extra "my fault"
  · (rename Fr h₀ L _ m => fX); (rename News h₀ L _ _ => nX); exact key _ _ _ _ _ (ev_times_s (by assumption) (by assumption) (by assumption)) (by simp) fX (news_of nX (by k_extra "my sub"))
theorem val_suc {w : World} {most : Nat} {e : Ev} {t : Tm} (IH : ValFor w most e (fun q => q = t ∨ q = t)) (hev : e.ok) (hm0 : most ≤ 1000000) : ValueSpec w (TmR (Tm.suc t)) ((Tm.suc t).ev e most) most e (Tm.suc t).depth := by
  intro mean mg mb dp un gd cn cs a ccd cl outer A₀ base h₀ L m news s Q E v de na nd oe t1 t2 t3 t4 t5 t6 t7 t8 B F X N T hk hin hde hds hdd hdf hna hnd hdp hd hu ret hE
  obtain ⟨sH, sG, sD, sT, sO⟩ := s
  (try dsimp only at F); (try dsimp only at N); (try dsimp only at ret); (try dsimp only at hE)
  simp only [Tm.depth] at hd hu hdp
  have hdep : (Tm.suc t).depth ≤ 60 := by simp only [Tm.depth]; omega
  unfold TmR at hin
  have hin0 := hin
  cases hin with | suc hm ht =>
  have hKM : KMark news ((Tm.suc t).ev e most = none) := True.intro
  have key : ∀ (M : Int) n t1' h' tk', (Tm.suc t).ev e most = some n → M = n → Fr h₀ L h' m → News h₀ L h' news → Ret Q (.int M t1') { heap := h', gens := sG, drawn := sD, toks := tk', os := sO } := fun M n t1' h' tk' ho hM F' N' => by subst hM; exact ret n t1' h' tk' ho F' N'
  replace N := newsCons (newsCons (newsCons (newsCons N hde) (List.mem_cons_of_mem _ hnd)) (List.mem_cons_of_mem _ (List.mem_cons_of_mem _ hna))) (List.mem_cons_of_mem _ (List.mem_cons_of_mem _ (List.mem_cons_of_mem _ hm)))
  refine ret_of (α := Unit) ?_
  refine wpAny_call ?_
  w_strict (k_dflt (k_extra "my enterC"))
  k_extra "my steps"
  all_goals (try dsimp only at *)
  all_goals first | k_extra "my fault" | ((rename Fr h₀ L _ m => fX); (rename News h₀ L _ _ => nX); exact key _ _ _ _ _ (ev_suc_s (by assumption) (by assumption)) (by simp) fX (news_of nX (by k_extra "my sub")))
theorem w67 : True := by
  w_top off
  k_with_none
  k_with "my k_all" => (k_dflt (first | assumption | exact all_ne_sub9 (by assumption) (by k_extra "my sub") | exact all_ne_u0 (by assumption) (by k_extra "my sub") | exact all_ne_u1 (by assumption) (by k_extra "my sub") | exact all_ne_u2 (by assumption) (by k_extra "my sub") | exact all_ne_u3 (by assumption) (by k_extra "my sub") | exact all_ne_u4 (by assumption) (by k_extra "my sub") | (refine List.forall_mem_append.mpr ⟨?_, ?_⟩ <;> k_all)))
  k_with "my ktr_room" => (((try simp only [depth_under_make, depth_under_kw, depth_in1, depth_deeper, depth_caller]); (try dsimp only [ktrTop]); (try simp only [recursionLimit]); k_extra "my room"))
  k_with "my room" => (first | exact Nat.le_of_ble_eq_true rfl | exact rm0 hd rfl | exact rm1 hd rfl | exact rm5 hd rfl | exact rm6 hd rfl | exact rm4 hd rfl | exact rm2 hd rfl | exact rm3 hd rfl | exact rm7 hd rfl | exact rm8 (by assumption) rfl | omega)
  k_with "my units" => (first | exact Nat.le_of_ble_eq_true rfl | exact rm0 hu rfl | exact rm1 hu rfl | exact rm5 hu rfl | exact rm6 hu rfl | exact rm4 hu rfl | exact rm2 hu rfl | exact rm3 hu rfl | exact rm7 hu rfl | exact rm8 (by assumption) rfl | exact um1 hu rfl | exact um2 hu rfl | exact um3 hu rfl | exact um4 hu rfl | exact um5 hu rfl | (have hcL9 := cLine_is; omega))
  k_with "my dep" => (first | assumption | exact dm1 hdp | exact dm2 hdp | exact dm0 hdp | omega)
  k_with "my ktr_units" => (((try simp only [units_in1, units_deeper, Around.mark_units, units_caller]); (try dsimp only [ktrTop]); k_extra "my units"))
  k_with "my k_room" => (ktr_room)
  k_with "my k_units" => (ktr_units)
  k_with "my units_room" => (ktr_units)
  k_with "compareOp Eq ref ref" => ((k_here; (with_reducible show wpAny _ _ (compareOp CmpOp.Eq (Value.ref _) (Value.ref _)) _ _ _); first
      | refine' eq_zero_f (by assumption) (by assumption) (by k_extra "my sub") (by k_mem) (by first | rfl | exact mkOf_zero) (by omega) (by ktr_units) ?_
      | refine' eq_zero_t (by assumption) (by assumption) (by k_extra "my sub") (by k_mem) rfl (by omega) (by ktr_units) ?_))
  k_with "my k_ne" => (k_dflt (first | exact off_I (by assumption) (by k_mem) | exact off_C (by assumption) (by k_mem) | exact off_D (by assumption) (by k_mem) | assumption | exact ne_gt9 (by assumption) (by k_mem) | exact ne_lt9 (by assumption) (by k_mem) | exact ne_all9 (by assumption) (by k_mem) | exact ne_all9s (by assumption) (by k_mem) | exact ne_gt_u1 (by assumption) (by k_mem) | exact ne_lt_u1 (by assumption) (by k_mem) | exact ne_gt_u2 (by assumption) (by k_mem) | exact ne_lt_u2 (by assumption) (by k_mem) | exact ne_gt_u3 (by assumption) (by k_mem) | exact ne_lt_u3 (by assumption) (by k_mem) | exact ne_gt_u4 (by assumption) (by k_mem) | exact ne_lt_u4 (by assumption) (by k_mem)))
  k_with "my off" => (first | exact True.intro | (refine And.intro (off_at (by assumption) (by k_mem)) ?_; k_extra "my off") | (refine Off3.append ?_ ?_ <;> k_extra "my off") | (refine Off3.of_sub (by assumption) (fun p hp => ?_); simp only [List.mem_cons, List.mem_append, hp, true_or, or_true]; done) | (refine Off3.of_lt (by assumption) (by k_mem) (by k_mem) (by k_mem)))
  k_with "CompSrc" => ((k_here; k_dflt (refine LCg.CompSrc.range (by rfl) (by k_asm) (by k_asm) (by with_reducible assumption) (by first | decide | rfl) (by first | rfl | decide) (by first | size_fits | exact Nat.le_of_ble_eq_true rfl) ?_; intro g'; lcg_lit)))
  k_with "CompRest" => ((with_unfolding_all first
      | (refine CompRest_at (fun v9 h9 => (Option.some.inj h9).symm) ?_; intro I' oI' C' oC' D' m' h' tk' E' hC' hx' F' N' off' ne'; have offM := off'.mem; clear off')
      | (refine CompRest_ex (fun v9 h9 => h9) ?_; intro t9' I' oI' C' oC' D' m' h' tk' E' hC' hx' F' N' off' ne'; have offM := off'.mem; clear off')
      | (refine LCg.CompRest.succ ?_; intro v' I' oI' C' oC' D' m' h' tk' E' hv' hC' hx' F' N' off' ne'; have offM := off'.mem; (first | lcg_open hv' | (obtain ⟨t9', hv9'⟩ := hv'; subst hv9')); clear off')
      | refine LCg.CompRest.zero ?_))
  k_with "CompEnd" => ((k_here; (refine LCg.CompEnd.intro (by assumption) (by assumption) _ (fun p hp => hp) ?offAO ?srcAO ?_; (case offAO => k_extra "my off"); (case srcAO => first | lcg_src | ((try dsimp only); k_mem)))))
  k_with "my enter" => ((refine' code_def ?k1AP ?k2AP ?k3AP ?k4AP ?k5AP ?kAAP ?kFAP ?kKAP ?k6AP ?k7AP ?k8AP ?k9AP ?kBAP ?_ ?c2AP ?c3AP ?c4AP ?c5AP; (case kAAP => exact rfl); (case kFAP => exact rfl); (case kKAP => first | exact rfl | assumption); (case k1AP => k_asm); (case k2AP => k_asm); (case k3AP => k_asm); (case k4AP => k_asm); (case k5AP => k_asm); (case k6AP => k_is); (case k7AP => k_is); (case k8AP => ktr_room); (case k9AP => exact BindsTo.of_eq rfl); (case c5AP => decide); (case kBAP => exact locs rfl); (case c2AP => exact rfl); (case c3AP => exact rfl); (case c4AP => exact rfl); k_whole; intro g' L' h' FG' F' N' B' X' T'; (try dsimp only); (try k_fold)))
  k_with "my enterC" => ((refine' code_defC ?k1AQ ?k2AQ ?k3AQ ?k4AQ ?k5AQ ?kAAQ ?kFAQ ?kKAQ ?k6AQ ?k7AQ ?k8AQ ?k9AQ ?kBAQ ?kDAQ ?_ ?c2AQ ?c3AQ ?c4AQ; (case kAAQ => exact rfl); (case kFAQ => exact rfl); (case kKAQ => first | exact rfl | assumption); (case k1AQ => k_asm); (case k2AQ => k_asm); (case k3AQ => k_asm); (case k4AQ => k_asm); (case k5AQ => k_asm); (case k6AQ => k_is); (case k7AQ => k_is); (case k8AQ => ktr_room); (case k9AQ => exact BindsTo.of_eq rfl); (case kBAQ => exact rfl); (case kDAQ => decide +kernel); (case c2AQ => exact rfl); (case c3AQ => exact rfl); (case c4AQ => exact rfl); k_whole; intro g' L' h' tk' cells' FG' F'; (first | (refine cells_in1 ?_; intro o' d1' N') | (refine cells_in2 ?_; intro o' o2' d1' d2' N') | (refine cells_in3 ?_; intro o' o2' o3' d1' d2' d3' N') | (refine cells_in4 ?_; intro o' o2' o3' o4' d1' d2' d3' d4' N')); intro B' X' T' l1; (try k_lt l1); (try dsimp only); (try k_fold)))
  k_with "eval ListComp" => ((k_here; (with_reducible show wpAny _ _ (eval (Expr.ListComp _ [⟨Expr.Name _ _, Expr.Subscript _ (Expr.Slice (some _) _ _ _) _, [], 0⟩] _ _) _) _ _ _); k_dflt (refine comp_tup (by k_asm) (by with_unfolding_all rfl) (by decide) (by rfl) (by decide) (by rfl) ?_)))
  k_with "exec Assign cons ListComp" => ((k_here; (with_reducible show wpAny _ _ (exec (Stmt.Assign [Expr.Name _ _] (Expr.ListComp _ [⟨Expr.Name _ _, Expr.Subscript _ (Expr.Slice (some _) _ _ _) _, [], 0⟩] _ _) _) _) _ _ _); k_dflt (refine comp_tup_assign (by k_asm) (by rfl) (by with_unfolding_all rfl) (by with_unfolding_all rfl) (by decide) (by rfl) (by decide) (by rfl) (by rfl) (by rfl) ?_)))
  k_with "subscriptTail Name Slice ref ref" => ((k_here; (with_reducible show wpAny _ _ (subscriptTail _ (PySem.Expr.Slice (some _) none none _) (Value.ref _) (Value.ref _)) _ _ _); k_dflt (refine' slice_tup1 ?FAT ?NAT ?lAT ?pAT ?eAT ?_ ?sAT ?tAT ?zAT; (case FAT => k_asm); (case NAT => k_asm); (case lAT => k_mem); (case pAT => exact Nat.le_of_ble_eq_true rfl); (case eAT => kl_lit); (case sAT => with_unfolding_all rfl); (case tAT => kmk_pure); (case zAT => kmk_size)); intro D' h' F' N' l1; (try k_lt l1); (try k_sweep)))
  k_with "TupSrc" => ((k_here; k_dflt (refine TupSrc.of (by rfl) (by k_asm) (by k_asm) (by k_mem) (by first | size_fits | exact Nat.le_of_ble_eq_true rfl) ?_; intro g'; lcg_lit)))
  k_with "my steps" => (repeat' ((fail_if_success (with_reducible show Ret _ _ _)); first | ((with_reducible show wpAny _ _ (call (Value.ref _) _ _) _ _ _); k_extra "my call") | ((fail_if_success ((with_reducible show wpAny _ _ (call (Value.ref _) _ _) _ _ _); k_extra "my nocall")); first | (k_unfold; (try dsimp only)) | walk1 | (dsimp only; walk1) | (leave1; walk_say "STEP leave1"; try dsimp only))))
  k_with "my sub" => (first | (with_reducible exact sub_self _) | (with_reducible refine sub_cons ?_; k_extra "my sub") | (with_reducible refine sub_left ?_; k_extra "my sub") | (with_reducible refine sub_right ?_; k_extra "my sub") | (intro p hp; simp only [List.mem_cons, List.mem_append, hp, true_or, or_true]; done))
  k_with "my ord" => (k_dflt (first | assumption | exact lt_all (by assumption) (by k_mem) | exact lt_all_u1 (by assumption) (by k_mem) | exact lt_all_u2 (by assumption) (by k_mem) | omega))
  k_with "my allLt" => (first | exact allLt_of (by assumption) | exact allLt_sub (by assumption) (by k_extra "my sub") | tbn_find)
  k_with "FinE" => (((unfold LCg.FinE); intro D' h' tk' F' N' o1'; replace o1' := off1_mem o1'; (try dsimp only [List.nil_append, List.cons_append] at N'); (try dsimp only [List.nil_append, List.cons_append] at o1'); (try dsimp only)))
  k_with "FinA" => (((unfold LCg.FinA); intro D' h' tk' F' N' o1'; replace o1' := off1_mem o1'; (try dsimp only [List.nil_append, List.cons_append] at N'); (try dsimp only [List.nil_append, List.cons_append] at o1'); (try dsimp only)))
  k_with "my omega" => (first
      | ((with_reducible show @LE.le Nat _ _ _); first | exact Nat.le_of_ble_eq_true rfl | with_reducible (first | exact o1 ‹_› (by decide) | exact o4 ‹_› (by decide) | exact o7 ‹_› (by decide) | exact o8 ‹_› (by decide) | exact o9 ‹_› (by decide) | exact q6 ‹_› (by decide) | exact q0 ‹_› (by decide) | exact r0 ‹_› (by decide) | exact q1 ‹_› ‹_› (by decide) | exact q3 ‹_› ‹_› (by decide) | exact q7 ‹_› ‹_› (by decide) | exact q8 ‹_› ‹_› (by decide) | exact q9 ‹_› ‹_› | exact r1 ‹_› ‹_› (by decide) | exact r2 ‹_› ‹_› | exact r4 ‹_› ‹_› | exact r8 ‹_› ‹_› (by decide) | exact o0 ‹_› (by decide) | exact Nat.add_le_add ‹_› ‹_› | exact Nat.le_add_left _ _ | exact Nat.le_of_lt ‹_›))
      | ((with_reducible show @LT.lt Nat _ _ _); first | exact Nat.le_of_ble_eq_true rfl | with_reducible (first | exact o2 ‹_› (by decide) | exact o3 ‹_› (by decide) | exact o5 ‹_› (by decide) | exact o6 ‹_› (by decide) | exact p5 ‹_› (by decide) | exact j6 ‹_› (by decide) | exact q2 ‹_› ‹_› (by decide) | exact q4 ‹_› ‹_› (by decide) | exact q5 ‹_› ‹_› (by decide) | exact p1 ‹_› ‹_› (by decide) | exact p2 ‹_› ‹_› (by decide) | exact p3 ‹_› ‹_› (by decide) | exact p4 ‹_› ‹_› (by decide) | exact p6 ‹_› ‹_› (by decide)))
      | ((with_reducible show @LE.le Int _ _ _); first | decide +kernel | with_reducible (first | exact i1 ‹_› | exact i2 ‹_› | exact i6 | exact i7 | exact j7 ‹_› | exact j4 ‹_› (by decide +kernel) | exact i8 ‹_› (by decide +kernel) | exact i9 ‹_› (by decide +kernel) | exact i3 ‹_› ‹_› | exact i4 ‹_› ‹_› | exact i5 ‹_› ‹_›))
      | ((with_reducible show @LT.lt Int _ _ _); first | decide +kernel | with_reducible (first | exact j1 ‹_› | exact j5 (by decide +kernel) | exact j3 ‹_› (by decide +kernel) | exact j8 ‹_› (by decide +kernel) | exact j9 ‹_› (by decide +kernel) | exact l1 ‹_› (by decide +kernel) | exact l2 ‹_› (by decide +kernel) | exact l3 ‹_› (by decide +kernel) | exact j0 ‹_› ‹_› (by decide +kernel)))
      | ((with_reducible show @Ne Nat _ _); with_reducible (first | exact Nat.ne_of_gt ‹_› | exact Nat.ne_of_lt ‹_› | exact Nat.succ_ne_self _ | exact (Nat.succ_ne_self _).symm))
      | with_reducible (first | exact j2 ‹_› | exact z4 ‹_› ‹_› | exact z6 ‹_› ‹_› | exact z3 ‹_› | exact z2 ‹_› ‹_›))
  k_with "my x_close" => ((refine EndX.use (by assumption) ?_; exact ⟨_, rfl, by assumption⟩))
  k_with "exec Raise some none" => ((k_here; (with_reducible show wpAny _ _ (exec (Stmt.Raise (some (Expr.Call (Expr.Name _ _) (_ :: _) [] _)) none _) _) _ _ _); k_dflt (refine raise_fault (w := ‹World›) rfl ?_)))
  k_with "my fault" => (((with_reducible show wpAny _ _ (call (Value.ref 60) [Value.str _ _]) _ _ _); refine' fault_make ?kBCJ ?kFCJ ?kXCJ ?kNCJ ?kTCJ ?kACJ ?kfCJ ?kkCJ ?khCJ ?kdCJ ?kuCJ ?_; (case kACJ => exact rfl); (case kBCJ => k_asm); (case kFCJ => k_asm); (case kXCJ => k_asm); (case kNCJ => k_asm); (case kTCJ => k_asm); (case kfCJ => exact rfl); (case kkCJ => exact rfl); (case khCJ => exact rfl); (case kdCJ => ktr_room); (case kuCJ => ktr_units); intro hv tkv xv tv dv Fv Nv lv lt; refine ⟨xv, tv, dv, rfl, Frag.In.keeps (by k_asm) (Fr.keep (by assumption)), (Nv _ (.head _)).1, ?_⟩; show wpAny _ _ (leaving _ _) _ _ _; refine leave_fault (by assumption) Fv Nv (fun p hp => Nat.ne_of_lt (lv p hp)) (fun p hp => Nat.ne_of_lt (lt p hp)) rfl (fun h9 R9 U9 => ?_); exact raise_end (by assumption) (by k_extra "my none") (by assumption) R9 U9 (by k_extra "my sub")))
  k_with "joinParts" => ((k_here; first
      | ((with_reducible refine joinParts_consE ?_); (with_reducible refine' joinParts_gen ?hoCK ?hnCK ?_); (case hoCK => first | assumption | exact (show Str.empty.length ≤ 0 from by decide +kernel)); (case hnCK => exact Nat.le_of_ble_eq_true rfl))
      | ((with_reducible show wpAny _ _ (joinParts _ (_ :: _)) _ _ _); (with_reducible refine' joinParts_gen ?hoCK ?hnCK ?_); (case hoCK => first | assumption | exact (show Str.empty.length ≤ 0 from by decide +kernel)); (case hnCK => exact Nat.le_of_ble_eq_true rfl))
      | ((try with_reducible refine joinParts_nilE ?_); (with_reducible refine' joinParts_last ?hoCK ?hnCK ?_); (case hoCK => assumption); (case hnCK => exact Nat.le_of_ble_eq_true rfl); intro msg' hmsg')))
  k_with "StrPart" => ((k_here; (with_unfolding_all refine StrPart.intro ?hyCL ?_); (case hyCL => first | omega | decide +kernel | exact int_text30 (by omega)); intro out' hout'))
  k_with "formatField str" => ((k_here; (with_reducible show wpAny _ _ (formatField (Value.str _ _) Str.empty) _ _ _); (refine formatField_str ?_ (by rw [sizeLine_eq]; omega)); intro _ _))
  k_with "exec Assign cons ListComp" => ((k_here; (with_reducible show wpAny _ _ (exec (Stmt.Assign [Expr.Name _ _] (Expr.ListComp _ [⟨Expr.Name _ _, Expr.Subscript _ (Expr.Slice _ _ _ _) _, [], 0⟩] _ _) _) _) _ _ _); k_dflt (refine comp_tup_assignE (by k_asm) (by k_asm) (by rfl) (by rfl) (by rfl) (by with_unfolding_all rfl) (by with_unfolding_all rfl) (by decide) (by rfl) (by decide) (by rfl) (by rfl) (by rfl) ?_)))
  k_with "my heldE" => ((intro er9 h9 tk9 p9 U9; show wpAny _ _ (leaving _ _) _ _ _; refine leave_upF (by assumption) rfl U9 (fun h8 x8 t8 vs8 e8 R8 V8 => ?_); subst e8; exact raise_end (by assumption) p9 (by assumption) R8 V8 (fun _ h => h)))
  k_with "TupSrcE" => ((k_here; k_dflt (first
      | refine TupSrcE.of (by assumption) (by rfl) (by k_asm) (by k_asm) (by k_mem) (by first | size_fits | exact Nat.le_of_ble_eq_true rfl) 1 (by rfl) ?hKCU ?hECU ?_
      | refine TupSrcE.of (by assumption) (by rfl) (by k_asm) (by k_asm) (by k_mem) (by first | size_fits | exact Nat.le_of_ble_eq_true rfl) 2 (by rfl) ?hKCU ?hECU ?_); (case hKCU => k_extra "my sub"); (case hECU => k_extra "my heldE"); intro g'))
  k_with "RestE" => ((with_unfolding_all first
      | (refine RestE.at (fun v9 h9 => (Option.some.inj h9).symm) ?_; intro I' oI' C' oC' D' m' h' tk' hT' hC' hx' F' N' off' ne'; have offM := off'.mem; clear off')
      | (refine RestE.succ ?_; intro v' I' oI' C' oC' D' m' h' tk' hT' hv' hC' hx' F' N' off' ne'; have offM := off'.mem; lcg_open hv'; clear off')
      | refine RestE.zero ?_))
  k_with "EndT" => ((k_here; (refine EndT.intro (by assumption) (by assumption) ?offCW ?srcCW ?_; (case offCW => k_extra "my off"); (case srcCW => ((try dsimp only); refine ⟨by k_mem, ?_⟩; k_extra "my sub")))))
  k_with "FinAT" => (((unfold FinAT); intro D' h' tk' hT' F' N' o1'; replace o1' := off1_mem o1'; (try dsimp only [List.nil_append, List.cons_append] at o1'); (try dsimp only [List.nil_append, List.cons_append] at N'); (try dsimp only)))
  k_with "my callE" => ((intro p9 er9 h9 tk9 U9; exact ElE.intro (by k_extra "my none") U9 (fun _ h => h)))
  k_with "my call" => ((k_here; (with_reducible show wpAny _ _ (call (Value.ref 164) [_, _, _]) _ _ _); (with_reducible rename ValFor _ _ _ _ => ih9DA); k_dflt (refine' ih9DA ?ktDA ?k1DA ?k2DA ?k3DA ?k4DA ?k5DA ?kKDA ?k6DA ?k7DA ?k8DA ?k9DA ?k10DA ?k11DA ?k12DA ?k125DA ?k13DA ?k14DA ?_ ?kEDA; (case k1DA => k_asm); (case k2DA => k_asm); (case k3DA => k_asm); (case k4DA => k_asm); (case k5DA => k_asm); (case kKDA => first | exact rfl | assumption); (case k6DA => first | assumption | exact TmIn.mono (by assumption) (by k_extra "my sub")); (case ktDA => first | exact Or.inl rfl | exact Or.inr rfl | exact True.intro); (case k7DA => k_mem); (case k8DA => assumption); (case k9DA => assumption); (case k10DA => assumption); (case k11DA => k_mem); (case k12DA => k_mem); (case k125DA => k_extra "my dep"); (case k13DA => ktr_room); (case k14DA => ktr_units); (case kEDA => k_extra "my callE"); k_whole); intro n' t1' h' tk' ho' F' N'; obtain hb' := ev_le (by assumption) (by assumption) ho'; (try k_sweep)))
  k_with "my nocall" => ((with_reducible show wpAny _ _ (call (Value.ref 164) _ _) _ _ _))
  trivial
theorem w67a : True := by
  k_with "my k_enter" => (first | k_extra "my enter" | k_extra "my enterC")
  k_with "execs cons" => (((with_reducible refine wpAny_execs_cons ?_); try dsimp only))
  k_with "execs nil" => ((with_reducible refine wpAny_execs_nil ?_))
  trivial
section
variable {prog : Program} {w : World} {A : Around} {E : Value → Shared → Prop} {s : Shared} {h₀ : Heap} {L a z : Addr} {news all : List (Addr × Obj)} {t r : Tm} {tk tk2 : Tok} {e e2 : Nat} {op : Str} {v u : Value} {Q : Value → Shared → Prop}
theorem eq_zero_d {d : PyData} {as : List Addr} (R : Reads s.heap (.ref a) d as) (N : News h₀ L s.heap all) (hz : (z, tupObj #[.str (Str.ofString "zero") tk] e) ∈ all) (hd : d.canLay0 = true) (hdd : d.depth ≤ 64) (hq : PyData.eqv d (.tuple [.str (Str.ofString "zero")]) = false) (hu : A.units + 64 < cLine) (h : Q (.bool false) s) :
    wpAny (model prog w) A (compareOp .Eq (.ref a) (.ref z)) Q E s := by
  refine eq_dataH R (reads_tuple_at (N _ hz).1 rfl rfl (.cons (.str _ _) .nil)) ?_ (by decide +kernel) hu (by rw [hq]; exact h)
  show (d.canLay0 && decide (d.depth ≤ 64)) = true
  rw [hd]; simpa using hdd
theorem eq_zero_b1 (N : News h₀ L s.heap all) (ha : (a, tupObj #[.str op tk2] e2) ∈ all) (hz : (z, tupObj #[.str (Str.ofString "zero") tk] e) ∈ all) (ho : PyData.canLay0 (.str op) = true) (hne : (op == Str.ofString "zero") = false) (hu : A.units + 64 < cLine) (h : Q (.bool false) s) :
    wpAny (model prog w) A (compareOp .Eq (.ref a) (.ref z)) Q E s :=
  eq_zero_d (d := .tuple [.str op]) (reads_tuple_at (N _ ha).1 rfl rfl (.cons (.str _ _) .nil)) N hz (by rw [PyData.canLay0]; simp only [PyData.canLayAll0, Bool.and_true]; exact ho) (by simp [PyData.depth, PyData.depthAll]) (by simp only [PyData.eqv, PyData.eqvAll, Bool.and_true]; exact hne) hu h
theorem eq_zero_b2 (N : News h₀ L s.heap all) (ha : (a, tupObj #[.str op tk2, v] e2) ∈ all) (hin : TmIn news v t) (hs : ∀ p ∈ news, p ∈ all) (hdt : t.depth ≤ 50) (hz : (z, tupObj #[.str (Str.ofString "zero") tk] e) ∈ all) (ho : PyData.canLay0 (.str op) = true) (hu : A.units + 64 < cLine) (h : Q (.bool false) s) :
    wpAny (model prog w) A (compareOp .Eq (.ref a) (.ref z)) Q E s := by
  obtain ⟨as, R⟩ := (hin.mono hs).reads N
  exact eq_zero_d (d := .tuple [.str op, t.data]) (reads_tuple_at (N _ ha).1 rfl rfl (.cons (.str _ _) (.cons R .nil))) N hz (by rw [PyData.canLay0]; simp only [PyData.canLayAll0, Bool.and_true, ho, t.canLay]) (by simp [PyData.depth, PyData.depthAll, Tm.dataDepth]; omega) (by simp only [PyData.eqv, PyData.eqvAll, Bool.and_false]) hu h
theorem eq_zero_b3 (N : News h₀ L s.heap all) (ha : (a, tupObj #[.str op tk2, v, u] e2) ∈ all) (hin : TmIn news v t) (hin2 : TmIn news u r) (hs : ∀ p ∈ news, p ∈ all) (hdt : t.depth ≤ 50) (hdr : r.depth ≤ 50) (hz : (z, tupObj #[.str (Str.ofString "zero") tk] e) ∈ all) (ho : PyData.canLay0 (.str op) = true) (hu : A.units + 64 < cLine) (h : Q (.bool false) s) :
    wpAny (model prog w) A (compareOp .Eq (.ref a) (.ref z)) Q E s := by
  obtain ⟨as, R⟩ := (hin.mono hs).reads N
  obtain ⟨bs, R2⟩ := (hin2.mono hs).reads N
  exact eq_zero_d (d := .tuple [.str op, t.data, r.data]) (reads_tuple_at (N _ ha).1 rfl rfl (.cons (.str _ _) (.cons R (.cons R2 .nil)))) N hz (by rw [PyData.canLay0]; simp only [PyData.canLayAll0, Bool.and_true, ho, t.canLay, r.canLay]) (by simp [PyData.depth, PyData.depthAll, Tm.dataDepth]; omega) (by simp only [PyData.eqv, PyData.eqvAll, Bool.and_false]) hu h
end
def BadL (nm : Str) : List (Addr × Obj) → Value → Prop := fun news v => ∃ a tk e, v = .ref a ∧ (a, tupObj #[.str nm tk] e) ∈ news
def Bad1 (op : Str) : List (Addr × Obj) → Value → Prop := fun news v => ∃ a tk e u t, v = .ref a ∧ (a, tupObj #[.str op tk, u] e) ∈ news ∧ TmIn news u t ∧ t.depth ≤ 30
def Bad2 (op : Str) : List (Addr × Obj) → Value → Prop := fun news v => ∃ a tk e u t u2 r, v = .ref a ∧ (a, tupObj #[.str op tk, u, u2] e) ∈ news ∧ TmIn news u t ∧ t.depth ≤ 30 ∧ TmIn news u2 r ∧ r.depth ≤ 30
theorem w67b : True := by
  k_with "my none" => (exact rfl)
  k_with "my upE" => ((intro p9 er9 h9 tk9 U9; show wpAny _ _ (leaving _ _) _ _ _; refine leave_up (by assumption) rfl U9 (fun h8 x8 t8 vs8 e8 R8 V8 => ?_); subst e8; exact raise_end (by assumption) (by k_extra "my none") (by assumption) R8 V8 (by k_extra "my sub")))
  k_with "compareOp NotIn" => ((k_here; (with_reducible show wpAny _ _ (compareOp CmpOp.NotIn (Value.ref _) (Value.ref _)) _ _ _); k_dflt (first
      | (refine' notin_ops true ?NDI ?aDI ?bDI ?cDI ?dDI ?eDI ?fDI ?gDI ?iDI ?_; (case NDI => k_asm); (case aDI => k_mem); (case bDI => k_mem); (case cDI => k_mem); (case dDI => k_mem); (case eDI => k_mem); (case fDI => first | assumption | decide +kernel); (case gDI => first | assumption | decide +kernel); (case iDI => ktr_units); k_whole)
      | (refine' notin_ops false ?NDI ?aDI ?bDI ?cDI ?dDI ?eDI ?fDI ?gDI ?iDI ?_; (case NDI => k_asm); (case aDI => k_mem); (case bDI => k_mem); (case cDI => k_mem); (case dDI => k_mem); (case eDI => k_mem); (case fDI => decide +kernel); (case gDI => decide +kernel); (case iDI => ktr_units); k_whole))))
  k_with "compareOp Eq ref ref" => ((k_here; (with_reducible show wpAny _ _ (compareOp CmpOp.Eq (Value.ref _) (Value.ref _)) _ _ _); first
      | refine' eq_zero_b1 (by assumption) (by k_mem) (by k_mem) (by assumption) (by assumption) (by ktr_units) ?_
      | refine' eq_zero_b2 (by assumption) (by k_mem) (by assumption) (by k_extra "my sub") (by omega) (by k_mem) (by assumption) (by ktr_units) ?_
      | refine' eq_zero_b3 (by assumption) (by k_mem) (by assumption) (by assumption) (by k_extra "my sub") (by omega) (by omega) (by k_mem) (by assumption) (by ktr_units) ?_
      | refine' eq_zero_f (by assumption) (by assumption) (by k_extra "my sub") (by k_mem) rfl (by omega) (by ktr_units) ?_
      | refine' eq_zero_t (by assumption) (by assumption) (by k_extra "my sub") (by k_mem) rfl (by omega) (by ktr_units) ?_))
  k_with "my call" => ((k_here; (with_reducible show wpAny _ _ (call (Value.ref 131) [_, _]) _ _ _); k_dflt (first
      | (refine' named_bad1 ?k1DK ?k2DK ?k3DK ?k4DK ?k5DK ?kKDK ?k6DK ?k7DK ?k8DK ?k9DK ?k10DK ?k11DK ?k12DK ?k13DK ?k14DK ?kEDK; (case k1DK => k_asm); (case k2DK => k_asm); (case k3DK => k_asm); (case k4DK => k_asm); (case k5DK => k_asm); (case kKDK => first | exact rfl | assumption); (case k6DK => k_mem); (case k7DK => k_mem); (case k8DK => assumption); (case k9DK => assumption); (case k10DK => assumption); (case k11DK => assumption); (case k12DK => assumption); (case k13DK => ktr_room); (case k14DK => ktr_units); (case kEDK => k_extra "my upE"))
      | (refine' named_bad2 ?k1DK ?k2DK ?k3DK ?k4DK ?k5DK ?kKDK ?k6DK ?k11DK ?k13DK ?k14DK ?kEDK; (case k1DK => k_asm); (case k2DK => k_asm); (case k3DK => k_asm); (case k4DK => k_asm); (case k5DK => k_asm); (case kKDK => first | exact rfl | assumption); (case k6DK => k_mem); (case k11DK => assumption); (case k13DK => ktr_room); (case k14DK => ktr_units); (case kEDK => k_extra "my upE"))
      | (refine' named_bad3 ?k1DK ?k2DK ?k3DK ?k4DK ?k5DK ?kKDK ?k6DK ?k11DK ?k13DK ?k14DK ?kEDK; (case k1DK => k_asm); (case k2DK => k_asm); (case k3DK => k_asm); (case k4DK => k_asm); (case k5DK => k_asm); (case kKDK => first | exact rfl | assumption); (case k6DK => k_mem); (case k11DK => assumption); (case k13DK => ktr_room); (case k14DK => ktr_units); (case kEDK => k_extra "my upE")))))
  k_with "my nocall" => ((with_reducible show wpAny _ _ (call (Value.ref 131) _ _) _ _ _))
  trivial
theorem val_badl {w : World} {most : Nat} {e : Ev} {op : Str} (hop : PyData.canLay0 (.str op) = true) (hol : op.length ≤ 10) (hoz : (op == Str.ofString "zero") = false) (hk1 : PyData.canLay0 (.tuple [.str op, .int 1]) = true) (hk2 : (!opsD.any fun y => PyData.eqv y (.tuple [.str op, .int 1])) = true)
    (hno0 : ∀ t1 t2 t3 t4 t5 t6, (Spec.lookup (PyData.str op) (strData (envKV e t1 t2 t3 t4 t5 t6))).isSome = false) : ValueSpec w (BadL op) none most e 0 := by
  intro mean mg mb dp un gd cn cs a ccd cl outer A₀ base h₀ L m news s Q E v de na nd oe t1 t2 t3 t4 t5 t6 t7 t8 B F X N T hk hin hde hds hdd hdf hna hnd hdp hd hu ret hE
  obtain ⟨sH, sG, sD, sT, sO⟩ := s
  (try dsimp only at F); (try dsimp only at N); (try dsimp only at ret); (try dsimp only at hE)
  obtain ⟨ta, tk, te, rfl, hm⟩ := hin
  have hno := hno0 t1 t2 t3 t4 t5 t6
  clear hno0
  replace N := newsCons (newsCons (newsCons (newsCons N hde) (List.mem_cons_of_mem _ hnd)) (List.mem_cons_of_mem _ (List.mem_cons_of_mem _ hna))) (List.mem_cons_of_mem _ (List.mem_cons_of_mem _ (List.mem_cons_of_mem _ hm)))
  refine ret_of (α := Unit) ?_
  refine wpAny_call ?_
  w_strict (k_dflt (k_extra "my enterC"))
  k_extra "my steps"
  all_goals (try dsimp only at *)
theorem val_bad1 {w : World} {most : Nat} {e : Ev} {op : Str} (hop : PyData.canLay0 (.str op) = true) (hol : op.length ≤ 10) (hk1 : PyData.canLay0 (.tuple [.str op, .int 2]) = true) (hk2 : (!opsD.any fun y => PyData.eqv y (.tuple [.str op, .int 2])) = true) : ValueSpec w (Bad1 op) none most e 0 := by
  intro mean mg mb dp un gd cn cs a ccd cl outer A₀ base h₀ L m news s Q E v de na nd oe t1 t2 t3 t4 t5 t6 t7 t8 B F X N T hk hin hde hds hdd hdf hna hnd hdp hd hu ret hE
  obtain ⟨sH, sG, sD, sT, sO⟩ := s
  (try dsimp only at F); (try dsimp only at N); (try dsimp only at ret); (try dsimp only at hE)
  obtain ⟨ta, tk, te, u, t, rfl, hm, hin0, hdt⟩ := hin
  replace N := newsCons (newsCons (newsCons (newsCons N hde) (List.mem_cons_of_mem _ hnd)) (List.mem_cons_of_mem _ (List.mem_cons_of_mem _ hna))) (List.mem_cons_of_mem _ (List.mem_cons_of_mem _ (List.mem_cons_of_mem _ hm)))
  refine ret_of (α := Unit) ?_
  refine wpAny_call ?_
  w_strict (k_dflt (k_extra "my enterC"))
  k_extra "my steps"
  all_goals (try dsimp only at *)
theorem val_bad2 {w : World} {most : Nat} {e : Ev} {op : Str} (hop : PyData.canLay0 (.str op) = true) (hol : op.length ≤ 10) (hk1 : PyData.canLay0 (.tuple [.str op, .int 3]) = true) (hk2 : (!opsD.any fun y => PyData.eqv y (.tuple [.str op, .int 3])) = true) : ValueSpec w (Bad2 op) none most e 0 := by
  intro mean mg mb dp un gd cn cs a ccd cl outer A₀ base h₀ L m news s Q E v de na nd oe t1 t2 t3 t4 t5 t6 t7 t8 B F X N T hk hin hde hds hdd hdf hna hnd hdp hd hu ret hE
  obtain ⟨sH, sG, sD, sT, sO⟩ := s
  (try dsimp only at F); (try dsimp only at N); (try dsimp only at ret); (try dsimp only at hE)
  obtain ⟨ta, tk, te, u, t, u2, r, rfl, hm, hin0, hdt, hin1, hdr⟩ := hin
  replace N := newsCons (newsCons (newsCons (newsCons N hde) (List.mem_cons_of_mem _ hnd)) (List.mem_cons_of_mem _ (List.mem_cons_of_mem _ hna))) (List.mem_cons_of_mem _ (List.mem_cons_of_mem _ (List.mem_cons_of_mem _ hm)))
  refine ret_of (α := Unit) ?_
  refine wpAny_call ?_
  w_strict (k_dflt (k_extra "my enterC"))
  k_extra "my steps"
  all_goals (try dsimp only at *)
theorem w68 : True := by
  w_top off
  k_with_none
  k_with "my k_all" => (k_dflt (first | assumption | exact all_ne_sub9 (by assumption) (by k_extra "my sub") | exact all_ne_u0 (by assumption) (by k_extra "my sub") | exact all_ne_u1 (by assumption) (by k_extra "my sub") | exact all_ne_u2 (by assumption) (by k_extra "my sub") | exact all_ne_u3 (by assumption) (by k_extra "my sub") | exact all_ne_u4 (by assumption) (by k_extra "my sub") | (refine List.forall_mem_append.mpr ⟨?_, ?_⟩ <;> k_all)))
  k_with "my ktr_room" => (((try simp only [depth_under_make, depth_under_kw, depth_in1, depth_deeper, depth_caller]); (try dsimp only [ktrTop]); (try simp only [recursionLimit]); k_extra "my room"))
  k_with "my room" => (first | exact Nat.le_of_ble_eq_true rfl | exact rm0 hd rfl | exact rm1 hd rfl | exact rm5 hd rfl | exact rm6 hd rfl | exact rm4 hd rfl | exact rm2 hd rfl | exact rm3 hd rfl | exact rm7 hd rfl | exact rm8 (by assumption) rfl | omega)
  k_with "my units" => (first | exact Nat.le_of_ble_eq_true rfl | exact rm0 hu rfl | exact rm1 hu rfl | exact rm5 hu rfl | exact rm6 hu rfl | exact rm4 hu rfl | exact rm2 hu rfl | exact rm3 hu rfl | exact rm7 hu rfl | exact rm8 (by assumption) rfl | exact um1 hu rfl | exact um2 hu rfl | exact um3 hu rfl | exact um4 hu rfl | exact um5 hu rfl | (have hcL9 := cLine_is; omega))
  k_with "my dep" => (first | assumption | exact dm1 hdp | exact dm2 hdp | exact dm0 hdp | omega)
  k_with "my ktr_units" => (((try simp only [units_in1, units_deeper, Around.mark_units, units_caller]); (try dsimp only [ktrTop]); k_extra "my units"))
  k_with "my k_room" => (ktr_room)
  k_with "my k_units" => (ktr_units)
  k_with "my units_room" => (ktr_units)
  k_with "compareOp Eq ref ref" => ((k_here; (with_reducible show wpAny _ _ (compareOp CmpOp.Eq (Value.ref _) (Value.ref _)) _ _ _); first
      | refine' eq_zero_f (by assumption) (by assumption) (by k_extra "my sub") (by k_mem) (by first | rfl | exact mkOf_zero) (by omega) (by ktr_units) ?_
      | refine' eq_zero_t (by assumption) (by assumption) (by k_extra "my sub") (by k_mem) rfl (by omega) (by ktr_units) ?_))
  k_with "my k_ne" => (k_dflt (first | exact off_I (by assumption) (by k_mem) | exact off_C (by assumption) (by k_mem) | exact off_D (by assumption) (by k_mem) | assumption | exact ne_gt9 (by assumption) (by k_mem) | exact ne_lt9 (by assumption) (by k_mem) | exact ne_all9 (by assumption) (by k_mem) | exact ne_all9s (by assumption) (by k_mem) | exact ne_gt_u1 (by assumption) (by k_mem) | exact ne_lt_u1 (by assumption) (by k_mem) | exact ne_gt_u2 (by assumption) (by k_mem) | exact ne_lt_u2 (by assumption) (by k_mem) | exact ne_gt_u3 (by assumption) (by k_mem) | exact ne_lt_u3 (by assumption) (by k_mem) | exact ne_gt_u4 (by assumption) (by k_mem) | exact ne_lt_u4 (by assumption) (by k_mem)))
  k_with "my off" => (first | exact True.intro | (refine And.intro (off_at (by assumption) (by k_mem)) ?_; k_extra "my off") | (refine Off3.append ?_ ?_ <;> k_extra "my off") | (refine Off3.of_sub (by assumption) (fun p hp => ?_); simp only [List.mem_cons, List.mem_append, hp, true_or, or_true]; done) | (refine Off3.of_lt (by assumption) (by k_mem) (by k_mem) (by k_mem)))
  k_with "CompSrc" => ((k_here; k_dflt (refine LCg.CompSrc.range (by rfl) (by k_asm) (by k_asm) (by with_reducible assumption) (by first | decide | rfl) (by first | rfl | decide) (by first | size_fits | exact Nat.le_of_ble_eq_true rfl) ?_; intro g'; lcg_lit)))
  k_with "CompRest" => ((with_unfolding_all first
      | (refine CompRest_at (fun v9 h9 => (Option.some.inj h9).symm) ?_; intro I' oI' C' oC' D' m' h' tk' E' hC' hx' F' N' off' ne'; have offM := off'.mem; clear off')
      | (refine CompRest_ex (fun v9 h9 => h9) ?_; intro t9' I' oI' C' oC' D' m' h' tk' E' hC' hx' F' N' off' ne'; have offM := off'.mem; clear off')
      | (refine LCg.CompRest.succ ?_; intro v' I' oI' C' oC' D' m' h' tk' E' hv' hC' hx' F' N' off' ne'; have offM := off'.mem; (first | lcg_open hv' | (obtain ⟨t9', hv9'⟩ := hv'; subst hv9')); clear off')
      | refine LCg.CompRest.zero ?_))
  k_with "CompEnd" => ((k_here; (refine LCg.CompEnd.intro (by assumption) (by assumption) _ (fun p hp => hp) ?offAO ?srcAO ?_; (case offAO => k_extra "my off"); (case srcAO => first | lcg_src | ((try dsimp only); k_mem)))))
  k_with "my enter" => ((refine' code_def ?k1AP ?k2AP ?k3AP ?k4AP ?k5AP ?kAAP ?kFAP ?kKAP ?k6AP ?k7AP ?k8AP ?k9AP ?kBAP ?_ ?c2AP ?c3AP ?c4AP ?c5AP; (case kAAP => exact rfl); (case kFAP => exact rfl); (case kKAP => first | exact rfl | assumption); (case k1AP => k_asm); (case k2AP => k_asm); (case k3AP => k_asm); (case k4AP => k_asm); (case k5AP => k_asm); (case k6AP => k_is); (case k7AP => k_is); (case k8AP => ktr_room); (case k9AP => exact BindsTo.of_eq rfl); (case c5AP => decide); (case kBAP => exact locs rfl); (case c2AP => exact rfl); (case c3AP => exact rfl); (case c4AP => exact rfl); k_whole; intro g' L' h' FG' F' N' B' X' T'; (try dsimp only); (try k_fold)))
  k_with "my enterC" => ((refine' code_defC ?k1AQ ?k2AQ ?k3AQ ?k4AQ ?k5AQ ?kAAQ ?kFAQ ?kKAQ ?k6AQ ?k7AQ ?k8AQ ?k9AQ ?kBAQ ?kDAQ ?_ ?c2AQ ?c3AQ ?c4AQ; (case kAAQ => exact rfl); (case kFAQ => exact rfl); (case kKAQ => first | exact rfl | assumption); (case k1AQ => k_asm); (case k2AQ => k_asm); (case k3AQ => k_asm); (case k4AQ => k_asm); (case k5AQ => k_asm); (case k6AQ => k_is); (case k7AQ => k_is); (case k8AQ => ktr_room); (case k9AQ => exact BindsTo.of_eq rfl); (case kBAQ => exact rfl); (case kDAQ => decide +kernel); (case c2AQ => exact rfl); (case c3AQ => exact rfl); (case c4AQ => exact rfl); k_whole; intro g' L' h' tk' cells' FG' F'; (first | (refine cells_in1 ?_; intro o' d1' N') | (refine cells_in2 ?_; intro o' o2' d1' d2' N') | (refine cells_in3 ?_; intro o' o2' o3' d1' d2' d3' N') | (refine cells_in4 ?_; intro o' o2' o3' o4' d1' d2' d3' d4' N')); intro B' X' T' l1; (try k_lt l1); (try dsimp only); (try k_fold)))
  k_with "eval ListComp" => ((k_here; (with_reducible show wpAny _ _ (eval (Expr.ListComp _ [⟨Expr.Name _ _, Expr.Subscript _ (Expr.Slice (some _) _ _ _) _, [], 0⟩] _ _) _) _ _ _); k_dflt (refine comp_tup (by k_asm) (by with_unfolding_all rfl) (by decide) (by rfl) (by decide) (by rfl) ?_)))
  k_with "exec Assign cons ListComp" => ((k_here; (with_reducible show wpAny _ _ (exec (Stmt.Assign [Expr.Name _ _] (Expr.ListComp _ [⟨Expr.Name _ _, Expr.Subscript _ (Expr.Slice (some _) _ _ _) _, [], 0⟩] _ _) _) _) _ _ _); k_dflt (refine comp_tup_assign (by k_asm) (by rfl) (by with_unfolding_all rfl) (by with_unfolding_all rfl) (by decide) (by rfl) (by decide) (by rfl) (by rfl) (by rfl) ?_)))
  k_with "subscriptTail Name Slice ref ref" => ((k_here; (with_reducible show wpAny _ _ (subscriptTail _ (PySem.Expr.Slice (some _) none none _) (Value.ref _) (Value.ref _)) _ _ _); k_dflt (refine' slice_tup1 ?FAT ?NAT ?lAT ?pAT ?eAT ?_ ?sAT ?tAT ?zAT; (case FAT => k_asm); (case NAT => k_asm); (case lAT => k_mem); (case pAT => exact Nat.le_of_ble_eq_true rfl); (case eAT => kl_lit); (case sAT => with_unfolding_all rfl); (case tAT => kmk_pure); (case zAT => kmk_size)); intro D' h' F' N' l1; (try k_lt l1); (try k_sweep)))
  k_with "TupSrc" => ((k_here; k_dflt (refine TupSrc.of (by rfl) (by k_asm) (by k_asm) (by k_mem) (by first | size_fits | exact Nat.le_of_ble_eq_true rfl) ?_; intro g'; lcg_lit)))
  k_with "my steps" => (repeat' ((fail_if_success (with_reducible show Ret _ _ _)); first | ((with_reducible show wpAny _ _ (call (Value.ref _) _ _) _ _ _); k_extra "my call") | ((fail_if_success ((with_reducible show wpAny _ _ (call (Value.ref _) _ _) _ _ _); k_extra "my nocall")); first | (k_unfold; (try dsimp only)) | walk1 | (dsimp only; walk1) | (leave1; walk_say "STEP leave1"; try dsimp only))))
  k_with "my sub" => (first | (with_reducible exact sub_self _) | (with_reducible refine sub_cons ?_; k_extra "my sub") | (with_reducible refine sub_left ?_; k_extra "my sub") | (with_reducible refine sub_right ?_; k_extra "my sub") | (intro p hp; simp only [List.mem_cons, List.mem_append, hp, true_or, or_true]; done))
  k_with "my ord" => (k_dflt (first | assumption | exact lt_all (by assumption) (by k_mem) | exact lt_all_u1 (by assumption) (by k_mem) | exact lt_all_u2 (by assumption) (by k_mem) | omega))
  k_with "my allLt" => (first | exact allLt_of (by assumption) | exact allLt_sub (by assumption) (by k_extra "my sub") | tbn_find)
  k_with "FinE" => (((unfold LCg.FinE); intro D' h' tk' F' N' o1'; replace o1' := off1_mem o1'; (try dsimp only [List.nil_append, List.cons_append] at N'); (try dsimp only [List.nil_append, List.cons_append] at o1'); (try dsimp only)))
  k_with "FinA" => (((unfold LCg.FinA); intro D' h' tk' F' N' o1'; replace o1' := off1_mem o1'; (try dsimp only [List.nil_append, List.cons_append] at N'); (try dsimp only [List.nil_append, List.cons_append] at o1'); (try dsimp only)))
  k_with "my omega" => (first
      | ((with_reducible show @LE.le Nat _ _ _); first | exact Nat.le_of_ble_eq_true rfl | with_reducible (first | exact o1 ‹_› (by decide) | exact o4 ‹_› (by decide) | exact o7 ‹_› (by decide) | exact o8 ‹_› (by decide) | exact o9 ‹_› (by decide) | exact q6 ‹_› (by decide) | exact q0 ‹_› (by decide) | exact r0 ‹_› (by decide) | exact q1 ‹_› ‹_› (by decide) | exact q3 ‹_› ‹_› (by decide) | exact q7 ‹_› ‹_› (by decide) | exact q8 ‹_› ‹_› (by decide) | exact q9 ‹_› ‹_› | exact r1 ‹_› ‹_› (by decide) | exact r2 ‹_› ‹_› | exact r4 ‹_› ‹_› | exact r8 ‹_› ‹_› (by decide) | exact o0 ‹_› (by decide) | exact Nat.add_le_add ‹_› ‹_› | exact Nat.le_add_left _ _ | exact Nat.le_of_lt ‹_›))
      | ((with_reducible show @LT.lt Nat _ _ _); first | exact Nat.le_of_ble_eq_true rfl | with_reducible (first | exact o2 ‹_› (by decide) | exact o3 ‹_› (by decide) | exact o5 ‹_› (by decide) | exact o6 ‹_› (by decide) | exact p5 ‹_› (by decide) | exact j6 ‹_› (by decide) | exact q2 ‹_› ‹_› (by decide) | exact q4 ‹_› ‹_› (by decide) | exact q5 ‹_› ‹_› (by decide) | exact p1 ‹_› ‹_› (by decide) | exact p2 ‹_› ‹_› (by decide) | exact p3 ‹_› ‹_› (by decide) | exact p4 ‹_› ‹_› (by decide) | exact p6 ‹_› ‹_› (by decide)))
      | ((with_reducible show @LE.le Int _ _ _); first | decide +kernel | with_reducible (first | exact i1 ‹_› | exact i2 ‹_› | exact i6 | exact i7 | exact j7 ‹_› | exact j4 ‹_› (by decide +kernel) | exact i8 ‹_› (by decide +kernel) | exact i9 ‹_› (by decide +kernel) | exact i3 ‹_› ‹_› | exact i4 ‹_› ‹_› | exact i5 ‹_› ‹_›))
      | ((with_reducible show @LT.lt Int _ _ _); first | decide +kernel | with_reducible (first | exact j1 ‹_› | exact j5 (by decide +kernel) | exact j3 ‹_› (by decide +kernel) | exact j8 ‹_› (by decide +kernel) | exact j9 ‹_› (by decide +kernel) | exact l1 ‹_› (by decide +kernel) | exact l2 ‹_› (by decide +kernel) | exact l3 ‹_› (by decide +kernel) | exact j0 ‹_› ‹_› (by decide +kernel)))
      | ((with_reducible show @Ne Nat _ _); with_reducible (first | exact Nat.ne_of_gt ‹_› | exact Nat.ne_of_lt ‹_› | exact Nat.succ_ne_self _ | exact (Nat.succ_ne_self _).symm))
      | with_reducible (first | exact j2 ‹_› | exact z4 ‹_› ‹_› | exact z6 ‹_› ‹_› | exact z3 ‹_› | exact z2 ‹_› ‹_›))
  k_with "my x_close" => ((refine EndX.use (by assumption) ?_; exact ⟨_, rfl, by assumption⟩))
  k_with "exec Raise some none" => ((k_here; (with_reducible show wpAny _ _ (exec (Stmt.Raise (some (Expr.Call (Expr.Name _ _) (_ :: _) [] _)) none _) _) _ _ _); k_dflt (refine raise_fault (w := ‹World›) rfl ?_)))
  k_with "my fault" => (((with_reducible show wpAny _ _ (call (Value.ref 60) [Value.str _ _]) _ _ _); refine' fault_make ?kBCJ ?kFCJ ?kXCJ ?kNCJ ?kTCJ ?kACJ ?kfCJ ?kkCJ ?khCJ ?kdCJ ?kuCJ ?_; (case kACJ => exact rfl); (case kBCJ => k_asm); (case kFCJ => k_asm); (case kXCJ => k_asm); (case kNCJ => k_asm); (case kTCJ => k_asm); (case kfCJ => exact rfl); (case kkCJ => exact rfl); (case khCJ => exact rfl); (case kdCJ => ktr_room); (case kuCJ => ktr_units); intro hv tkv xv tv dv Fv Nv lv lt; refine ⟨xv, tv, dv, rfl, Frag.In.keeps (by k_asm) (Fr.keep (by assumption)), (Nv _ (.head _)).1, ?_⟩; show wpAny _ _ (leaving _ _) _ _ _; refine leave_fault (by assumption) Fv Nv (fun p hp => Nat.ne_of_lt (lv p hp)) (fun p hp => Nat.ne_of_lt (lt p hp)) rfl (fun h9 R9 U9 => ?_); exact raise_end (by assumption) (by k_extra "my none") (by assumption) R9 U9 (by k_extra "my sub")))
  k_with "joinParts" => ((k_here; first
      | ((with_reducible refine joinParts_consE ?_); (with_reducible refine' joinParts_gen ?hoCK ?hnCK ?_); (case hoCK => first | assumption | exact (show Str.empty.length ≤ 0 from by decide +kernel)); (case hnCK => exact Nat.le_of_ble_eq_true rfl))
      | ((with_reducible show wpAny _ _ (joinParts _ (_ :: _)) _ _ _); (with_reducible refine' joinParts_gen ?hoCK ?hnCK ?_); (case hoCK => first | assumption | exact (show Str.empty.length ≤ 0 from by decide +kernel)); (case hnCK => exact Nat.le_of_ble_eq_true rfl))
      | ((try with_reducible refine joinParts_nilE ?_); (with_reducible refine' joinParts_last ?hoCK ?hnCK ?_); (case hoCK => assumption); (case hnCK => exact Nat.le_of_ble_eq_true rfl); intro msg' hmsg')))
  k_with "StrPart" => ((k_here; (with_unfolding_all refine StrPart.intro ?hyCL ?_); (case hyCL => first | omega | decide +kernel | exact int_text30 (by omega)); intro out' hout'))
  k_with "formatField str" => ((k_here; (with_reducible show wpAny _ _ (formatField (Value.str _ _) Str.empty) _ _ _); (refine formatField_str ?_ (by rw [sizeLine_eq]; omega)); intro _ _))
  k_with "exec Assign cons ListComp" => ((k_here; (with_reducible show wpAny _ _ (exec (Stmt.Assign [Expr.Name _ _] (Expr.ListComp _ [⟨Expr.Name _ _, Expr.Subscript _ (Expr.Slice _ _ _ _) _, [], 0⟩] _ _) _) _) _ _ _); k_dflt (refine comp_tup_assignE (by k_asm) (by k_asm) (by rfl) (by rfl) (by rfl) (by with_unfolding_all rfl) (by with_unfolding_all rfl) (by decide) (by rfl) (by decide) (by rfl) (by rfl) (by rfl) ?_)))
  k_with "my heldE" => ((intro er9 h9 tk9 p9 U9; show wpAny _ _ (leaving _ _) _ _ _; refine leave_upF (by assumption) rfl U9 (fun h8 x8 t8 vs8 e8 R8 V8 => ?_); subst e8; exact raise_end (by assumption) p9 (by assumption) R8 V8 (fun _ h => h)))
  k_with "TupSrcE" => ((k_here; k_dflt (first
      | refine TupSrcE.of (by assumption) (by rfl) (by k_asm) (by k_asm) (by k_mem) (by first | size_fits | exact Nat.le_of_ble_eq_true rfl) 1 (by rfl) ?hKCU ?hECU ?_
      | refine TupSrcE.of (by assumption) (by rfl) (by k_asm) (by k_asm) (by k_mem) (by first | size_fits | exact Nat.le_of_ble_eq_true rfl) 2 (by rfl) ?hKCU ?hECU ?_); (case hKCU => k_extra "my sub"); (case hECU => k_extra "my heldE"); intro g'))
  k_with "RestE" => ((with_unfolding_all first
      | (refine RestE.at (fun v9 h9 => (Option.some.inj h9).symm) ?_; intro I' oI' C' oC' D' m' h' tk' hT' hC' hx' F' N' off' ne'; have offM := off'.mem; clear off')
      | (refine RestE.succ ?_; intro v' I' oI' C' oC' D' m' h' tk' hT' hv' hC' hx' F' N' off' ne'; have offM := off'.mem; lcg_open hv'; clear off')
      | refine RestE.zero ?_))
  k_with "EndT" => ((k_here; (refine EndT.intro (by assumption) (by assumption) ?offCW ?srcCW ?_; (case offCW => k_extra "my off"); (case srcCW => ((try dsimp only); refine ⟨by k_mem, ?_⟩; k_extra "my sub")))))
  k_with "FinAT" => (((unfold FinAT); intro D' h' tk' hT' F' N' o1'; replace o1' := off1_mem o1'; (try dsimp only [List.nil_append, List.cons_append] at o1'); (try dsimp only [List.nil_append, List.cons_append] at N'); (try dsimp only)))
  k_with "my callE" => ((intro p9 er9 h9 tk9 U9; exact ElE.intro (by k_extra "my none") U9 (fun _ h => h)))
  k_with "my call" => ((k_here; (with_reducible show wpAny _ _ (call (Value.ref 164) [_, _, _]) _ _ _); (with_reducible rename ValFor _ _ _ _ => ih9DA); k_dflt (refine' ih9DA ?ktDA ?k1DA ?k2DA ?k3DA ?k4DA ?k5DA ?kKDA ?k6DA ?k7DA ?k8DA ?k9DA ?k10DA ?k11DA ?k12DA ?k125DA ?k13DA ?k14DA ?_ ?kEDA; (case k1DA => k_asm); (case k2DA => k_asm); (case k3DA => k_asm); (case k4DA => k_asm); (case k5DA => k_asm); (case kKDA => first | exact rfl | assumption); (case k6DA => first | assumption | exact TmIn.mono (by assumption) (by k_extra "my sub")); (case ktDA => first | exact Or.inl rfl | exact Or.inr rfl | exact True.intro); (case k7DA => k_mem); (case k8DA => assumption); (case k9DA => assumption); (case k10DA => assumption); (case k11DA => k_mem); (case k12DA => k_mem); (case k125DA => k_extra "my dep"); (case k13DA => ktr_room); (case k14DA => ktr_units); (case kEDA => k_extra "my callE"); k_whole); intro n' t1' h' tk' ho' F' N'; obtain hb' := ev_le (by assumption) (by assumption) ho'; (try k_sweep)))
  k_with "my nocall" => ((with_reducible show wpAny _ _ (call (Value.ref 164) _ _) _ _ _))
  k_with "my upE" => ((intro p9 er9 h9 tk9 U9; show wpAny _ _ (leaving _ _) _ _ _; refine leave_up (by assumption) rfl U9 (fun h8 x8 t8 vs8 e8 R8 V8 => ?_); subst e8; exact raise_end (by assumption) (by k_extra "my none") (by assumption) R8 V8 (by k_extra "my sub")))
  k_with "my call" => ((k_here; (with_reducible show wpAny _ _ (call (Value.ref 131) [_, _]) _ _ _); k_dflt (first
      | (refine' named_bad1 ?k1DK ?k2DK ?k3DK ?k4DK ?k5DK ?kKDK ?k6DK ?k7DK ?k8DK ?k9DK ?k10DK ?k11DK ?k12DK ?k13DK ?k14DK ?kEDK; (case k1DK => k_asm); (case k2DK => k_asm); (case k3DK => k_asm); (case k4DK => k_asm); (case k5DK => k_asm); (case kKDK => first | exact rfl | assumption); (case k6DK => k_mem); (case k7DK => k_mem); (case k8DK => assumption); (case k9DK => assumption); (case k10DK => assumption); (case k11DK => assumption); (case k12DK => assumption); (case k13DK => ktr_room); (case k14DK => ktr_units); (case kEDK => k_extra "my upE"))
      | (refine' named_bad2 ?k1DK ?k2DK ?k3DK ?k4DK ?k5DK ?kKDK ?k6DK ?k11DK ?k13DK ?k14DK ?kEDK; (case k1DK => k_asm); (case k2DK => k_asm); (case k3DK => k_asm); (case k4DK => k_asm); (case k5DK => k_asm); (case kKDK => first | exact rfl | assumption); (case k6DK => k_mem); (case k11DK => assumption); (case k13DK => ktr_room); (case k14DK => ktr_units); (case kEDK => k_extra "my upE"))
      | (refine' named_bad3 ?k1DK ?k2DK ?k3DK ?k4DK ?k5DK ?kKDK ?k6DK ?k11DK ?k13DK ?k14DK ?kEDK; (case k1DK => k_asm); (case k2DK => k_asm); (case k3DK => k_asm); (case k4DK => k_asm); (case k5DK => k_asm); (case kKDK => first | exact rfl | assumption); (case k6DK => k_mem); (case k11DK => assumption); (case k13DK => ktr_room); (case k14DK => ktr_units); (case kEDK => k_extra "my upE")))))
  k_with "my nocall" => ((with_reducible show wpAny _ _ (call (Value.ref 131) _ _) _ _ _))
  trivial
theorem w68a : True := by
  k_with "my k_enter" => (first | k_extra "my enter" | k_extra "my enterC")
  k_with "execs cons" => (((with_reducible refine wpAny_execs_cons ?_); try dsimp only))
  k_with "execs nil" => ((with_reducible refine wpAny_execs_nil ?_))
  k_with "compareOp NotIn" => ((k_here; (with_reducible show wpAny _ _ (compareOp CmpOp.NotIn (Value.ref _) (Value.ref _)) _ _ _); k_dflt (first
      | (refine' notin_ops true ?NDP ?aDP ?bDP ?cDP ?dDP ?eDP ?fDP ?gDP ?iDP ?_; (case NDP => k_asm); (case aDP => k_mem); (case bDP => k_mem); (case cDP => k_mem); (case dDP => k_mem); (case eDP => k_mem); (case fDP => first | assumption | decide +kernel); (case gDP => first | assumption | decide +kernel); (case iDP => ktr_units); k_whole)
      | (refine' notin_ops false ?NDP ?aDP ?bDP ?cDP ?dDP ?eDP ?fDP ?gDP ?iDP ?_; (case NDP => k_asm); (case aDP => k_mem); (case bDP => k_mem); (case cDP => k_mem); (case dDP => k_mem); (case eDP => k_mem); (case fDP => decide +kernel); (case gDP => decide +kernel); (case iDP => ktr_units); k_whole))))
  k_with "compareOp Eq ref ref" => ((k_here; (with_reducible show wpAny _ _ (compareOp CmpOp.Eq (Value.ref _) (Value.ref _)) _ _ _); first
      | refine' eq_zero_b1 (by assumption) (by k_mem) (by k_mem) (by assumption) (by assumption) (by ktr_units) ?_
      | refine' eq_zero_b3 (by assumption) (by k_mem) (by assumption) (by assumption) (by k_extra "my sub") (by omega) (by omega) (by k_mem) (by assumption) (by ktr_units) ?_
      | refine' eq_zero_f (by assumption) (by assumption) (by k_extra "my sub") (by k_mem) rfl (by omega) (by ktr_units) ?_
      | refine' eq_zero_t (by assumption) (by assumption) (by k_extra "my sub") (by k_mem) rfl (by omega) (by ktr_units) ?_))
  k_with "my call" => ((k_here; (with_reducible show wpAny _ _ (call (Value.ref 131) [_, _]) _ _ _); k_dflt (refine' named_good ?kxDR ?k1DR ?k2DR ?k3DR ?k4DR ?k5DR ?kKDR ?k6DR ?k7DR ?k8DR ?k9DR ?k10DR ?k13DR ?k14DR ?_; (case kxDR => assumption); (case k1DR => k_asm); (case k2DR => k_asm); (case k3DR => k_asm); (case k4DR => k_asm); (case k5DR => k_asm); (case kKDR => first | exact rfl | assumption); (case k6DR => k_mem); (case k7DR => k_mem); (case k8DR => assumption); (case k9DR => assumption); (case k10DR => assumption); (case k13DR => ktr_room); (case k14DR => ktr_units); k_whole); intro t1' h' tk' F' N'; (try k_sweep)))
  k_with "my nocall" => ((with_reducible show wpAny _ _ (call (Value.ref 131) _ _) _ _ _))
  trivial
theorem Nm.k1 (n : Nm) : PyData.canLay0 (.tuple [.str n.str, .int 1]) = true := by cases n <;> decide +kernel
theorem Nm.k2 (n : Nm) : (!opsD.any fun y => PyData.eqv y (.tuple [.str n.str, .int 1])) = true := by cases n <;> decide +kernel
theorem Nm.nz {n : Nm} (h : n ≠ .zero) : (n.str == Str.ofString "zero") = false := by cases n <;> first | exact absurd rfl h | decide +kernel
theorem val_nm {w : World} {most : Nat} {e : Ev} {n : Nm} (hn : n ≠ .zero) : ValueSpec w (TmR (.nm n)) ((Tm.nm n).ev e most) most e (Tm.nm n).depth := by
  intro mean mg mb dp un gd cn cs a ccd cl outer A₀ base h₀ L m news s Q E v de na nd oe t1 t2 t3 t4 t5 t6 t7 t8 B F X N T hk hin hde hds hdd hdf hna hnd hdp hd hu ret hE
  obtain ⟨sH, sG, sD, sT, sO⟩ := s
  (try dsimp only at F); (try dsimp only at N); (try dsimp only at ret); (try dsimp only at hE)
  simp only [Tm.depth] at hd hu hdp
  have hop := n.ok
  have hoz := Nm.nz hn
  have hk1 := n.k1
  have hk2 := n.k2
  unfold TmR at hin
  cases hin with | nm hm =>
  have key : ∀ t1' h' tk', Fr h₀ L h' m → News h₀ L h' news → Ret Q (.int (n.val e : Nat) t1') { heap := h', gens := sG, drawn := sD, toks := tk', os := sO } := fun t1' h' tk' F' N' => ret _ t1' h' tk' rfl F' N'
  replace N := newsCons (newsCons (newsCons (newsCons N hde) (List.mem_cons_of_mem _ hnd)) (List.mem_cons_of_mem _ (List.mem_cons_of_mem _ hna))) (List.mem_cons_of_mem _ (List.mem_cons_of_mem _ (List.mem_cons_of_mem _ hm)))
  refine ret_of (α := Unit) ?_
  refine wpAny_call ?_
  w_strict (k_dflt (k_extra "my enterC"))
  k_extra "my steps"
  all_goals (try dsimp only at *)
  all_goals ((rename Fr h₀ L _ m => fX); (rename News h₀ L _ _ => nX); exact key _ _ _ fX (news_of nX (by k_extra "my sub")))
theorem val_zero {w : World} {most : Nat} {e : Ev} : ValueSpec w (TmR (.nm .zero)) ((Tm.nm .zero).ev e most) most e (Tm.nm .zero).depth := by
  intro mean mg mb dp un gd cn cs a ccd cl outer A₀ base h₀ L m news s Q E v de na nd oe t1 t2 t3 t4 t5 t6 t7 t8 B F X N T hk hin hde hds hdd hdf hna hnd hdp hd hu ret hE
  obtain ⟨sH, sG, sD, sT, sO⟩ := s
  (try dsimp only at F); (try dsimp only at N); (try dsimp only at ret); (try dsimp only at hE)
  simp only [Tm.depth] at hd hu hdp
  have hdep : (Tm.nm .zero).depth ≤ 60 := Nat.zero_le _
  unfold TmR at hin
  have hin0 := hin
  cases hin with | nm hm =>
  have key : ∀ t1' h' tk', Fr h₀ L h' m → News h₀ L h' news → Ret Q (.int 0 t1') { heap := h', gens := sG, drawn := sD, toks := tk', os := sO } := fun t1' h' tk' F' N' => ret 0 t1' h' tk' rfl F' N'
  replace N := newsCons (newsCons (newsCons (newsCons N hde) (List.mem_cons_of_mem _ hnd)) (List.mem_cons_of_mem _ (List.mem_cons_of_mem _ hna))) (List.mem_cons_of_mem _ (List.mem_cons_of_mem _ (List.mem_cons_of_mem _ hm)))
  refine ret_of (α := Unit) ?_
  refine wpAny_call ?_
  w_strict (k_dflt (k_extra "my enterC"))
  k_extra "my steps"
  all_goals (try dsimp only at *)
  all_goals ((rename Fr h₀ L _ m => fX); (rename News h₀ L _ _ => nX); exact key _ _ _ fX (news_of nX (by k_extra "my sub")))
theorem val_all {w : World} {most : Nat} {e : Ev} (hev : e.ok) (hm0 : most ≤ 1000000) : ∀ t : Tm, ValueSpec w (TmR t) (t.ev e most) most e t.depth := by
  intro t
  induction t with
  | nm n =>
    cases n with
    | zero => exact val_zero
    | x => exact val_nm (by intro h; cases h)
    | y => exact val_nm (by intro h; cases h)
    | succ => exact val_nm (by intro h; cases h)
  | suc t ih => exact val_suc (for1 (P := fun t : Tm => ValueSpec w (TmR t) (t.ev e most) most e t.depth) ih) hev hm0
  | plus t r i1 i2 => exact val_bin (q := true) (for2 (P := fun t : Tm => ValueSpec w (TmR t) (t.ev e most) most e t.depth) i1 i2) hev hm0
  | times t r i1 i2 => exact val_bin (q := false) (for2 (P := fun t : Tm => ValueSpec w (TmR t) (t.ev e most) most e t.depth) i1 i2) hev hm0
theorem w69 : True := by
  w_top off
  k_with_none
  k_with "my k_all" => (k_dflt (first | assumption | exact all_ne_sub9 (by assumption) (by k_extra "my sub") | exact all_ne_u0 (by assumption) (by k_extra "my sub") | exact all_ne_u1 (by assumption) (by k_extra "my sub") | exact all_ne_u2 (by assumption) (by k_extra "my sub") | exact all_ne_u3 (by assumption) (by k_extra "my sub") | exact all_ne_u4 (by assumption) (by k_extra "my sub") | (refine List.forall_mem_append.mpr ⟨?_, ?_⟩ <;> k_all)))
  k_with "my ktr_room" => (((try simp only [depth_under_make, depth_under_kw, depth_in1, depth_deeper, depth_caller]); (try dsimp only [ktrTop]); (try simp only [recursionLimit]); k_extra "my room"))
  k_with "my room" => (first | exact Nat.le_of_ble_eq_true rfl | exact rm0 hd rfl | exact rm1 hd rfl | exact rm5 hd rfl | exact rm6 hd rfl | exact rm4 hd rfl | exact rm2 hd rfl | exact rm3 hd rfl | exact rm7 hd rfl | exact rm8 (by assumption) rfl | omega)
  k_with "my units" => (first | exact Nat.le_of_ble_eq_true rfl | exact rm0 hu rfl | exact rm1 hu rfl | exact rm5 hu rfl | exact rm6 hu rfl | exact rm4 hu rfl | exact rm2 hu rfl | exact rm3 hu rfl | exact rm7 hu rfl | exact rm8 (by assumption) rfl | exact um1 hu rfl | exact um2 hu rfl | exact um3 hu rfl | exact um4 hu rfl | exact um5 hu rfl | (have hcL9 := cLine_is; omega))
  k_with "my dep" => (first | assumption | exact dm1 hdp | exact dm2 hdp | exact dm0 hdp | omega)
  k_with "my ktr_units" => (((try simp only [units_in1, units_deeper, Around.mark_units, units_caller]); (try dsimp only [ktrTop]); k_extra "my units"))
  k_with "my k_room" => (ktr_room)
  k_with "my k_units" => (ktr_units)
  k_with "my units_room" => (ktr_units)
  k_with "compareOp Eq ref ref" => ((k_here; (with_reducible show wpAny _ _ (compareOp CmpOp.Eq (Value.ref _) (Value.ref _)) _ _ _); first
      | refine' eq_zero_f (by assumption) (by assumption) (by k_extra "my sub") (by k_mem) (by first | rfl | exact mkOf_zero) (by omega) (by ktr_units) ?_
      | refine' eq_zero_t (by assumption) (by assumption) (by k_extra "my sub") (by k_mem) rfl (by omega) (by ktr_units) ?_))
  k_with "my k_ne" => (k_dflt (first | exact off_I (by assumption) (by k_mem) | exact off_C (by assumption) (by k_mem) | exact off_D (by assumption) (by k_mem) | assumption | exact ne_gt9 (by assumption) (by k_mem) | exact ne_lt9 (by assumption) (by k_mem) | exact ne_all9 (by assumption) (by k_mem) | exact ne_all9s (by assumption) (by k_mem) | exact ne_gt_u1 (by assumption) (by k_mem) | exact ne_lt_u1 (by assumption) (by k_mem) | exact ne_gt_u2 (by assumption) (by k_mem) | exact ne_lt_u2 (by assumption) (by k_mem) | exact ne_gt_u3 (by assumption) (by k_mem) | exact ne_lt_u3 (by assumption) (by k_mem) | exact ne_gt_u4 (by assumption) (by k_mem) | exact ne_lt_u4 (by assumption) (by k_mem)))
  k_with "my off" => (first | exact True.intro | (refine And.intro (off_at (by assumption) (by k_mem)) ?_; k_extra "my off") | (refine Off3.append ?_ ?_ <;> k_extra "my off") | (refine Off3.of_sub (by assumption) (fun p hp => ?_); simp only [List.mem_cons, List.mem_append, hp, true_or, or_true]; done) | (refine Off3.of_lt (by assumption) (by k_mem) (by k_mem) (by k_mem)))
  k_with "CompSrc" => ((k_here; k_dflt (refine LCg.CompSrc.range (by rfl) (by k_asm) (by k_asm) (by with_reducible assumption) (by first | decide | rfl) (by first | rfl | decide) (by first | size_fits | exact Nat.le_of_ble_eq_true rfl) ?_; intro g'; lcg_lit)))
  k_with "CompRest" => ((with_unfolding_all first
      | (refine CompRest_at (fun v9 h9 => (Option.some.inj h9).symm) ?_; intro I' oI' C' oC' D' m' h' tk' E' hC' hx' F' N' off' ne'; have offM := off'.mem; clear off')
      | (refine CompRest_ex (fun v9 h9 => h9) ?_; intro t9' I' oI' C' oC' D' m' h' tk' E' hC' hx' F' N' off' ne'; have offM := off'.mem; clear off')
      | (refine LCg.CompRest.succ ?_; intro v' I' oI' C' oC' D' m' h' tk' E' hv' hC' hx' F' N' off' ne'; have offM := off'.mem; (first | lcg_open hv' | (obtain ⟨t9', hv9'⟩ := hv'; subst hv9')); clear off')
      | refine LCg.CompRest.zero ?_))
  k_with "CompEnd" => ((k_here; (refine LCg.CompEnd.intro (by assumption) (by assumption) _ (fun p hp => hp) ?offAO ?srcAO ?_; (case offAO => k_extra "my off"); (case srcAO => first | lcg_src | ((try dsimp only); k_mem)))))
  k_with "my enter" => ((refine' code_def ?k1AP ?k2AP ?k3AP ?k4AP ?k5AP ?kAAP ?kFAP ?kKAP ?k6AP ?k7AP ?k8AP ?k9AP ?kBAP ?_ ?c2AP ?c3AP ?c4AP ?c5AP; (case kAAP => exact rfl); (case kFAP => exact rfl); (case kKAP => first | exact rfl | assumption); (case k1AP => k_asm); (case k2AP => k_asm); (case k3AP => k_asm); (case k4AP => k_asm); (case k5AP => k_asm); (case k6AP => k_is); (case k7AP => k_is); (case k8AP => ktr_room); (case k9AP => exact BindsTo.of_eq rfl); (case c5AP => decide); (case kBAP => exact locs rfl); (case c2AP => exact rfl); (case c3AP => exact rfl); (case c4AP => exact rfl); k_whole; intro g' L' h' FG' F' N' B' X' T'; (try dsimp only); (try k_fold)))
  k_with "my enterC" => ((refine' code_defC ?k1AQ ?k2AQ ?k3AQ ?k4AQ ?k5AQ ?kAAQ ?kFAQ ?kKAQ ?k6AQ ?k7AQ ?k8AQ ?k9AQ ?kBAQ ?kDAQ ?_ ?c2AQ ?c3AQ ?c4AQ; (case kAAQ => exact rfl); (case kFAQ => exact rfl); (case kKAQ => first | exact rfl | assumption); (case k1AQ => k_asm); (case k2AQ => k_asm); (case k3AQ => k_asm); (case k4AQ => k_asm); (case k5AQ => k_asm); (case k6AQ => k_is); (case k7AQ => k_is); (case k8AQ => ktr_room); (case k9AQ => exact BindsTo.of_eq rfl); (case kBAQ => exact rfl); (case kDAQ => decide +kernel); (case c2AQ => exact rfl); (case c3AQ => exact rfl); (case c4AQ => exact rfl); k_whole; intro g' L' h' tk' cells' FG' F'; (first | (refine cells_in1 ?_; intro o' d1' N') | (refine cells_in2 ?_; intro o' o2' d1' d2' N') | (refine cells_in3 ?_; intro o' o2' o3' d1' d2' d3' N') | (refine cells_in4 ?_; intro o' o2' o3' o4' d1' d2' d3' d4' N')); intro B' X' T' l1; (try k_lt l1); (try dsimp only); (try k_fold)))
  k_with "eval ListComp" => ((k_here; (with_reducible show wpAny _ _ (eval (Expr.ListComp _ [⟨Expr.Name _ _, Expr.Subscript _ (Expr.Slice (some _) _ _ _) _, [], 0⟩] _ _) _) _ _ _); k_dflt (refine comp_tup (by k_asm) (by with_unfolding_all rfl) (by decide) (by rfl) (by decide) (by rfl) ?_)))
  k_with "exec Assign cons ListComp" => ((k_here; (with_reducible show wpAny _ _ (exec (Stmt.Assign [Expr.Name _ _] (Expr.ListComp _ [⟨Expr.Name _ _, Expr.Subscript _ (Expr.Slice (some _) _ _ _) _, [], 0⟩] _ _) _) _) _ _ _); k_dflt (refine comp_tup_assign (by k_asm) (by rfl) (by with_unfolding_all rfl) (by with_unfolding_all rfl) (by decide) (by rfl) (by decide) (by rfl) (by rfl) (by rfl) ?_)))
  k_with "subscriptTail Name Slice ref ref" => ((k_here; (with_reducible show wpAny _ _ (subscriptTail _ (PySem.Expr.Slice (some _) none none _) (Value.ref _) (Value.ref _)) _ _ _); k_dflt (refine' slice_tup1 ?FAT ?NAT ?lAT ?pAT ?eAT ?_ ?sAT ?tAT ?zAT; (case FAT => k_asm); (case NAT => k_asm); (case lAT => k_mem); (case pAT => exact Nat.le_of_ble_eq_true rfl); (case eAT => kl_lit); (case sAT => with_unfolding_all rfl); (case tAT => kmk_pure); (case zAT => kmk_size)); intro D' h' F' N' l1; (try k_lt l1); (try k_sweep)))
  k_with "TupSrc" => ((k_here; k_dflt (refine TupSrc.of (by rfl) (by k_asm) (by k_asm) (by k_mem) (by first | size_fits | exact Nat.le_of_ble_eq_true rfl) ?_; intro g'; lcg_lit)))
  k_with "my steps" => (repeat' ((fail_if_success (with_reducible show Ret _ _ _)); first | ((with_reducible show wpAny _ _ (call (Value.ref _) _ _) _ _ _); k_extra "my call") | ((fail_if_success ((with_reducible show wpAny _ _ (call (Value.ref _) _ _) _ _ _); k_extra "my nocall")); first | (k_unfold; (try dsimp only)) | walk1 | (dsimp only; walk1) | (leave1; walk_say "STEP leave1"; try dsimp only))))
  k_with "my sub" => (first | (with_reducible exact sub_self _) | (with_reducible refine sub_cons ?_; k_extra "my sub") | (with_reducible refine sub_left ?_; k_extra "my sub") | (with_reducible refine sub_right ?_; k_extra "my sub") | (intro p hp; simp only [List.mem_cons, List.mem_append, hp, true_or, or_true]; done))
  k_with "my ord" => (k_dflt (first | assumption | exact lt_all (by assumption) (by k_mem) | exact lt_all_u1 (by assumption) (by k_mem) | exact lt_all_u2 (by assumption) (by k_mem) | omega))
  k_with "my allLt" => (first | exact allLt_of (by assumption) | exact allLt_sub (by assumption) (by k_extra "my sub") | tbn_find)
  k_with "FinE" => (((unfold LCg.FinE); intro D' h' tk' F' N' o1'; replace o1' := off1_mem o1'; (try dsimp only [List.nil_append, List.cons_append] at N'); (try dsimp only [List.nil_append, List.cons_append] at o1'); (try dsimp only)))
  k_with "FinA" => (((unfold LCg.FinA); intro D' h' tk' F' N' o1'; replace o1' := off1_mem o1'; (try dsimp only [List.nil_append, List.cons_append] at N'); (try dsimp only [List.nil_append, List.cons_append] at o1'); (try dsimp only)))
  k_with "my omega" => (first
      | ((with_reducible show @LE.le Nat _ _ _); first | exact Nat.le_of_ble_eq_true rfl | with_reducible (first | exact o1 ‹_› (by decide) | exact o4 ‹_› (by decide) | exact o7 ‹_› (by decide) | exact o8 ‹_› (by decide) | exact o9 ‹_› (by decide) | exact q6 ‹_› (by decide) | exact q0 ‹_› (by decide) | exact r0 ‹_› (by decide) | exact q1 ‹_› ‹_› (by decide) | exact q3 ‹_› ‹_› (by decide) | exact q7 ‹_› ‹_› (by decide) | exact q8 ‹_› ‹_› (by decide) | exact q9 ‹_› ‹_› | exact r1 ‹_› ‹_› (by decide) | exact r2 ‹_› ‹_› | exact r4 ‹_› ‹_› | exact r8 ‹_› ‹_› (by decide) | exact o0 ‹_› (by decide) | exact Nat.add_le_add ‹_› ‹_› | exact Nat.le_add_left _ _ | exact Nat.le_of_lt ‹_›))
      | ((with_reducible show @LT.lt Nat _ _ _); first | exact Nat.le_of_ble_eq_true rfl | with_reducible (first | exact o2 ‹_› (by decide) | exact o3 ‹_› (by decide) | exact o5 ‹_› (by decide) | exact o6 ‹_› (by decide) | exact p5 ‹_› (by decide) | exact j6 ‹_› (by decide) | exact q2 ‹_› ‹_› (by decide) | exact q4 ‹_› ‹_› (by decide) | exact q5 ‹_› ‹_› (by decide) | exact p1 ‹_› ‹_› (by decide) | exact p2 ‹_› ‹_› (by decide) | exact p3 ‹_› ‹_› (by decide) | exact p4 ‹_› ‹_› (by decide) | exact p6 ‹_› ‹_› (by decide)))
      | ((with_reducible show @LE.le Int _ _ _); first | decide +kernel | with_reducible (first | exact i1 ‹_› | exact i2 ‹_› | exact i6 | exact i7 | exact j7 ‹_› | exact j4 ‹_› (by decide +kernel) | exact i8 ‹_› (by decide +kernel) | exact i9 ‹_› (by decide +kernel) | exact i3 ‹_› ‹_› | exact i4 ‹_› ‹_› | exact i5 ‹_› ‹_›))
      | ((with_reducible show @LT.lt Int _ _ _); first | decide +kernel | with_reducible (first | exact j1 ‹_› | exact j5 (by decide +kernel) | exact j3 ‹_› (by decide +kernel) | exact j8 ‹_› (by decide +kernel) | exact j9 ‹_› (by decide +kernel) | exact l1 ‹_› (by decide +kernel) | exact l2 ‹_› (by decide +kernel) | exact l3 ‹_› (by decide +kernel) | exact j0 ‹_› ‹_› (by decide +kernel)))
      | ((with_reducible show @Ne Nat _ _); with_reducible (first | exact Nat.ne_of_gt ‹_› | exact Nat.ne_of_lt ‹_› | exact Nat.succ_ne_self _ | exact (Nat.succ_ne_self _).symm))
      | with_reducible (first | exact j2 ‹_› | exact z4 ‹_› ‹_› | exact z6 ‹_› ‹_› | exact z3 ‹_› | exact z2 ‹_› ‹_›))
  k_with "my x_close" => ((refine EndX.use (by assumption) ?_; exact ⟨_, rfl, by assumption⟩))
  k_with "exec Raise some none" => ((k_here; (with_reducible show wpAny _ _ (exec (Stmt.Raise (some (Expr.Call (Expr.Name _ _) (_ :: _) [] _)) none _) _) _ _ _); k_dflt (refine raise_fault (w := ‹World›) rfl ?_)))
  k_with "my fault" => (((with_reducible show wpAny _ _ (call (Value.ref 60) [Value.str _ _]) _ _ _); refine' fault_make ?kBCJ ?kFCJ ?kXCJ ?kNCJ ?kTCJ ?kACJ ?kfCJ ?kkCJ ?khCJ ?kdCJ ?kuCJ ?_; (case kACJ => exact rfl); (case kBCJ => k_asm); (case kFCJ => k_asm); (case kXCJ => k_asm); (case kNCJ => k_asm); (case kTCJ => k_asm); (case kfCJ => exact rfl); (case kkCJ => exact rfl); (case khCJ => exact rfl); (case kdCJ => ktr_room); (case kuCJ => ktr_units); intro hv tkv xv tv dv Fv Nv lv lt; refine ⟨xv, tv, dv, rfl, Frag.In.keeps (by k_asm) (Fr.keep (by assumption)), (Nv _ (.head _)).1, ?_⟩; show wpAny _ _ (leaving _ _) _ _ _; refine leave_fault (by assumption) Fv Nv (fun p hp => Nat.ne_of_lt (lv p hp)) (fun p hp => Nat.ne_of_lt (lt p hp)) rfl (fun h9 R9 U9 => ?_); exact raise_end (by assumption) (by k_extra "my none") (by assumption) R9 U9 (by k_extra "my sub")))
  k_with "joinParts" => ((k_here; first
      | ((with_reducible refine joinParts_consE ?_); (with_reducible refine' joinParts_gen ?hoCK ?hnCK ?_); (case hoCK => first | assumption | exact (show Str.empty.length ≤ 0 from by decide +kernel)); (case hnCK => exact Nat.le_of_ble_eq_true rfl))
      | ((with_reducible show wpAny _ _ (joinParts _ (_ :: _)) _ _ _); (with_reducible refine' joinParts_gen ?hoCK ?hnCK ?_); (case hoCK => first | assumption | exact (show Str.empty.length ≤ 0 from by decide +kernel)); (case hnCK => exact Nat.le_of_ble_eq_true rfl))
      | ((try with_reducible refine joinParts_nilE ?_); (with_reducible refine' joinParts_last ?hoCK ?hnCK ?_); (case hoCK => assumption); (case hnCK => exact Nat.le_of_ble_eq_true rfl); intro msg' hmsg')))
  k_with "StrPart" => ((k_here; (with_unfolding_all refine StrPart.intro ?hyCL ?_); (case hyCL => first | omega | decide +kernel | exact int_text30 (by omega)); intro out' hout'))
  k_with "formatField str" => ((k_here; (with_reducible show wpAny _ _ (formatField (Value.str _ _) Str.empty) _ _ _); (refine formatField_str ?_ (by rw [sizeLine_eq]; omega)); intro _ _))
  k_with "exec Assign cons ListComp" => ((k_here; (with_reducible show wpAny _ _ (exec (Stmt.Assign [Expr.Name _ _] (Expr.ListComp _ [⟨Expr.Name _ _, Expr.Subscript _ (Expr.Slice _ _ _ _) _, [], 0⟩] _ _) _) _) _ _ _); k_dflt (refine comp_tup_assignE (by k_asm) (by k_asm) (by rfl) (by rfl) (by rfl) (by with_unfolding_all rfl) (by with_unfolding_all rfl) (by decide) (by rfl) (by decide) (by rfl) (by rfl) (by rfl) ?_)))
  k_with "my heldE" => ((intro er9 h9 tk9 p9 U9; show wpAny _ _ (leaving _ _) _ _ _; refine leave_upF (by assumption) rfl U9 (fun h8 x8 t8 vs8 e8 R8 V8 => ?_); subst e8; exact raise_end (by assumption) p9 (by assumption) R8 V8 (fun _ h => h)))
  k_with "TupSrcE" => ((k_here; k_dflt (first
      | refine TupSrcE.of (by assumption) (by rfl) (by k_asm) (by k_asm) (by k_mem) (by first | size_fits | exact Nat.le_of_ble_eq_true rfl) 1 (by rfl) ?hKCU ?hECU ?_
      | refine TupSrcE.of (by assumption) (by rfl) (by k_asm) (by k_asm) (by k_mem) (by first | size_fits | exact Nat.le_of_ble_eq_true rfl) 2 (by rfl) ?hKCU ?hECU ?_); (case hKCU => k_extra "my sub"); (case hECU => k_extra "my heldE"); intro g'))
  k_with "RestE" => ((with_unfolding_all first
      | (refine RestE.at (fun v9 h9 => (Option.some.inj h9).symm) ?_; intro I' oI' C' oC' D' m' h' tk' hT' hC' hx' F' N' off' ne'; have offM := off'.mem; clear off')
      | (refine RestE.succ ?_; intro v' I' oI' C' oC' D' m' h' tk' hT' hv' hC' hx' F' N' off' ne'; have offM := off'.mem; lcg_open hv'; clear off')
      | refine RestE.zero ?_))
  k_with "EndT" => ((k_here; (refine EndT.intro (by assumption) (by assumption) ?offCW ?srcCW ?_; (case offCW => k_extra "my off"); (case srcCW => ((try dsimp only); refine ⟨by k_mem, ?_⟩; k_extra "my sub")))))
  k_with "FinAT" => (((unfold FinAT); intro D' h' tk' hT' F' N' o1'; replace o1' := off1_mem o1'; (try dsimp only [List.nil_append, List.cons_append] at o1'); (try dsimp only [List.nil_append, List.cons_append] at N'); (try dsimp only)))
  k_with "my callE" => ((intro p9 er9 h9 tk9 U9; exact ElE.intro (by k_extra "my none") U9 (fun _ h => h)))
  k_with "my call" => ((k_here; (with_reducible show wpAny _ _ (call (Value.ref 164) [_, _, _]) _ _ _); (with_reducible rename ValFor _ _ _ _ => ih9DA); k_dflt (refine' ih9DA ?ktDA ?k1DA ?k2DA ?k3DA ?k4DA ?k5DA ?kKDA ?k6DA ?k7DA ?k8DA ?k9DA ?k10DA ?k11DA ?k12DA ?k125DA ?k13DA ?k14DA ?_ ?kEDA; (case k1DA => k_asm); (case k2DA => k_asm); (case k3DA => k_asm); (case k4DA => k_asm); (case k5DA => k_asm); (case kKDA => first | exact rfl | assumption); (case k6DA => first | assumption | exact TmIn.mono (by assumption) (by k_extra "my sub")); (case ktDA => first | exact Or.inl rfl | exact Or.inr rfl | exact True.intro); (case k7DA => k_mem); (case k8DA => assumption); (case k9DA => assumption); (case k10DA => assumption); (case k11DA => k_mem); (case k12DA => k_mem); (case k125DA => k_extra "my dep"); (case k13DA => ktr_room); (case k14DA => ktr_units); (case kEDA => k_extra "my callE"); k_whole); intro n' t1' h' tk' ho' F' N'; obtain hb' := ev_le (by assumption) (by assumption) ho'; (try k_sweep)))
  k_with "my nocall" => ((with_reducible show wpAny _ _ (call (Value.ref 164) _ _) _ _ _))
  k_with "my upE" => ((intro p9 er9 h9 tk9 U9; show wpAny _ _ (leaving _ _) _ _ _; refine leave_up (by assumption) rfl U9 (fun h8 x8 t8 vs8 e8 R8 V8 => ?_); subst e8; exact raise_end (by assumption) (by k_extra "my none") (by assumption) R8 V8 (by k_extra "my sub")))
  k_with "my call" => ((k_here; (with_reducible show wpAny _ _ (call (Value.ref 131) [_, _]) _ _ _); k_dflt (first
      | (refine' named_bad1 ?k1DK ?k2DK ?k3DK ?k4DK ?k5DK ?kKDK ?k6DK ?k7DK ?k8DK ?k9DK ?k10DK ?k11DK ?k12DK ?k13DK ?k14DK ?kEDK; (case k1DK => k_asm); (case k2DK => k_asm); (case k3DK => k_asm); (case k4DK => k_asm); (case k5DK => k_asm); (case kKDK => first | exact rfl | assumption); (case k6DK => k_mem); (case k7DK => k_mem); (case k8DK => assumption); (case k9DK => assumption); (case k10DK => assumption); (case k11DK => assumption); (case k12DK => assumption); (case k13DK => ktr_room); (case k14DK => ktr_units); (case kEDK => k_extra "my upE"))
      | (refine' named_bad2 ?k1DK ?k2DK ?k3DK ?k4DK ?k5DK ?kKDK ?k6DK ?k11DK ?k13DK ?k14DK ?kEDK; (case k1DK => k_asm); (case k2DK => k_asm); (case k3DK => k_asm); (case k4DK => k_asm); (case k5DK => k_asm); (case kKDK => first | exact rfl | assumption); (case k6DK => k_mem); (case k11DK => assumption); (case k13DK => ktr_room); (case k14DK => ktr_units); (case kEDK => k_extra "my upE"))
      | (refine' named_bad3 ?k1DK ?k2DK ?k3DK ?k4DK ?k5DK ?kKDK ?k6DK ?k11DK ?k13DK ?k14DK ?kEDK; (case k1DK => k_asm); (case k2DK => k_asm); (case k3DK => k_asm); (case k4DK => k_asm); (case k5DK => k_asm); (case kKDK => first | exact rfl | assumption); (case k6DK => k_mem); (case k11DK => assumption); (case k13DK => ktr_room); (case k14DK => ktr_units); (case kEDK => k_extra "my upE")))))
  k_with "my nocall" => ((with_reducible show wpAny _ _ (call (Value.ref 131) _ _) _ _ _))
  k_with "my call" => ((k_here; (with_reducible show wpAny _ _ (call (Value.ref 131) [_, _]) _ _ _); k_dflt (refine' named_good ?kxDR ?k1DR ?k2DR ?k3DR ?k4DR ?k5DR ?kKDR ?k6DR ?k7DR ?k8DR ?k9DR ?k10DR ?k13DR ?k14DR ?_; (case kxDR => assumption); (case k1DR => k_asm); (case k2DR => k_asm); (case k3DR => k_asm); (case k4DR => k_asm); (case k5DR => k_asm); (case kKDR => first | exact rfl | assumption); (case k6DR => k_mem); (case k7DR => k_mem); (case k8DR => assumption); (case k9DR => assumption); (case k10DR => assumption); (case k13DR => ktr_room); (case k14DR => ktr_units); k_whole); intro t1' h' tk' F' N'; (try k_sweep)))
  k_with "my nocall" => ((with_reducible show wpAny _ _ (call (Value.ref 131) _ _) _ _ _))
  trivial
theorem w69a : True := by
  k_with "my k_enter" => (first | k_extra "my enter" | k_extra "my enterC")
  k_with "execs cons" => (((with_reducible refine wpAny_execs_cons ?_); try dsimp only))
  k_with "execs nil" => ((with_reducible refine wpAny_execs_nil ?_))
  trivial
section
variable {prog : Program} {w : World} {A : Around} {E : Value → Shared → Prop} {s : Shared} {h₀ : Heap} {L a b z : Addr} {news all : List (Addr × Obj)} {t r : Tm} {tk tk2 tk3 : Tok} {e e2 e3 : Nat} {op op2 : Str} {v u : Value} {Q : Value → Shared → Prop}
theorem eq_zero_bw (N : News h₀ L s.heap all) (ha : (a, tupObj #[.str op tk2, v, .ref b] e2) ∈ all) (hin : TmIn news v t) (hb : (b, tupObj #[.str op2 tk3] e3) ∈ all) (hs : ∀ p ∈ news, p ∈ all) (hdt : t.depth ≤ 50) (hz : (z, tupObj #[.str (Str.ofString "zero") tk] e) ∈ all) (ho : PyData.canLay0 (.str op) = true) (ho2 : PyData.canLay0 (.str op2) = true) (hu : A.units + 64 < cLine) (h : Q (.bool false) s) :
    wpAny (model prog w) A (compareOp .Eq (.ref a) (.ref z)) Q E s := by
  obtain ⟨as, R⟩ := (hin.mono hs).reads N
  exact eq_zero_d (d := .tuple [.str op, t.data, .tuple [.str op2]]) (reads_tuple_at (N _ ha).1 rfl rfl (.cons (.str _ _) (.cons R (.cons (reads_tuple_at (N _ hb).1 rfl rfl (.cons (.str _ _) .nil)) .nil)))) N hz (by rw [PyData.canLay0]; simp only [PyData.canLayAll0, Bool.and_true, ho, t.canLay, Bool.true_and]; rw [PyData.canLay0]; simp only [PyData.canLayAll0, Bool.and_true, ho2]) (by simp [PyData.depth, PyData.depthAll, Tm.dataDepth]; omega) (by simp only [PyData.eqv, PyData.eqvAll, Bool.and_false]) hu h
end
def TimesW (op : Str) : List (Addr × Obj) → Value → Prop := fun news v => ∃ a tk e u t b tk2 e2, v = .ref a ∧ (a, tupObj #[.str (Str.ofString "times") tk, u, .ref b] e) ∈ news ∧ TmIn news u t ∧ t.depth ≤ 30 ∧ (b, tupObj #[.str op tk2] e2) ∈ news
def BadOK (w : World) (most : Nat) (e : Ev) (op : Str) : Prop := ValueSpec w (BadL op) none most e 0
theorem BadOK.use {w : World} {most : Nat} {e : Ev} {op : Str} (H : BadOK w most e op) : ValueSpec w (BadL op) none most e 0 := H
theorem w69b : True := by
  k_with "my none" => (exact rfl)
  k_with "compareOp Eq ref ref" => ((k_here; (with_reducible show wpAny _ _ (compareOp CmpOp.Eq (Value.ref _) (Value.ref _)) _ _ _); refine' eq_zero_bw (by assumption) (by k_mem) (by assumption) (by k_mem) (by k_extra "my sub") (by omega) (by k_mem) (by assumption) (by assumption) (by ktr_units) ?_))
  k_with "compareOp NotIn" => ((k_here; (with_reducible show wpAny _ _ (compareOp CmpOp.NotIn (Value.ref _) (Value.ref _)) _ _ _); k_dflt (refine' notin_ops false ?NDY ?aDY ?bDY ?cDY ?dDY ?eDY ?fDY ?gDY ?iDY ?_; (case NDY => k_asm); (case aDY => k_mem); (case bDY => k_mem); (case cDY => k_mem); (case dDY => k_mem); (case eDY => k_mem); (case fDY => decide +kernel); (case gDY => decide +kernel); (case iDY => ktr_units); k_whole)))
  k_with "my call" => ((k_here; (with_reducible show wpAny _ _ (call (Value.ref 164) [_, _, _]) _ _ _); (with_reducible rename BadOK _ _ _ _ => ih9DZ); k_dflt (refine' BadOK.use ih9DZ ?k1DZ ?k2DZ ?k3DZ ?k4DZ ?k5DZ ?kKDZ ?k6DZ ?k7DZ ?k8DZ ?k9DZ ?k10DZ ?k11DZ ?k12DZ ?k125DZ ?k13DZ ?k14DZ ?_ ?kEDZ; (case k1DZ => k_asm); (case k2DZ => k_asm); (case k3DZ => k_asm); (case k4DZ => k_asm); (case k5DZ => k_asm); (case kKDZ => first | exact rfl | assumption); (case k6DZ => exact ⟨_, _, _, rfl, by k_mem⟩); (case k7DZ => k_mem); (case k8DZ => assumption); (case k9DZ => assumption); (case k10DZ => assumption); (case k11DZ => k_mem); (case k12DZ => k_mem); (case k125DZ => k_extra "my dep"); (case k13DZ => ktr_room); (case k14DZ => ktr_units); (case kEDZ => k_extra "my callE"); k_whole); intro n' t1' h' tk' ho' F' N'; cases ho'))
  trivial
theorem val_timesw {w : World} {most : Nat} {e : Ev} {op : Str} (hev : e.ok) (hm0 : most ≤ 1000000) (IH2 : BadOK w most e op) (hop2 : PyData.canLay0 (.str op) = true) : ValueSpec w (TimesW op) none most e 31 := by
  intro mean mg mb dp un gd cn cs a ccd cl outer A₀ base h₀ L m news s Q E v de na nd oe t1 t2 t3 t4 t5 t6 t7 t8 B F X N T hk hin hde hds hdd hdf hna hnd hdp hd hu ret hE
  obtain ⟨sH, sG, sD, sT, sO⟩ := s
  (try dsimp only at F); (try dsimp only at N); (try dsimp only at ret); (try dsimp only at hE)
  have IH : ValFor w most e (fun _ => True) := fun {q} _ => val_all hev hm0 q
  have hop := op_ok.2.2.1
  obtain ⟨ta, tk, te, u, t, b, tk2, te2, rfl, hm, ht, hdt, hb⟩ := hin
  have hKM : KMark news (none = (none : Option Nat)) := True.intro
  replace N := newsCons (newsCons (newsCons (newsCons (newsCons N hde) (List.mem_cons_of_mem _ hnd)) (List.mem_cons_of_mem _ (List.mem_cons_of_mem _ hna))) (List.mem_cons_of_mem _ (List.mem_cons_of_mem _ (List.mem_cons_of_mem _ hm)))) (List.mem_cons_of_mem _ (List.mem_cons_of_mem _ (List.mem_cons_of_mem _ (List.mem_cons_of_mem _ hb))))
  refine ret_of (α := Unit) ?_
  refine wpAny_call ?_
  w_strict (k_dflt (k_extra "my enterC"))
  k_extra "my steps"
  all_goals (try dsimp only at *)
theorem w70 : True := by
  w_top off
  k_with_none
  k_with "my k_all" => (k_dflt (first | assumption | exact all_ne_sub9 (by assumption) (by k_extra "my sub") | exact all_ne_u0 (by assumption) (by k_extra "my sub") | exact all_ne_u1 (by assumption) (by k_extra "my sub") | exact all_ne_u2 (by assumption) (by k_extra "my sub") | exact all_ne_u3 (by assumption) (by k_extra "my sub") | exact all_ne_u4 (by assumption) (by k_extra "my sub") | (refine List.forall_mem_append.mpr ⟨?_, ?_⟩ <;> k_all)))
  k_with "my ktr_room" => (((try simp only [depth_under_make, depth_under_kw, depth_in1, depth_deeper, depth_caller]); (try dsimp only [ktrTop]); (try simp only [recursionLimit]); k_extra "my room"))
  k_with "my room" => (first | exact Nat.le_of_ble_eq_true rfl | exact rm0 hd rfl | exact rm1 hd rfl | exact rm5 hd rfl | exact rm6 hd rfl | exact rm4 hd rfl | exact rm2 hd rfl | exact rm3 hd rfl | exact rm7 hd rfl | exact rm8 (by assumption) rfl | omega)
  k_with "my units" => (first | exact Nat.le_of_ble_eq_true rfl | exact rm0 hu rfl | exact rm1 hu rfl | exact rm5 hu rfl | exact rm6 hu rfl | exact rm4 hu rfl | exact rm2 hu rfl | exact rm3 hu rfl | exact rm7 hu rfl | exact rm8 (by assumption) rfl | exact um1 hu rfl | exact um2 hu rfl | exact um3 hu rfl | exact um4 hu rfl | exact um5 hu rfl | (have hcL9 := cLine_is; omega))
  k_with "my dep" => (first | assumption | exact dm1 hdp | exact dm2 hdp | exact dm0 hdp | omega)
  k_with "my ktr_units" => (((try simp only [units_in1, units_deeper, Around.mark_units, units_caller]); (try dsimp only [ktrTop]); k_extra "my units"))
  k_with "my k_room" => (ktr_room)
  k_with "my k_units" => (ktr_units)
  k_with "my units_room" => (ktr_units)
  k_with "compareOp Eq ref ref" => ((k_here; (with_reducible show wpAny _ _ (compareOp CmpOp.Eq (Value.ref _) (Value.ref _)) _ _ _); first
      | refine' eq_zero_f (by assumption) (by assumption) (by k_extra "my sub") (by k_mem) (by first | rfl | exact mkOf_zero) (by omega) (by ktr_units) ?_
      | refine' eq_zero_t (by assumption) (by assumption) (by k_extra "my sub") (by k_mem) rfl (by omega) (by ktr_units) ?_))
  k_with "my k_ne" => (k_dflt (first | exact off_I (by assumption) (by k_mem) | exact off_C (by assumption) (by k_mem) | exact off_D (by assumption) (by k_mem) | assumption | exact ne_gt9 (by assumption) (by k_mem) | exact ne_lt9 (by assumption) (by k_mem) | exact ne_all9 (by assumption) (by k_mem) | exact ne_all9s (by assumption) (by k_mem) | exact ne_gt_u1 (by assumption) (by k_mem) | exact ne_lt_u1 (by assumption) (by k_mem) | exact ne_gt_u2 (by assumption) (by k_mem) | exact ne_lt_u2 (by assumption) (by k_mem) | exact ne_gt_u3 (by assumption) (by k_mem) | exact ne_lt_u3 (by assumption) (by k_mem) | exact ne_gt_u4 (by assumption) (by k_mem) | exact ne_lt_u4 (by assumption) (by k_mem)))
  k_with "my off" => (first | exact True.intro | (refine And.intro (off_at (by assumption) (by k_mem)) ?_; k_extra "my off") | (refine Off3.append ?_ ?_ <;> k_extra "my off") | (refine Off3.of_sub (by assumption) (fun p hp => ?_); simp only [List.mem_cons, List.mem_append, hp, true_or, or_true]; done) | (refine Off3.of_lt (by assumption) (by k_mem) (by k_mem) (by k_mem)))
  k_with "CompSrc" => ((k_here; k_dflt (refine LCg.CompSrc.range (by rfl) (by k_asm) (by k_asm) (by with_reducible assumption) (by first | decide | rfl) (by first | rfl | decide) (by first | size_fits | exact Nat.le_of_ble_eq_true rfl) ?_; intro g'; lcg_lit)))
  k_with "CompRest" => ((with_unfolding_all first
      | (refine CompRest_at (fun v9 h9 => (Option.some.inj h9).symm) ?_; intro I' oI' C' oC' D' m' h' tk' E' hC' hx' F' N' off' ne'; have offM := off'.mem; clear off')
      | (refine CompRest_ex (fun v9 h9 => h9) ?_; intro t9' I' oI' C' oC' D' m' h' tk' E' hC' hx' F' N' off' ne'; have offM := off'.mem; clear off')
      | (refine LCg.CompRest.succ ?_; intro v' I' oI' C' oC' D' m' h' tk' E' hv' hC' hx' F' N' off' ne'; have offM := off'.mem; (first | lcg_open hv' | (obtain ⟨t9', hv9'⟩ := hv'; subst hv9')); clear off')
      | refine LCg.CompRest.zero ?_))
  k_with "CompEnd" => ((k_here; (refine LCg.CompEnd.intro (by assumption) (by assumption) _ (fun p hp => hp) ?offAO ?srcAO ?_; (case offAO => k_extra "my off"); (case srcAO => first | lcg_src | ((try dsimp only); k_mem)))))
  k_with "my enter" => ((refine' code_def ?k1AP ?k2AP ?k3AP ?k4AP ?k5AP ?kAAP ?kFAP ?kKAP ?k6AP ?k7AP ?k8AP ?k9AP ?kBAP ?_ ?c2AP ?c3AP ?c4AP ?c5AP; (case kAAP => exact rfl); (case kFAP => exact rfl); (case kKAP => first | exact rfl | assumption); (case k1AP => k_asm); (case k2AP => k_asm); (case k3AP => k_asm); (case k4AP => k_asm); (case k5AP => k_asm); (case k6AP => k_is); (case k7AP => k_is); (case k8AP => ktr_room); (case k9AP => exact BindsTo.of_eq rfl); (case c5AP => decide); (case kBAP => exact locs rfl); (case c2AP => exact rfl); (case c3AP => exact rfl); (case c4AP => exact rfl); k_whole; intro g' L' h' FG' F' N' B' X' T'; (try dsimp only); (try k_fold)))
  k_with "my enterC" => ((refine' code_defC ?k1AQ ?k2AQ ?k3AQ ?k4AQ ?k5AQ ?kAAQ ?kFAQ ?kKAQ ?k6AQ ?k7AQ ?k8AQ ?k9AQ ?kBAQ ?kDAQ ?_ ?c2AQ ?c3AQ ?c4AQ; (case kAAQ => exact rfl); (case kFAQ => exact rfl); (case kKAQ => first | exact rfl | assumption); (case k1AQ => k_asm); (case k2AQ => k_asm); (case k3AQ => k_asm); (case k4AQ => k_asm); (case k5AQ => k_asm); (case k6AQ => k_is); (case k7AQ => k_is); (case k8AQ => ktr_room); (case k9AQ => exact BindsTo.of_eq rfl); (case kBAQ => exact rfl); (case kDAQ => decide +kernel); (case c2AQ => exact rfl); (case c3AQ => exact rfl); (case c4AQ => exact rfl); k_whole; intro g' L' h' tk' cells' FG' F'; (first | (refine cells_in1 ?_; intro o' d1' N') | (refine cells_in2 ?_; intro o' o2' d1' d2' N') | (refine cells_in3 ?_; intro o' o2' o3' d1' d2' d3' N') | (refine cells_in4 ?_; intro o' o2' o3' o4' d1' d2' d3' d4' N')); intro B' X' T' l1; (try k_lt l1); (try dsimp only); (try k_fold)))
  k_with "eval ListComp" => ((k_here; (with_reducible show wpAny _ _ (eval (Expr.ListComp _ [⟨Expr.Name _ _, Expr.Subscript _ (Expr.Slice (some _) _ _ _) _, [], 0⟩] _ _) _) _ _ _); k_dflt (refine comp_tup (by k_asm) (by with_unfolding_all rfl) (by decide) (by rfl) (by decide) (by rfl) ?_)))
  k_with "exec Assign cons ListComp" => ((k_here; (with_reducible show wpAny _ _ (exec (Stmt.Assign [Expr.Name _ _] (Expr.ListComp _ [⟨Expr.Name _ _, Expr.Subscript _ (Expr.Slice (some _) _ _ _) _, [], 0⟩] _ _) _) _) _ _ _); k_dflt (refine comp_tup_assign (by k_asm) (by rfl) (by with_unfolding_all rfl) (by with_unfolding_all rfl) (by decide) (by rfl) (by decide) (by rfl) (by rfl) (by rfl) ?_)))
  k_with "subscriptTail Name Slice ref ref" => ((k_here; (with_reducible show wpAny _ _ (subscriptTail _ (PySem.Expr.Slice (some _) none none _) (Value.ref _) (Value.ref _)) _ _ _); k_dflt (refine' slice_tup1 ?FAT ?NAT ?lAT ?pAT ?eAT ?_ ?sAT ?tAT ?zAT; (case FAT => k_asm); (case NAT => k_asm); (case lAT => k_mem); (case pAT => exact Nat.le_of_ble_eq_true rfl); (case eAT => kl_lit); (case sAT => with_unfolding_all rfl); (case tAT => kmk_pure); (case zAT => kmk_size)); intro D' h' F' N' l1; (try k_lt l1); (try k_sweep)))
  k_with "TupSrc" => ((k_here; k_dflt (refine TupSrc.of (by rfl) (by k_asm) (by k_asm) (by k_mem) (by first | size_fits | exact Nat.le_of_ble_eq_true rfl) ?_; intro g'; lcg_lit)))
  k_with "my steps" => (repeat' ((fail_if_success (with_reducible show Ret _ _ _)); first | ((with_reducible show wpAny _ _ (call (Value.ref _) _ _) _ _ _); k_extra "my call") | ((fail_if_success ((with_reducible show wpAny _ _ (call (Value.ref _) _ _) _ _ _); k_extra "my nocall")); first | (k_unfold; (try dsimp only)) | walk1 | (dsimp only; walk1) | (leave1; walk_say "STEP leave1"; try dsimp only))))
  k_with "my sub" => (first | (with_reducible exact sub_self _) | (with_reducible refine sub_cons ?_; k_extra "my sub") | (with_reducible refine sub_left ?_; k_extra "my sub") | (with_reducible refine sub_right ?_; k_extra "my sub") | (intro p hp; simp only [List.mem_cons, List.mem_append, hp, true_or, or_true]; done))
  k_with "my ord" => (k_dflt (first | assumption | exact lt_all (by assumption) (by k_mem) | exact lt_all_u1 (by assumption) (by k_mem) | exact lt_all_u2 (by assumption) (by k_mem) | omega))
  k_with "my allLt" => (first | exact allLt_of (by assumption) | exact allLt_sub (by assumption) (by k_extra "my sub") | tbn_find)
  k_with "FinE" => (((unfold LCg.FinE); intro D' h' tk' F' N' o1'; replace o1' := off1_mem o1'; (try dsimp only [List.nil_append, List.cons_append] at N'); (try dsimp only [List.nil_append, List.cons_append] at o1'); (try dsimp only)))
  k_with "FinA" => (((unfold LCg.FinA); intro D' h' tk' F' N' o1'; replace o1' := off1_mem o1'; (try dsimp only [List.nil_append, List.cons_append] at N'); (try dsimp only [List.nil_append, List.cons_append] at o1'); (try dsimp only)))
  k_with "my omega" => (first
      | ((with_reducible show @LE.le Nat _ _ _); first | exact Nat.le_of_ble_eq_true rfl | with_reducible (first | exact o1 ‹_› (by decide) | exact o4 ‹_› (by decide) | exact o7 ‹_› (by decide) | exact o8 ‹_› (by decide) | exact o9 ‹_› (by decide) | exact q6 ‹_› (by decide) | exact q0 ‹_› (by decide) | exact r0 ‹_› (by decide) | exact q1 ‹_› ‹_› (by decide) | exact q3 ‹_› ‹_› (by decide) | exact q7 ‹_› ‹_› (by decide) | exact q8 ‹_› ‹_› (by decide) | exact q9 ‹_› ‹_› | exact r1 ‹_› ‹_› (by decide) | exact r2 ‹_› ‹_› | exact r4 ‹_› ‹_› | exact r8 ‹_› ‹_› (by decide) | exact o0 ‹_› (by decide) | exact Nat.add_le_add ‹_› ‹_› | exact Nat.le_add_left _ _ | exact Nat.le_of_lt ‹_›))
      | ((with_reducible show @LT.lt Nat _ _ _); first | exact Nat.le_of_ble_eq_true rfl | with_reducible (first | exact o2 ‹_› (by decide) | exact o3 ‹_› (by decide) | exact o5 ‹_› (by decide) | exact o6 ‹_› (by decide) | exact p5 ‹_› (by decide) | exact j6 ‹_› (by decide) | exact q2 ‹_› ‹_› (by decide) | exact q4 ‹_› ‹_› (by decide) | exact q5 ‹_› ‹_› (by decide) | exact p1 ‹_› ‹_› (by decide) | exact p2 ‹_› ‹_› (by decide) | exact p3 ‹_› ‹_› (by decide) | exact p4 ‹_› ‹_› (by decide) | exact p6 ‹_› ‹_› (by decide)))
      | ((with_reducible show @LE.le Int _ _ _); first | decide +kernel | with_reducible (first | exact i1 ‹_› | exact i2 ‹_› | exact i6 | exact i7 | exact j7 ‹_› | exact j4 ‹_› (by decide +kernel) | exact i8 ‹_› (by decide +kernel) | exact i9 ‹_› (by decide +kernel) | exact i3 ‹_› ‹_› | exact i4 ‹_› ‹_› | exact i5 ‹_› ‹_›))
      | ((with_reducible show @LT.lt Int _ _ _); first | decide +kernel | with_reducible (first | exact j1 ‹_› | exact j5 (by decide +kernel) | exact j3 ‹_› (by decide +kernel) | exact j8 ‹_› (by decide +kernel) | exact j9 ‹_› (by decide +kernel) | exact l1 ‹_› (by decide +kernel) | exact l2 ‹_› (by decide +kernel) | exact l3 ‹_› (by decide +kernel) | exact j0 ‹_› ‹_› (by decide +kernel)))
      | ((with_reducible show @Ne Nat _ _); with_reducible (first | exact Nat.ne_of_gt ‹_› | exact Nat.ne_of_lt ‹_› | exact Nat.succ_ne_self _ | exact (Nat.succ_ne_self _).symm))
      | with_reducible (first | exact j2 ‹_› | exact z4 ‹_› ‹_› | exact z6 ‹_› ‹_› | exact z3 ‹_› | exact z2 ‹_› ‹_›))
  k_with "my x_close" => ((refine EndX.use (by assumption) ?_; exact ⟨_, rfl, by assumption⟩))
  k_with "exec Raise some none" => ((k_here; (with_reducible show wpAny _ _ (exec (Stmt.Raise (some (Expr.Call (Expr.Name _ _) (_ :: _) [] _)) none _) _) _ _ _); k_dflt (refine raise_fault (w := ‹World›) rfl ?_)))
  k_with "my fault" => (((with_reducible show wpAny _ _ (call (Value.ref 60) [Value.str _ _]) _ _ _); refine' fault_make ?kBCJ ?kFCJ ?kXCJ ?kNCJ ?kTCJ ?kACJ ?kfCJ ?kkCJ ?khCJ ?kdCJ ?kuCJ ?_; (case kACJ => exact rfl); (case kBCJ => k_asm); (case kFCJ => k_asm); (case kXCJ => k_asm); (case kNCJ => k_asm); (case kTCJ => k_asm); (case kfCJ => exact rfl); (case kkCJ => exact rfl); (case khCJ => exact rfl); (case kdCJ => ktr_room); (case kuCJ => ktr_units); intro hv tkv xv tv dv Fv Nv lv lt; refine ⟨xv, tv, dv, rfl, Frag.In.keeps (by k_asm) (Fr.keep (by assumption)), (Nv _ (.head _)).1, ?_⟩; show wpAny _ _ (leaving _ _) _ _ _; refine leave_fault (by assumption) Fv Nv (fun p hp => Nat.ne_of_lt (lv p hp)) (fun p hp => Nat.ne_of_lt (lt p hp)) rfl (fun h9 R9 U9 => ?_); exact raise_end (by assumption) (by k_extra "my none") (by assumption) R9 U9 (by k_extra "my sub")))
  k_with "joinParts" => ((k_here; first
      | ((with_reducible refine joinParts_consE ?_); (with_reducible refine' joinParts_gen ?hoCK ?hnCK ?_); (case hoCK => first | assumption | exact (show Str.empty.length ≤ 0 from by decide +kernel)); (case hnCK => exact Nat.le_of_ble_eq_true rfl))
      | ((with_reducible show wpAny _ _ (joinParts _ (_ :: _)) _ _ _); (with_reducible refine' joinParts_gen ?hoCK ?hnCK ?_); (case hoCK => first | assumption | exact (show Str.empty.length ≤ 0 from by decide +kernel)); (case hnCK => exact Nat.le_of_ble_eq_true rfl))
      | ((try with_reducible refine joinParts_nilE ?_); (with_reducible refine' joinParts_last ?hoCK ?hnCK ?_); (case hoCK => assumption); (case hnCK => exact Nat.le_of_ble_eq_true rfl); intro msg' hmsg')))
  k_with "StrPart" => ((k_here; (with_unfolding_all refine StrPart.intro ?hyCL ?_); (case hyCL => first | omega | decide +kernel | exact int_text30 (by omega)); intro out' hout'))
  k_with "formatField str" => ((k_here; (with_reducible show wpAny _ _ (formatField (Value.str _ _) Str.empty) _ _ _); (refine formatField_str ?_ (by rw [sizeLine_eq]; omega)); intro _ _))
  k_with "exec Assign cons ListComp" => ((k_here; (with_reducible show wpAny _ _ (exec (Stmt.Assign [Expr.Name _ _] (Expr.ListComp _ [⟨Expr.Name _ _, Expr.Subscript _ (Expr.Slice _ _ _ _) _, [], 0⟩] _ _) _) _) _ _ _); k_dflt (refine comp_tup_assignE (by k_asm) (by k_asm) (by rfl) (by rfl) (by rfl) (by with_unfolding_all rfl) (by with_unfolding_all rfl) (by decide) (by rfl) (by decide) (by rfl) (by rfl) (by rfl) ?_)))
  k_with "my heldE" => ((intro er9 h9 tk9 p9 U9; show wpAny _ _ (leaving _ _) _ _ _; refine leave_upF (by assumption) rfl U9 (fun h8 x8 t8 vs8 e8 R8 V8 => ?_); subst e8; exact raise_end (by assumption) p9 (by assumption) R8 V8 (fun _ h => h)))
  k_with "TupSrcE" => ((k_here; k_dflt (first
      | refine TupSrcE.of (by assumption) (by rfl) (by k_asm) (by k_asm) (by k_mem) (by first | size_fits | exact Nat.le_of_ble_eq_true rfl) 1 (by rfl) ?hKCU ?hECU ?_
      | refine TupSrcE.of (by assumption) (by rfl) (by k_asm) (by k_asm) (by k_mem) (by first | size_fits | exact Nat.le_of_ble_eq_true rfl) 2 (by rfl) ?hKCU ?hECU ?_); (case hKCU => k_extra "my sub"); (case hECU => k_extra "my heldE"); intro g'))
  k_with "RestE" => ((with_unfolding_all first
      | (refine RestE.at (fun v9 h9 => (Option.some.inj h9).symm) ?_; intro I' oI' C' oC' D' m' h' tk' hT' hC' hx' F' N' off' ne'; have offM := off'.mem; clear off')
      | (refine RestE.succ ?_; intro v' I' oI' C' oC' D' m' h' tk' hT' hv' hC' hx' F' N' off' ne'; have offM := off'.mem; lcg_open hv'; clear off')
      | refine RestE.zero ?_))
  k_with "EndT" => ((k_here; (refine EndT.intro (by assumption) (by assumption) ?offCW ?srcCW ?_; (case offCW => k_extra "my off"); (case srcCW => ((try dsimp only); refine ⟨by k_mem, ?_⟩; k_extra "my sub")))))
  k_with "FinAT" => (((unfold FinAT); intro D' h' tk' hT' F' N' o1'; replace o1' := off1_mem o1'; (try dsimp only [List.nil_append, List.cons_append] at o1'); (try dsimp only [List.nil_append, List.cons_append] at N'); (try dsimp only)))
  k_with "my callE" => ((intro p9 er9 h9 tk9 U9; exact ElE.intro (by k_extra "my none") U9 (fun _ h => h)))
  k_with "my call" => ((k_here; (with_reducible show wpAny _ _ (call (Value.ref 164) [_, _, _]) _ _ _); (with_reducible rename ValFor _ _ _ _ => ih9DA); k_dflt (refine' ih9DA ?ktDA ?k1DA ?k2DA ?k3DA ?k4DA ?k5DA ?kKDA ?k6DA ?k7DA ?k8DA ?k9DA ?k10DA ?k11DA ?k12DA ?k125DA ?k13DA ?k14DA ?_ ?kEDA; (case k1DA => k_asm); (case k2DA => k_asm); (case k3DA => k_asm); (case k4DA => k_asm); (case k5DA => k_asm); (case kKDA => first | exact rfl | assumption); (case k6DA => first | assumption | exact TmIn.mono (by assumption) (by k_extra "my sub")); (case ktDA => first | exact Or.inl rfl | exact Or.inr rfl | exact True.intro); (case k7DA => k_mem); (case k8DA => assumption); (case k9DA => assumption); (case k10DA => assumption); (case k11DA => k_mem); (case k12DA => k_mem); (case k125DA => k_extra "my dep"); (case k13DA => ktr_room); (case k14DA => ktr_units); (case kEDA => k_extra "my callE"); k_whole); intro n' t1' h' tk' ho' F' N'; obtain hb' := ev_le (by assumption) (by assumption) ho'; (try k_sweep)))
  k_with "my nocall" => ((with_reducible show wpAny _ _ (call (Value.ref 164) _ _) _ _ _))
  k_with "my upE" => ((intro p9 er9 h9 tk9 U9; show wpAny _ _ (leaving _ _) _ _ _; refine leave_up (by assumption) rfl U9 (fun h8 x8 t8 vs8 e8 R8 V8 => ?_); subst e8; exact raise_end (by assumption) (by k_extra "my none") (by assumption) R8 V8 (by k_extra "my sub")))
  k_with "my call" => ((k_here; (with_reducible show wpAny _ _ (call (Value.ref 131) [_, _]) _ _ _); k_dflt (first
      | (refine' named_bad1 ?k1DK ?k2DK ?k3DK ?k4DK ?k5DK ?kKDK ?k6DK ?k7DK ?k8DK ?k9DK ?k10DK ?k11DK ?k12DK ?k13DK ?k14DK ?kEDK; (case k1DK => k_asm); (case k2DK => k_asm); (case k3DK => k_asm); (case k4DK => k_asm); (case k5DK => k_asm); (case kKDK => first | exact rfl | assumption); (case k6DK => k_mem); (case k7DK => k_mem); (case k8DK => assumption); (case k9DK => assumption); (case k10DK => assumption); (case k11DK => assumption); (case k12DK => assumption); (case k13DK => ktr_room); (case k14DK => ktr_units); (case kEDK => k_extra "my upE"))
      | (refine' named_bad2 ?k1DK ?k2DK ?k3DK ?k4DK ?k5DK ?kKDK ?k6DK ?k11DK ?k13DK ?k14DK ?kEDK; (case k1DK => k_asm); (case k2DK => k_asm); (case k3DK => k_asm); (case k4DK => k_asm); (case k5DK => k_asm); (case kKDK => first | exact rfl | assumption); (case k6DK => k_mem); (case k11DK => assumption); (case k13DK => ktr_room); (case k14DK => ktr_units); (case kEDK => k_extra "my upE"))
      | (refine' named_bad3 ?k1DK ?k2DK ?k3DK ?k4DK ?k5DK ?kKDK ?k6DK ?k11DK ?k13DK ?k14DK ?kEDK; (case k1DK => k_asm); (case k2DK => k_asm); (case k3DK => k_asm); (case k4DK => k_asm); (case k5DK => k_asm); (case kKDK => first | exact rfl | assumption); (case k6DK => k_mem); (case k11DK => assumption); (case k13DK => ktr_room); (case k14DK => ktr_units); (case kEDK => k_extra "my upE")))))
  k_with "my nocall" => ((with_reducible show wpAny _ _ (call (Value.ref 131) _ _) _ _ _))
  k_with "my call" => ((k_here; (with_reducible show wpAny _ _ (call (Value.ref 131) [_, _]) _ _ _); k_dflt (refine' named_good ?kxDR ?k1DR ?k2DR ?k3DR ?k4DR ?k5DR ?kKDR ?k6DR ?k7DR ?k8DR ?k9DR ?k10DR ?k13DR ?k14DR ?_; (case kxDR => assumption); (case k1DR => k_asm); (case k2DR => k_asm); (case k3DR => k_asm); (case k4DR => k_asm); (case k5DR => k_asm); (case kKDR => first | exact rfl | assumption); (case k6DR => k_mem); (case k7DR => k_mem); (case k8DR => assumption); (case k9DR => assumption); (case k10DR => assumption); (case k13DR => ktr_room); (case k14DR => ktr_units); k_whole); intro t1' h' tk' F' N'; (try k_sweep)))
  k_with "my nocall" => ((with_reducible show wpAny _ _ (call (Value.ref 131) _ _) _ _ _))
  k_with "my call" => ((k_here; (with_reducible show wpAny _ _ (call (Value.ref 164) [_, _, _]) _ _ _); (with_reducible rename BadOK _ _ _ _ => ih9DZ); k_dflt (refine' BadOK.use ih9DZ ?k1DZ ?k2DZ ?k3DZ ?k4DZ ?k5DZ ?kKDZ ?k6DZ ?k7DZ ?k8DZ ?k9DZ ?k10DZ ?k11DZ ?k12DZ ?k125DZ ?k13DZ ?k14DZ ?_ ?kEDZ; (case k1DZ => k_asm); (case k2DZ => k_asm); (case k3DZ => k_asm); (case k4DZ => k_asm); (case k5DZ => k_asm); (case kKDZ => first | exact rfl | assumption); (case k6DZ => exact ⟨_, _, _, rfl, by k_mem⟩); (case k7DZ => k_mem); (case k8DZ => assumption); (case k9DZ => assumption); (case k10DZ => assumption); (case k11DZ => k_mem); (case k12DZ => k_mem); (case k125DZ => k_extra "my dep"); (case k13DZ => ktr_room); (case k14DZ => ktr_units); (case kEDZ => k_extra "my callE"); k_whole); intro n' t1' h' tk' ho' F' N'; cases ho'))
  trivial
section
variable {prog : Program} {w : World} {A₀ A : Around} {s : Shared} {base h₀ : Heap} {L : Addr} {m : Str → Option Value} {env : Env} {news : List (Addr × Obj)} {K : Frag} {p : Program} {loose : List Str} {mean : ExcName → Option Value} {mg mb : Str → Option Value}
    {R : Result → Shared → Prop} {name qual : Str} {params : Arguments} {body : List Stmt} {scope : Scope} {dV kV doc pm cdv ct oc : Value} {an od : Option Addr} {osl : Array (Option Value)} {f : Addr} {args : Args} {binds : List (Str × Value)}
theorem code_told (B : Below A₀ base [] h₀) (F : Fr h₀ L s.heap m) (X₀ : K.In h₀) (N : News h₀ L s.heap news) (T : Top p loose mean mg mb h₀) (hA : A.frames = some [env]) (hf : env.frame = some L) (hke : env.scope.kind = .function)
    (ho : K.lookup f = some ⟨oc, od, .func (fnOf name qual params body scope dV kV doc pm an cdv ct), osl⟩) (hcd : codeIn K cdv qual = true) (hroom : A.depth < recursionLimit)
    (hbind : BindsTo s (fnOf name qual params body scope dV kV doc pm an cdv ct) args binds) (hloc : ∀ y ∈ binds, scope.names.lookup y.1 = some .local)
    (h : ∀ g L' h₁, Fr h₀ L g m → Fr g L' h₁ (fun y => binds.reverse.lookup y) → News g L' h₁ news → Below A base [env] g → K.In g → Top p loose mean mg mb g → KtsDicts ([env].filterMap (·.frame)) g →
      wpAny (model prog w) (A.deeper (envOf qual scope L' f cdv)) (execs body (envOf qual scope L' f cdv))
        (fun fl s' => LeaveS0 ([env].filterMap (·.frame)) h₀ L m g R (match fl with | .ret v => v | _ => .none) s')
        (fun e s' => wpAny (model prog w) (A.deeper (envOf qual scope L' f cdv)) (leaving (envOf qual scope L' f cdv) e) (fun _ s'' => R (.error e) s'') (fun e' s'' => R (.error e') s'') s')
        { s with heap := h₁, toks := s.toks + binds.length })
    (hco : scope.isCoroutine = false) (hgen : scope.isGenerator = false) (hk : scope.kind = .function)
    (hcell : ∀ x ∈ scope.names, x.2 ≠ .cell) : codeAny (model prog w) A (.call (.ref f) args) R s := by
  have X := X₀.keeps F.keep
  refine codeAny_call_def (fd := fnOf name qual params body scope dV kV doc pm an cdv ct) (body := body) (binds := binds) hroom (X _ _ ho) rfl (T.nolimit.keeps F.keep) (codeRec_of X hcd) rfl hbind hcell hloc (fun h₁ hns hk₁ => ?_) hco hgen hk
  obtain ⟨FG, BG, st, _⟩ := groundX (R := R) B F N hA hf hke
  obtain ⟨oL, es, ep, hLg, hLd, hLk, hLf⟩ := FG.ns
  refine wpAny_mono (h _ s.heap.objs.size h₁ FG ⟨hns, fun b o e => hk₁ b o (of_hideAll _ e), Nat.le_of_eq (hideAll_size _ _)⟩
    (fun p hp => ⟨hk₁ _ _ (N p hp).1, Nat.ne_of_lt (Heap.lt_size (N p hp).1), hideAll_none _ (List.mem_map_of_mem hp)⟩) BG (X₀.keeps st) (T.keeps st) (fun b hb => by
      rcases mem_fr hf hb with rfl | z
      · exact ⟨oL, es, ep, hLg, hLd⟩
      · simp at z)) (fun fl s' hl => ?_) fun _ _ y => y
  obtain ⟨g', L', m', news', T', F', N', k⟩ := hl
  have nL₀ : h₀.get? L = none := kts_self F
  obtain ⟨sl, hs⟩ := T'.up hLg
  refine k ⟨⟨_, es, ep, F'.keep _ _ hs, hLd, hLk, hLf⟩, fun b o e => F'.keep b o (T'.other b o (st b o e) (fun q => by
    rcases mem_fr hf q with z | z
    · rw [z, nL₀] at e
      cases e
    · simp at z)), F.above⟩ fun p hp => ⟨(N' p hp).1, fun q => ?_, ?_⟩
  · have := (N' p hp).2.2; rw [q, hs] at this; cases this
  · cases q : h₀.get? p.1 with
    | none => rfl
    | some o =>
      obtain ⟨sl', hs'⟩ := T'.up (st _ _ q)
      have := (N' p hp).2.2
      rw [hs'] at this
      cases this
end
def ToldSpec (w : World) (R : List (Addr × Obj) → Value → Prop) (o : Option Nat) (most : Nat) (e : Ev) (d : Nat) : Prop :=
  ∀ {mean : ExcName → Option Value} {mg mb : Str → Option Value}
    {dp un : Nat} {gd : Option (List Code)} {cn : Str} {cs : Scope} {a : Addr} {ccd : Value} {cl : List (Str × Addr)} {A₀ : Around} {base h₀ : Heap} {L : Addr} {m : Str → Option Value} {news : List (Addr × Obj)} {s : Shared}
    {Q E : Value → Shared → Prop}
    {v : Value} {de na nd : Addr} {oe : Obj} {t1 t2 t3 t4 t5 t6 t7 t8 : Tok}
    (_ : Below A₀ base [] h₀) (_ : Fr h₀ L s.heap m) (_ : (hd.heap_1 w.params).In h₀) (_ : News h₀ L s.heap news)
    (_ : Top view LO mean mg mb h₀) (_ : (hd.heap_1 w.params).In base) (_ : Top view LO mean mg mb base) (_ : cs.kind = .function)
    (_ : R news v) (_ : (de, oe) ∈ news) (_ : (de == sysModules) = false)
    (_ : Obj.IsDictOf (PySem.strKind PySem.Challenge.rw_pq0002_01.row.prog w) oe (strPairs (envKV e t1 t2 t3 t4 t5 t6)))
    (_ : PyProof.V.FlatPairs PyData.str (strPairs (envKV e t1 t2 t3 t4 t5 t6)) (strData (envKV e t1 t2 t3 t4 t5 t6)))
    (_ : (na, instObj 167 nd) ∈ news) (_ : (nd, natObj w t7 t8 most) ∈ news)
    (_ : d ≤ 40) (_ : dp + 5 * d < 740) (_ : un + 20 * d < 3600)
    (_ : ∀ n t1' h' tk', o = some n → Fr h₀ L h' m → News h₀ L h' news → Q (.int (n : Nat) t1') { s with heap := h', toks := tk' })
    (_ : ∀ h' tk', o = none → Fr h₀ L h' m → News h₀ L h' news → Q .none { s with heap := h', toks := tk' }),
    wpAny (model PySem.Challenge.rw_pq0002_01.row.prog w) (ktrTop dp un gd cn cs L a ccd cl []) (call (.ref 212) [.ref na, v, .ref de]) Q E s
def IsVal (w : World) (R : List (Addr × Obj) → Value → Prop) (o : Option Nat) (most : Nat) (e : Ev) (d : Nat) : Prop := ValueSpec w R o most e d
theorem IsVal.use {w : World} {R : List (Addr × Obj) → Value → Prop} {o : Option Nat} {most : Nat} {e : Ev} {d : Nat} (H : IsVal w R o most e d) : ValueSpec w R o most e d := H
theorem w70a : True := by
  k_with "my call" => ((k_here; (with_reducible show wpAny _ _ (call (Value.ref 164) [_, _, _]) _ _ _); (with_reducible rename IsVal _ _ _ _ _ _ => ih9EA); k_dflt (refine' IsVal.use ih9EA ?k1EA ?k2EA ?k3EA ?k4EA ?k5EA ?kKEA ?k6EA ?k7EA ?k8EA ?k9EA ?k10EA ?k11EA ?k12EA ?k125EA ?k13EA ?k14EA ?_ ?kEEA; (case k1EA => k_asm); (case k2EA => k_asm); (case k3EA => k_asm); (case k4EA => k_asm); (case k5EA => k_asm); (case kKEA => first | exact rfl | assumption); (case k6EA => assumption); (case k7EA => k_mem); (case k8EA => assumption); (case k9EA => assumption); (case k10EA => assumption); (case k11EA => k_mem); (case k12EA => k_mem); (case k125EA => k_extra "my dep"); (case k13EA => ktr_room); (case k14EA => ktr_units); rotate_left; (intro p9 er9 h9 tk9 U9; obtain ⟨x9, t9, vs9, g9, e9, F9, R9, V9⟩ := U9; subst e9; (try dsimp only)); rotate_left; k_whole); intro n' t1' h' tk' ho' F' N'; (try k_sweep)))
  k_with "my nocall" => ((with_reducible show wpAny _ _ (call (Value.ref 164) _ _) _ _ _))
  trivial
theorem told_of {w : World} {R : List (Addr × Obj) → Value → Prop} {o : Option Nat} {most : Nat} {e : Ev} {d : Nat} (H : IsVal w R o most e d) (hR : ∀ l l' v, R l v → (∀ p ∈ l, p ∈ l') → R l' v) : ToldSpec w R o most e d := by
  intro mean mg mb dp un gd cn cs a ccd cl A₀ base h₀ L m news s Q E v de na nd oe t1 t2 t3 t4 t5 t6 t7 t8 B F X N T XB TB hk hin hde hds hdd hdf hna hnd hdp hd hu ret retN
  obtain ⟨sH, sG, sD, sT, sO⟩ := s
  (try dsimp only at F); (try dsimp only at N); (try dsimp only at ret); (try dsimp only at retN)
  replace hin := hR _ ((na, instObj 167 nd) :: (nd, natObj w t7 t8 most) :: (de, oe) :: news) _ hin (fun p hp => .tail _ (.tail _ (.tail _ hp)))
  replace N := newsCons (newsCons (newsCons N hde) (List.mem_cons_of_mem _ hnd)) (List.mem_cons_of_mem _ (List.mem_cons_of_mem _ hna))
  clear hR
  refine ret_of (α := Unit) ?_
  refine wpAny_call ?_
  w_strict (k_dflt (refine' code_told ?k1 ?k2 ?k3 ?k4 ?k5 ?kA ?kF ?kK ?k6 ?k7 ?k8 ?k9 ?kB ?_ ?c2 ?c3 ?c4 ?c5; (case kA => exact rfl); (case kF => exact rfl); (case kK => first | exact rfl | assumption); (case k2 => k_asm); (case k1 => k_asm); (case k3 => k_asm); (case k4 => k_asm); (case k5 => k_asm); (case k6 => k_is); (case k7 => k_is); (case k8 => ktr_room); (case k9 => exact BindsTo.of_eq rfl); (case kB => exact locs rfl); (case c2 => exact rfl); (case c3 => exact rfl); (case c4 => exact rfl); (case c5 => decide); k_whole; intro g' L' h' FG' F' N' B' X' T' D'; (try dsimp only); (try k_fold)))
  k_extra "my steps"
  all_goals (try dsimp only at *)
  all_goals ((rename Fr h₀ L _ m => fX); (rename News h₀ L _ _ => nX); first
    | exact ret _ _ _ _ (by assumption) fX (news_of nX (by k_extra "my sub"))
    | exact retN _ _ (by assumption) fX (news_of nX (by k_extra "my sub")))
def vbd : Nat → Nat
  | 0 => 3
  | d + 1 => vbd d * vbd d
theorem vbd_ge (d : Nat) : 3 ≤ vbd d := by
  induction d with
  | zero => exact Nat.le_refl 3
  | succ d ih => show 3 ≤ vbd d * vbd d; exact Nat.le_trans (by decide : 3 ≤ 3 * 3) (Nat.mul_le_mul ih ih)
theorem vbd_mono {a b : Nat} (h : a ≤ b) : vbd a ≤ vbd b := by
  induction h with
  | refl => exact Nat.le_refl _
  | step _ ih => exact Nat.le_trans ih (by show vbd _ ≤ vbd _ * vbd _; exact Nat.le_mul_of_pos_right _ (Nat.lt_of_lt_of_le (by decide) (vbd_ge _)))
theorem Tm.val_bd {e : Ev} (he : e.ok) : ∀ (t : Tm), t.val e ≤ vbd t.depth
  | .nm n => n.val_le he
  | .suc t => by
    have h := t.val_bd he
    have g := vbd_ge t.depth
    have k : 3 * vbd t.depth ≤ vbd t.depth * vbd t.depth := Nat.mul_le_mul_right _ g
    exact Nat.le_trans (Nat.add_le_add h (Nat.le_trans (by decide) g)) (Nat.le_trans r9 k)
  | .plus t u => by
    have h := Nat.le_trans (t.val_bd he) (vbd_mono (Nat.le_max_left t.depth u.depth))
    have h2 := Nat.le_trans (u.val_bd he) (vbd_mono (Nat.le_max_right t.depth u.depth))
    have g := vbd_ge (max t.depth u.depth)
    have k : 3 * vbd (max t.depth u.depth) ≤ vbd (max t.depth u.depth) * vbd (max t.depth u.depth) := Nat.mul_le_mul_right _ g
    exact Nat.le_trans (Nat.add_le_add h h2) (Nat.le_trans r9 k)
  | .times t u => Nat.mul_le_mul (Nat.le_trans (t.val_bd he) (vbd_mono (Nat.le_max_left t.depth u.depth))) (Nat.le_trans (u.val_bd he) (vbd_mono (Nat.le_max_right t.depth u.depth)))
theorem vbd_vals : vbd 0 = 3 ∧ vbd 1 = 9 ∧ vbd 2 = 81 ∧ vbd 3 = 6561 := by decide
theorem Tm.val3 {e : Ev} (he : e.ok) {t : Tm} (h : t.depth ≤ 3) : t.val e ≤ 6561 := Nat.le_trans (t.val_bd he) (Nat.le_trans (vbd_mono h) (by decide))
theorem Tm.val2 {e : Ev} (he : e.ok) {t : Tm} (h : t.depth ≤ 2) : t.val e ≤ 81 := Nat.le_trans (t.val_bd he) (Nat.le_trans (vbd_mono h) (by decide))
theorem Tm.val1 {e : Ev} (he : e.ok) {t : Tm} (h : t.depth ≤ 1) : t.val e ≤ 9 := Nat.le_trans (t.val_bd he) (Nat.le_trans (vbd_mono h) (by decide))
theorem max3_le {a b c m : Nat} (h : max a (max b c) ≤ m) : a ≤ m ∧ b ≤ m ∧ c ≤ m := ⟨(Nat.max_le.mp h).1, Nat.max_le.mp (Nat.max_le.mp h).2⟩
theorem max3_of {a b c m : Nat} (h : m < max a (max b c)) (h1 : b ≤ m) (h2 : c ≤ m) : ¬ a ≤ m := fun h3 => absurd (Nat.max_le.mpr ⟨h3, Nat.max_le.mpr ⟨h1, h2⟩⟩) (Nat.not_le_of_lt h)
theorem Tm.small_of {e : Ev} (he : e.ok) : ∀ (t : Tm), t.depth ≤ 3 → t.small e
  | .nm _, _ => True.intro
  | .suc t, h => ⟨t.small_of he (Nat.le_of_succ_le h), Nat.le_trans (Nat.add_le_add_right (Tm.val2 he (Nat.le_of_succ_le_succ h)) 1) (by decide)⟩
  | .plus t u, h => ⟨t.small_of he (dm1 h), u.small_of he (dm2 h), Nat.le_trans (Nat.add_le_add (Tm.val2 he (Nat.le_trans (Nat.le_max_left _ _) (Nat.le_of_succ_le_succ h))) (Tm.val2 he (Nat.le_trans (Nat.le_max_right _ _) (Nat.le_of_succ_le_succ h)))) (by decide)⟩
  | .times t u, h => ⟨t.small_of he (dm1 h), u.small_of he (dm2 h), Nat.le_trans (Tm.val2 he (Nat.le_trans (Nat.le_max_left _ _) (Nat.le_of_succ_le_succ h))) (by decide), Nat.le_trans (Tm.val2 he (Nat.le_trans (Nat.le_max_right _ _) (Nat.le_of_succ_le_succ h))) (by decide)⟩
theorem Tm.top_le {e : Ev} (he : e.ok) : ∀ (t : Tm), t.depth ≤ 3 → t.top e ≤ 6561
  | .nm _, _ => Nat.zero_le _
  | .suc t, h => Nat.max_le.mpr ⟨Tm.val3 (t := .suc t) he h, t.top_le he (Nat.le_of_succ_le h)⟩
  | .plus t u, h => Nat.max_le.mpr ⟨Tm.val3 (t := .plus t u) he h, Nat.max_le.mpr ⟨t.top_le he (dm1 h), u.top_le he (dm2 h)⟩⟩
  | .times t u, h => Nat.max_le.mpr ⟨Tm.val3 (t := .times t u) he h, Nat.max_le.mpr ⟨t.top_le he (dm1 h), u.top_le he (dm2 h)⟩⟩
theorem Tm.ev_le (e : Ev) (most : Nat) : ∀ t : Tm, t.top e ≤ most → t.ev e most = some (t.val e)
  | .nm _, _ => rfl
  | .suc t, h => by
    have h1 := Nat.max_le.mp (show max (t.val e + 1) (t.top e) ≤ most from h)
    simp only [Tm.ev, Tm.val, t.ev_le e most h1.2]
    exact if_pos h1.1
  | .plus t u, h => by
    have h1 := max3_le (show max (t.val e + u.val e) (max (t.top e) (u.top e)) ≤ most from h)
    simp only [Tm.ev, Tm.val, t.ev_le e most h1.2.1, u.ev_le e most h1.2.2]
    exact if_pos h1.1
  | .times t u, h => by
    have h1 := max3_le (show max (t.val e * u.val e) (max (t.top e) (u.top e)) ≤ most from h)
    simp only [Tm.ev, Tm.val, t.ev_le e most h1.2.1, u.ev_le e most h1.2.2]
    exact if_pos h1.1
theorem Tm.ev_gt (e : Ev) (most : Nat) : ∀ t : Tm, most < t.top e → t.ev e most = none
  | .nm _, h => absurd h (Nat.not_lt_zero _)
  | .suc t, h => by
    by_cases h1 : t.top e ≤ most
    · simp only [Tm.ev, t.ev_le e most h1]; exact if_neg fun h2 => absurd (Nat.max_le.mpr ⟨h2, h1⟩) (Nat.not_le_of_lt h)
    · simp only [Tm.ev, t.ev_gt e most (Nat.lt_of_not_le h1)]
  | .plus t u, h => by
    by_cases h1 : t.top e ≤ most
    · by_cases h2 : u.top e ≤ most
      · simp only [Tm.ev, t.ev_le e most h1, u.ev_le e most h2]; exact if_neg (max3_of h h1 h2)
      · exact ev_plus_n2 (u.ev_gt e most (Nat.lt_of_not_le h2))
    · exact ev_plus_n1 (t.ev_gt e most (Nat.lt_of_not_le h1))
  | .times t u, h => by
    by_cases h1 : t.top e ≤ most
    · by_cases h2 : u.top e ≤ most
      · simp only [Tm.ev, t.ev_le e most h1, u.ev_le e most h2]; exact if_neg (max3_of h h1 h2)
      · exact ev_times_n2 (u.ev_gt e most (Nat.lt_of_not_le h2))
    · exact ev_times_n1 (t.ev_gt e most (Nat.lt_of_not_le h1))
theorem Tm.ev_some {e : Ev} {most n : Nat} {t : Tm} (h : t.ev e most = some n) : t.top e ≤ most ∧ n = t.val e := by
  by_cases h2 : t.top e ≤ most
  · rw [t.ev_le e most h2] at h; exact ⟨h2, (Option.some.inj h).symm⟩
  · rw [t.ev_gt e most (Nat.lt_of_not_le h2)] at h; cases h
theorem Tm.ev_none {e : Ev} {most : Nat} {t : Tm} (h : t.ev e most = none) : most < t.top e := by
  by_cases h2 : t.top e ≤ most
  · rw [t.ev_le e most h2] at h; cases h
  · exact Nat.lt_of_not_le h2
theorem w72 : True := by
  w_top off
  k_with_none
  k_with "my k_all" => (k_dflt (first | assumption | exact all_ne_sub9 (by assumption) (by k_extra "my sub") | exact all_ne_u0 (by assumption) (by k_extra "my sub") | exact all_ne_u1 (by assumption) (by k_extra "my sub") | exact all_ne_u2 (by assumption) (by k_extra "my sub") | exact all_ne_u3 (by assumption) (by k_extra "my sub") | exact all_ne_u4 (by assumption) (by k_extra "my sub") | (refine List.forall_mem_append.mpr ⟨?_, ?_⟩ <;> k_all)))
  k_with "my ktr_room" => (((try simp only [depth_under_make, depth_under_kw, depth_in1, depth_deeper, depth_caller]); (try dsimp only [ktrTop]); (try simp only [recursionLimit]); k_extra "my room"))
  k_with "my room" => (first | exact Nat.le_of_ble_eq_true rfl | exact rm0 hd rfl | exact rm1 hd rfl | exact rm5 hd rfl | exact rm6 hd rfl | exact rm4 hd rfl | exact rm2 hd rfl | exact rm3 hd rfl | exact rm7 hd rfl | exact rm8 (by assumption) rfl | omega)
  k_with "my units" => (first | exact Nat.le_of_ble_eq_true rfl | exact rm0 hu rfl | exact rm1 hu rfl | exact rm5 hu rfl | exact rm6 hu rfl | exact rm4 hu rfl | exact rm2 hu rfl | exact rm3 hu rfl | exact rm7 hu rfl | exact rm8 (by assumption) rfl | exact um1 hu rfl | exact um2 hu rfl | exact um3 hu rfl | exact um4 hu rfl | exact um5 hu rfl | (have hcL9 := cLine_is; omega))
  k_with "my dep" => (first | assumption | exact dm1 hdp | exact dm2 hdp | exact dm0 hdp | omega)
  k_with "my ktr_units" => (((try simp only [units_in1, units_deeper, Around.mark_units, units_caller]); (try dsimp only [ktrTop]); k_extra "my units"))
  k_with "my k_room" => (ktr_room)
  k_with "my k_units" => (ktr_units)
  k_with "my units_room" => (ktr_units)
  k_with "compareOp Eq ref ref" => ((k_here; (with_reducible show wpAny _ _ (compareOp CmpOp.Eq (Value.ref _) (Value.ref _)) _ _ _); first
      | refine' eq_zero_f (by assumption) (by assumption) (by k_extra "my sub") (by k_mem) (by first | rfl | exact mkOf_zero) (by omega) (by ktr_units) ?_
      | refine' eq_zero_t (by assumption) (by assumption) (by k_extra "my sub") (by k_mem) rfl (by omega) (by ktr_units) ?_))
  k_with "my k_ne" => (k_dflt (first | exact off_I (by assumption) (by k_mem) | exact off_C (by assumption) (by k_mem) | exact off_D (by assumption) (by k_mem) | assumption | exact ne_gt9 (by assumption) (by k_mem) | exact ne_lt9 (by assumption) (by k_mem) | exact ne_all9 (by assumption) (by k_mem) | exact ne_all9s (by assumption) (by k_mem) | exact ne_gt_u1 (by assumption) (by k_mem) | exact ne_lt_u1 (by assumption) (by k_mem) | exact ne_gt_u2 (by assumption) (by k_mem) | exact ne_lt_u2 (by assumption) (by k_mem) | exact ne_gt_u3 (by assumption) (by k_mem) | exact ne_lt_u3 (by assumption) (by k_mem) | exact ne_gt_u4 (by assumption) (by k_mem) | exact ne_lt_u4 (by assumption) (by k_mem)))
  k_with "my off" => (first | exact True.intro | (refine And.intro (off_at (by assumption) (by k_mem)) ?_; k_extra "my off") | (refine Off3.append ?_ ?_ <;> k_extra "my off") | (refine Off3.of_sub (by assumption) (fun p hp => ?_); simp only [List.mem_cons, List.mem_append, hp, true_or, or_true]; done) | (refine Off3.of_lt (by assumption) (by k_mem) (by k_mem) (by k_mem)))
  k_with "CompSrc" => ((k_here; k_dflt (refine LCg.CompSrc.range (by rfl) (by k_asm) (by k_asm) (by with_reducible assumption) (by first | decide | rfl) (by first | rfl | decide) (by first | size_fits | exact Nat.le_of_ble_eq_true rfl) ?_; intro g'; lcg_lit)))
  k_with "CompRest" => ((with_unfolding_all first
      | (refine CompRest_at (fun v9 h9 => (Option.some.inj h9).symm) ?_; intro I' oI' C' oC' D' m' h' tk' E' hC' hx' F' N' off' ne'; have offM := off'.mem; clear off')
      | (refine CompRest_ex (fun v9 h9 => h9) ?_; intro t9' I' oI' C' oC' D' m' h' tk' E' hC' hx' F' N' off' ne'; have offM := off'.mem; clear off')
      | (refine LCg.CompRest.succ ?_; intro v' I' oI' C' oC' D' m' h' tk' E' hv' hC' hx' F' N' off' ne'; have offM := off'.mem; (first | lcg_open hv' | (obtain ⟨t9', hv9'⟩ := hv'; subst hv9')); clear off')
      | refine LCg.CompRest.zero ?_))
  k_with "CompEnd" => ((k_here; (refine LCg.CompEnd.intro (by assumption) (by assumption) _ (fun p hp => hp) ?offAO ?srcAO ?_; (case offAO => k_extra "my off"); (case srcAO => first | lcg_src | ((try dsimp only); k_mem)))))
  k_with "my enter" => ((refine' code_def ?k1AP ?k2AP ?k3AP ?k4AP ?k5AP ?kAAP ?kFAP ?kKAP ?k6AP ?k7AP ?k8AP ?k9AP ?kBAP ?_ ?c2AP ?c3AP ?c4AP ?c5AP; (case kAAP => exact rfl); (case kFAP => exact rfl); (case kKAP => first | exact rfl | assumption); (case k1AP => k_asm); (case k2AP => k_asm); (case k3AP => k_asm); (case k4AP => k_asm); (case k5AP => k_asm); (case k6AP => k_is); (case k7AP => k_is); (case k8AP => ktr_room); (case k9AP => exact BindsTo.of_eq rfl); (case c5AP => decide); (case kBAP => exact locs rfl); (case c2AP => exact rfl); (case c3AP => exact rfl); (case c4AP => exact rfl); k_whole; intro g' L' h' FG' F' N' B' X' T'; (try dsimp only); (try k_fold)))
  k_with "my enterC" => ((refine' code_defC ?k1AQ ?k2AQ ?k3AQ ?k4AQ ?k5AQ ?kAAQ ?kFAQ ?kKAQ ?k6AQ ?k7AQ ?k8AQ ?k9AQ ?kBAQ ?kDAQ ?_ ?c2AQ ?c3AQ ?c4AQ; (case kAAQ => exact rfl); (case kFAQ => exact rfl); (case kKAQ => first | exact rfl | assumption); (case k1AQ => k_asm); (case k2AQ => k_asm); (case k3AQ => k_asm); (case k4AQ => k_asm); (case k5AQ => k_asm); (case k6AQ => k_is); (case k7AQ => k_is); (case k8AQ => ktr_room); (case k9AQ => exact BindsTo.of_eq rfl); (case kBAQ => exact rfl); (case kDAQ => decide +kernel); (case c2AQ => exact rfl); (case c3AQ => exact rfl); (case c4AQ => exact rfl); k_whole; intro g' L' h' tk' cells' FG' F'; (first | (refine cells_in1 ?_; intro o' d1' N') | (refine cells_in2 ?_; intro o' o2' d1' d2' N') | (refine cells_in3 ?_; intro o' o2' o3' d1' d2' d3' N') | (refine cells_in4 ?_; intro o' o2' o3' o4' d1' d2' d3' d4' N')); intro B' X' T' l1; (try k_lt l1); (try dsimp only); (try k_fold)))
  k_with "eval ListComp" => ((k_here; (with_reducible show wpAny _ _ (eval (Expr.ListComp _ [⟨Expr.Name _ _, Expr.Subscript _ (Expr.Slice (some _) _ _ _) _, [], 0⟩] _ _) _) _ _ _); k_dflt (refine comp_tup (by k_asm) (by with_unfolding_all rfl) (by decide) (by rfl) (by decide) (by rfl) ?_)))
  k_with "exec Assign cons ListComp" => ((k_here; (with_reducible show wpAny _ _ (exec (Stmt.Assign [Expr.Name _ _] (Expr.ListComp _ [⟨Expr.Name _ _, Expr.Subscript _ (Expr.Slice (some _) _ _ _) _, [], 0⟩] _ _) _) _) _ _ _); k_dflt (refine comp_tup_assign (by k_asm) (by rfl) (by with_unfolding_all rfl) (by with_unfolding_all rfl) (by decide) (by rfl) (by decide) (by rfl) (by rfl) (by rfl) ?_)))
  k_with "subscriptTail Name Slice ref ref" => ((k_here; (with_reducible show wpAny _ _ (subscriptTail _ (PySem.Expr.Slice (some _) none none _) (Value.ref _) (Value.ref _)) _ _ _); k_dflt (refine' slice_tup1 ?FAT ?NAT ?lAT ?pAT ?eAT ?_ ?sAT ?tAT ?zAT; (case FAT => k_asm); (case NAT => k_asm); (case lAT => k_mem); (case pAT => exact Nat.le_of_ble_eq_true rfl); (case eAT => kl_lit); (case sAT => with_unfolding_all rfl); (case tAT => kmk_pure); (case zAT => kmk_size)); intro D' h' F' N' l1; (try k_lt l1); (try k_sweep)))
  k_with "TupSrc" => ((k_here; k_dflt (refine TupSrc.of (by rfl) (by k_asm) (by k_asm) (by k_mem) (by first | size_fits | exact Nat.le_of_ble_eq_true rfl) ?_; intro g'; lcg_lit)))
  k_with "my steps" => (repeat' ((fail_if_success (with_reducible show Ret _ _ _)); first | ((with_reducible show wpAny _ _ (call (Value.ref _) _ _) _ _ _); k_extra "my call") | ((fail_if_success ((with_reducible show wpAny _ _ (call (Value.ref _) _ _) _ _ _); k_extra "my nocall")); first | (k_unfold; (try dsimp only)) | walk1 | (dsimp only; walk1) | (leave1; walk_say "STEP leave1"; try dsimp only))))
  k_with "my sub" => (first | (with_reducible exact sub_self _) | (with_reducible refine sub_cons ?_; k_extra "my sub") | (with_reducible refine sub_left ?_; k_extra "my sub") | (with_reducible refine sub_right ?_; k_extra "my sub") | (intro p hp; simp only [List.mem_cons, List.mem_append, hp, true_or, or_true]; done))
  k_with "my ord" => (k_dflt (first | assumption | exact lt_all (by assumption) (by k_mem) | exact lt_all_u1 (by assumption) (by k_mem) | exact lt_all_u2 (by assumption) (by k_mem) | omega))
  k_with "my allLt" => (first | exact allLt_of (by assumption) | exact allLt_sub (by assumption) (by k_extra "my sub") | tbn_find)
  k_with "FinE" => (((unfold LCg.FinE); intro D' h' tk' F' N' o1'; replace o1' := off1_mem o1'; (try dsimp only [List.nil_append, List.cons_append] at N'); (try dsimp only [List.nil_append, List.cons_append] at o1'); (try dsimp only)))
  k_with "FinA" => (((unfold LCg.FinA); intro D' h' tk' F' N' o1'; replace o1' := off1_mem o1'; (try dsimp only [List.nil_append, List.cons_append] at N'); (try dsimp only [List.nil_append, List.cons_append] at o1'); (try dsimp only)))
  k_with "my omega" => (first
      | ((with_reducible show @LE.le Nat _ _ _); first | exact Nat.le_of_ble_eq_true rfl | with_reducible (first | exact o1 ‹_› (by decide) | exact o4 ‹_› (by decide) | exact o7 ‹_› (by decide) | exact o8 ‹_› (by decide) | exact o9 ‹_› (by decide) | exact q6 ‹_› (by decide) | exact q0 ‹_› (by decide) | exact r0 ‹_› (by decide) | exact q1 ‹_› ‹_› (by decide) | exact q3 ‹_› ‹_› (by decide) | exact q7 ‹_› ‹_› (by decide) | exact q8 ‹_› ‹_› (by decide) | exact q9 ‹_› ‹_› | exact r1 ‹_› ‹_› (by decide) | exact r2 ‹_› ‹_› | exact r4 ‹_› ‹_› | exact r8 ‹_› ‹_› (by decide) | exact o0 ‹_› (by decide) | exact Nat.add_le_add ‹_› ‹_› | exact Nat.le_add_left _ _ | exact Nat.le_of_lt ‹_›))
      | ((with_reducible show @LT.lt Nat _ _ _); first | exact Nat.le_of_ble_eq_true rfl | with_reducible (first | exact o2 ‹_› (by decide) | exact o3 ‹_› (by decide) | exact o5 ‹_› (by decide) | exact o6 ‹_› (by decide) | exact p5 ‹_› (by decide) | exact j6 ‹_› (by decide) | exact q2 ‹_› ‹_› (by decide) | exact q4 ‹_› ‹_› (by decide) | exact q5 ‹_› ‹_› (by decide) | exact p1 ‹_› ‹_› (by decide) | exact p2 ‹_› ‹_› (by decide) | exact p3 ‹_› ‹_› (by decide) | exact p4 ‹_› ‹_› (by decide) | exact p6 ‹_› ‹_› (by decide)))
      | ((with_reducible show @LE.le Int _ _ _); first | decide +kernel | with_reducible (first | exact i1 ‹_› | exact i2 ‹_› | exact i6 | exact i7 | exact j7 ‹_› | exact j4 ‹_› (by decide +kernel) | exact i8 ‹_› (by decide +kernel) | exact i9 ‹_› (by decide +kernel) | exact i3 ‹_› ‹_› | exact i4 ‹_› ‹_› | exact i5 ‹_› ‹_›))
      | ((with_reducible show @LT.lt Int _ _ _); first | decide +kernel | with_reducible (first | exact j1 ‹_› | exact j5 (by decide +kernel) | exact j3 ‹_› (by decide +kernel) | exact j8 ‹_› (by decide +kernel) | exact j9 ‹_› (by decide +kernel) | exact l1 ‹_› (by decide +kernel) | exact l2 ‹_› (by decide +kernel) | exact l3 ‹_› (by decide +kernel) | exact j0 ‹_› ‹_› (by decide +kernel)))
      | ((with_reducible show @Ne Nat _ _); with_reducible (first | exact Nat.ne_of_gt ‹_› | exact Nat.ne_of_lt ‹_› | exact Nat.succ_ne_self _ | exact (Nat.succ_ne_self _).symm))
      | with_reducible (first | exact j2 ‹_› | exact z4 ‹_› ‹_› | exact z6 ‹_› ‹_› | exact z3 ‹_› | exact z2 ‹_› ‹_›))
  trivial
theorem w72a : True := by
  k_with "my k_enter" => (first | k_extra "my enter" | k_extra "my enterC")
  trivial
theorem nat_make {w : World} {mean : ExcName → Option Value} {mg mb : Str → Option Value}
    {dp un : Nat} {gd : Option (List Code)} {cn : Str} {cs : Scope} {a : Addr} {ccd : Value} {cl : List (Str × Addr)} {outer : List Env} {A₀ : Around} {base h₀ : Heap} {L : Addr} {m : Str → Option Value} {news : List (Addr × Obj)} {s : Shared}
    {Q E : Value → Shared → Prop} {most : Nat} {i : Int} {tk : Tok}
    (B : Below A₀ base outer h₀) (F : Fr h₀ L s.heap m) (X : (hd.heap_1 w.params).In h₀) (N : News h₀ L s.heap news)
    (T : Top view LO mean mg mb h₀) (hk : cs.kind = .function) (hi : i = (most : Int)) (hd : dp < 800) (hu : un < 4000)
    (ret : ∀ na nd t1 t2 h' tk', Fr h₀ L h' m → News h₀ L h' ((na, instObj 167 nd) :: (nd, natObj w t1 t2 most) :: news) → (∀ p ∈ news, p.1 < nd) → nd < na → Q (.ref na) { s with heap := h', toks := tk' }) :
    wpAny (model PySem.Challenge.rw_pq0002_01.row.prog w) (ktrTop dp un gd cn cs L a ccd cl outer) (call (.ref 167) [.int i tk]) Q E s := by
  subst hi
  refine ret_of (α := Unit) ?_
  k_extra "my steps"
  all_goals (try dsimp only at *)
  all_goals ((rename Fr h₀ L _ m => fX); (rename News h₀ L _ _ => nX); exact ret _ _ _ _ _ _ fX nX (by assumption) (by assumption))
theorem val_is {w : World} {most : Nat} {e : Ev} (hev : e.ok) (hm0 : most ≤ 1000000) (t : Tm) : IsVal w (TmR t) (t.ev e most) most e t.depth := @val_all w most e hev hm0 t
theorem told_tm {w : World} {most : Nat} {e : Ev} (hev : e.ok) (hm0 : most ≤ 1000000) (t : Tm) : ToldSpec w (TmR t) (t.ev e most) most e t.depth := told_of (val_is hev hm0 t) fun _ _ _ h hs => TmIn.mono h hs
theorem w73 : True := by
  w_top off
  trivial
section
variable {prog : Program} {w : World} {A : Around} {E : Value → Shared → Prop} {s : Shared}
theorem nextOf_tup {it t : Addr} {i : Nat} {items : Array Value} {Q : Value → Shared → Prop} (hh : A.handled = none) (hit : s.heap.IsTupleIter it t i) (ht : s.heap.IsTuple t items)
    (h1 : ∀ x, items[i]? = some x → ∀ h', h'.IsTupleIter it t (i + 1) → Heap.SameBut it s.heap h' → Q x { s with heap := h' })
    (h2 : items[i]? = none → ∀ h' e, Heap.ExtBut it s.heap h' → (∃ o, h'.get? e = some o ∧ o.cls = .type "StopIteration") → E (.ref e) { s with heap := h' }) :
    wpAny (model prog w) A (Builtin.SmallTypes.nextOf (.ref it)) Q E s := by
  obtain ⟨o, ho, hc, hd⟩ := id hit
  obtain ⟨ot, hot, _, nt, hdt⟩ := ht
  unfold Builtin.SmallTypes.nextOf
  refine wpAny_bind (wpAny_callSpecial?_slot (name := Str.ofString "__next__") hit.typeIs F.slot_tuple_iterator_next
    (wpAny_call_entry F.slot_tuple_iterator_next hit.typeIs F.entry_tuple_iterator_next ?_ (F.args_tuple_iterator_next_1 _)))
  show wpAny _ _ (field (.ref it) 0 >>= _) _ _ s
  refine wpAny_bind (wpAny_field ho hd (x := .ref t) rfl ?_)
  show wpAny _ _ (if (Value.ref t == Value.none) = true then _ else _) _ _ s
  rw [if_neg (show ¬ ((Value.ref t == Value.none) = true) from Bool.false_ne_true)]
  show wpAny _ _ (field (.ref it) 1 >>= _) _ _ s
  refine wpAny_bind (wpAny_field ho hd (x := .int i 0) rfl ?_)
  show wpAny _ _ (seqItems? (.ref t) >>= _) _ _ s
  refine wpAny_bind (wpAny_seqItems hot hdt ?_)
  cases hx : items[i]? with
  | some x =>
    simp only [Int.toNat_natCast, hx]
    refine wpAny_bind (wpAny_setField ho hd (by simp) (wpAny_pure ⟨x, rfl, wpAny_pure (h1 x hx _ ?_ (Heap.SameBut.update ..))⟩))
    exact ⟨_, Heap.get?_update_self _ ho (Obj.isFreed_of_fields (Obj.data_mapFields hd _)), (Obj.cls_mapFields ..).trans hc, by rw [Obj.data_mapFields hd]; simp [rawInt]⟩
  | none =>
    simp only [Int.toNat_natCast, hx]
    refine wpAny_bind (wpAny_rule (wpAny_bind (wpAny_setField ho hd (by simp) ?_)))
    show wpAny _ _ (newExc (.type "StopIteration") [] >>= _) _ _ _
    refine wpAny_bind ?_
    simp only [newExc, newTuple]
    refine wpAny_bind (wpAny_newObj_type ?_ (by size_fits))
    refine wpAny_bind (m := firstArgMember _ _) (wpAny_of_eq (a := Value.none) (by first | rfl | (simp only [firstArgMember]; rfl)) ?_)
    refine wpAny_newObj_type ?_ (by size_fits)
    simp only [raiseNew]
    refine wpAny_bind (wpAny_handled ?_)
    first | rw [show A.in1.handled = none from hh] | rw [hh]
    exact wpAny_bind (wpAny_pure (wpAny_throw (h2 hx _ _ (((Heap.SameBut.update ..).extBut.push _).push _) ⟨_, Heap.get?_push_size _ rfl, rfl⟩)))
end
theorem draws_tup {prog : Program} {w : World} {A : Around} (hh : A.handled = none) (it t : Addr) (hne : t ≠ it) (items : Array Value) :
    Draws prog w A it [it, t] items.size (fun i v => items[i]? = some v) (fun i h => h.IsTupleIter it t i ∧ h.IsTuple t items) where
  live := fun _ _ st => let ⟨o, ho, _⟩ := st.1; ⟨o, ho⟩
  frame := fun _ _ _ st hk => ⟨let ⟨o, ho, r⟩ := st.1; ⟨o, hk it (by simp) o ho, r⟩, let ⟨o, ho, r⟩ := st.2; ⟨o, hk t (by simp) o ho, r⟩⟩
  item := fun i s Q E hi st hQ => nextOf_tup hh st.1 st.2 (fun x hx h' hit' hs' => hQ x h' s.toks hx ⟨hit', st.2.extBut hs'.extBut hne⟩ hs') (fun hx => by simp [hi] at hx)
  done := fun s Q E st hE => nextOf_tup hh st.1 st.2 (fun x hx => by simp at hx) fun _ => hE
theorem meets_enum_tup (t : Addr) (items : Array Value) (n : Nat) (dct : Option Addr) (sl : Array (Option Value)) :
    Meets (Builtin.«enumerate.__new__» ⟨[.type "enumerate", .ref t], []⟩) (fun _ R s => s.heap.get? t = some { cls := .type "tuple", dict := dct, data := .seq items n, slots := sl } ∧
      R (.ok (.ret (.ref (s.heap.push { cls := .type "tuple_iterator", data := .fields #[.ref t, .int 0 0] }).objs.size)))
        { s with heap := (s.heap.push { cls := .type "tuple_iterator", data := .fields #[.ref t, .int 0 0] }).push { cls := .type "enumerate", data := .fields #[.none, .bool false, .ref s.heap.objs.size, rawInt 0, .none, .none] } }) :=
  .of_wp fun prog w A R s h => by
    obtain ⟨hp, g, d, tk, os⟩ := s; obtain ⟨hl, h⟩ := h
    have hsub := sub_enumerate
    have hL : Heap.IsTuple (Shared.heap ⟨hp, g, d, tk, os⟩) t items := ⟨_, hl, rfl, n, rfl⟩
    wp_walk using AutoSeq1.wpAny_loadPart' hl
    refine wpAny_stack_any fun st => wpAny_pure ?_
    split
    · rename_i c _ _ _ _ _
      cases (c == Value.type "enumerate")
      · wp_walk using AutoSeq1.wpAny_loadPart' hl, wpAny_pyIter_tuple hL
        exact ⟨_, rfl, h⟩
      · wp_walk using AutoSeq1.wpAny_loadPart' hl, wpAny_pyIter_tuple hL
        exact ⟨_, rfl, h⟩
    · wp_walk using AutoSeq1.wpAny_loadPart' hl, wpAny_pyIter_tuple hL
      exact ⟨_, rfl, h⟩
theorem call_enum_tup {prog : Program} {w : World} {A : Around} {E : Value → Shared → Prop} {s : Shared} {t : Addr} {items : Array Value} {n : Nat} {Q : Value → Shared → Prop} (hl : s.heap.get? t = some (tupObj items n))
    (h : ∀ h', IsEnum h' (s.heap.objs.size + 1) s.heap.objs.size 0 .none → h'.IsTupleIter s.heap.objs.size t 0 → h'.objs.size = s.heap.objs.size + 2 →
      (∀ b o, s.heap.get? b = some o → h'.get? b = some o) → Q (.ref (s.heap.objs.size + 1)) { s with heap := h' }) :
    wpAny (model prog w) A (call (.type "enumerate") [.ref t]) Q E s := by
  refine callType_new F.called_enumerate (by decide) (F.typeCall_enumerate_1 _) (F.newCall_enumerate_1 _) (fun obj => F.args_object_init_2 obj _) F.entry_enumerate_new
    (meets_enum_tup t items n none #[]) ⟨hl, ?_⟩
  have hz : (s.heap.push { cls := .type "tuple_iterator", data := .fields #[.ref t, .int 0 0] }).objs.size = s.heap.objs.size + 1 := Heap.size_push ..
  show _ ∧ _
  rw [hz]
  have he : IsEnum ((s.heap.push { cls := .type "tuple_iterator", data := .fields #[.ref t, .int 0 0] }).push
      { cls := .type "enumerate", data := .fields #[.none, .bool false, .ref s.heap.objs.size, rawInt 0, .none, .none] }) (s.heap.objs.size + 1) s.heap.objs.size 0 .none := by
    have := Heap.get?_push_size (s.heap.push { cls := .type "tuple_iterator", data := .fields #[.ref t, .int 0 0] })
      (o := { cls := .type "enumerate", data := .fields #[.none, .bool false, .ref s.heap.objs.size, rawInt 0, .none, .none] }) rfl
    rw [hz] at this; exact this
  exact ⟨⟨_, he, rfl⟩, h _ he ⟨_, Heap.get?_push_of_some _ (Heap.get?_push_size _ rfl), rfl, rfl⟩ (by rw [Heap.size_push, hz]) fun b o x => Heap.get?_push_of_some _ (Heap.get?_push_of_some _ x)⟩
theorem w74 : True := by
  w_top off
  k_with_none
  k_with "my k_all" => (k_dflt (first | assumption | exact all_ne_sub9 (by assumption) (by k_extra "my sub") | exact all_ne_u0 (by assumption) (by k_extra "my sub") | exact all_ne_u1 (by assumption) (by k_extra "my sub") | exact all_ne_u2 (by assumption) (by k_extra "my sub") | exact all_ne_u3 (by assumption) (by k_extra "my sub") | exact all_ne_u4 (by assumption) (by k_extra "my sub") | (refine List.forall_mem_append.mpr ⟨?_, ?_⟩ <;> k_all)))
  k_with "my ktr_room" => (((try simp only [depth_under_make, depth_under_kw, depth_in1, depth_deeper, depth_caller]); (try dsimp only [ktrTop]); (try simp only [recursionLimit]); k_extra "my room"))
  k_with "my room" => (first | exact Nat.le_of_ble_eq_true rfl | exact rm0 hd rfl | exact rm1 hd rfl | exact rm5 hd rfl | exact rm6 hd rfl | exact rm4 hd rfl | exact rm2 hd rfl | exact rm3 hd rfl | exact rm7 hd rfl | exact rm8 (by assumption) rfl | omega)
  k_with "my units" => (first | exact Nat.le_of_ble_eq_true rfl | exact rm0 hu rfl | exact rm1 hu rfl | exact rm5 hu rfl | exact rm6 hu rfl | exact rm4 hu rfl | exact rm2 hu rfl | exact rm3 hu rfl | exact rm7 hu rfl | exact rm8 (by assumption) rfl | exact um1 hu rfl | exact um2 hu rfl | exact um3 hu rfl | exact um4 hu rfl | exact um5 hu rfl | (have hcL9 := cLine_is; omega))
  k_with "my dep" => (first | assumption | exact dm1 hdp | exact dm2 hdp | exact dm0 hdp | omega)
  k_with "my ktr_units" => (((try simp only [units_in1, units_deeper, Around.mark_units, units_caller]); (try dsimp only [ktrTop]); k_extra "my units"))
  k_with "my k_room" => (ktr_room)
  k_with "my k_units" => (ktr_units)
  k_with "my units_room" => (ktr_units)
  k_with "compareOp Eq ref ref" => ((k_here; (with_reducible show wpAny _ _ (compareOp CmpOp.Eq (Value.ref _) (Value.ref _)) _ _ _); first
      | refine' eq_zero_f (by assumption) (by assumption) (by k_extra "my sub") (by k_mem) (by first | rfl | exact mkOf_zero) (by omega) (by ktr_units) ?_
      | refine' eq_zero_t (by assumption) (by assumption) (by k_extra "my sub") (by k_mem) rfl (by omega) (by ktr_units) ?_))
  k_with "my k_ne" => (k_dflt (first | exact off_I (by assumption) (by k_mem) | exact off_C (by assumption) (by k_mem) | exact off_D (by assumption) (by k_mem) | assumption | exact ne_gt9 (by assumption) (by k_mem) | exact ne_lt9 (by assumption) (by k_mem) | exact ne_all9 (by assumption) (by k_mem) | exact ne_all9s (by assumption) (by k_mem) | exact ne_gt_u1 (by assumption) (by k_mem) | exact ne_lt_u1 (by assumption) (by k_mem) | exact ne_gt_u2 (by assumption) (by k_mem) | exact ne_lt_u2 (by assumption) (by k_mem) | exact ne_gt_u3 (by assumption) (by k_mem) | exact ne_lt_u3 (by assumption) (by k_mem) | exact ne_gt_u4 (by assumption) (by k_mem) | exact ne_lt_u4 (by assumption) (by k_mem)))
  k_with "my off" => (first | exact True.intro | (refine And.intro (off_at (by assumption) (by k_mem)) ?_; k_extra "my off") | (refine Off3.append ?_ ?_ <;> k_extra "my off") | (refine Off3.of_sub (by assumption) (fun p hp => ?_); simp only [List.mem_cons, List.mem_append, hp, true_or, or_true]; done) | (refine Off3.of_lt (by assumption) (by k_mem) (by k_mem) (by k_mem)))
  k_with "CompSrc" => ((k_here; k_dflt (refine LCg.CompSrc.range (by rfl) (by k_asm) (by k_asm) (by with_reducible assumption) (by first | decide | rfl) (by first | rfl | decide) (by first | size_fits | exact Nat.le_of_ble_eq_true rfl) ?_; intro g'; lcg_lit)))
  k_with "CompRest" => ((with_unfolding_all first
      | (refine CompRest_at (fun v9 h9 => (Option.some.inj h9).symm) ?_; intro I' oI' C' oC' D' m' h' tk' E' hC' hx' F' N' off' ne'; have offM := off'.mem; clear off')
      | (refine CompRest_ex (fun v9 h9 => h9) ?_; intro t9' I' oI' C' oC' D' m' h' tk' E' hC' hx' F' N' off' ne'; have offM := off'.mem; clear off')
      | (refine LCg.CompRest.succ ?_; intro v' I' oI' C' oC' D' m' h' tk' E' hv' hC' hx' F' N' off' ne'; have offM := off'.mem; (first | lcg_open hv' | (obtain ⟨t9', hv9'⟩ := hv'; subst hv9')); clear off')
      | refine LCg.CompRest.zero ?_))
  k_with "CompEnd" => ((k_here; (refine LCg.CompEnd.intro (by assumption) (by assumption) _ (fun p hp => hp) ?offAO ?srcAO ?_; (case offAO => k_extra "my off"); (case srcAO => first | lcg_src | ((try dsimp only); k_mem)))))
  k_with "my enter" => ((refine' code_def ?k1AP ?k2AP ?k3AP ?k4AP ?k5AP ?kAAP ?kFAP ?kKAP ?k6AP ?k7AP ?k8AP ?k9AP ?kBAP ?_ ?c2AP ?c3AP ?c4AP ?c5AP; (case kAAP => exact rfl); (case kFAP => exact rfl); (case kKAP => first | exact rfl | assumption); (case k1AP => k_asm); (case k2AP => k_asm); (case k3AP => k_asm); (case k4AP => k_asm); (case k5AP => k_asm); (case k6AP => k_is); (case k7AP => k_is); (case k8AP => ktr_room); (case k9AP => exact BindsTo.of_eq rfl); (case c5AP => decide); (case kBAP => exact locs rfl); (case c2AP => exact rfl); (case c3AP => exact rfl); (case c4AP => exact rfl); k_whole; intro g' L' h' FG' F' N' B' X' T'; (try dsimp only); (try k_fold)))
  k_with "my enterC" => ((refine' code_defC ?k1AQ ?k2AQ ?k3AQ ?k4AQ ?k5AQ ?kAAQ ?kFAQ ?kKAQ ?k6AQ ?k7AQ ?k8AQ ?k9AQ ?kBAQ ?kDAQ ?_ ?c2AQ ?c3AQ ?c4AQ; (case kAAQ => exact rfl); (case kFAQ => exact rfl); (case kKAQ => first | exact rfl | assumption); (case k1AQ => k_asm); (case k2AQ => k_asm); (case k3AQ => k_asm); (case k4AQ => k_asm); (case k5AQ => k_asm); (case k6AQ => k_is); (case k7AQ => k_is); (case k8AQ => ktr_room); (case k9AQ => exact BindsTo.of_eq rfl); (case kBAQ => exact rfl); (case kDAQ => decide +kernel); (case c2AQ => exact rfl); (case c3AQ => exact rfl); (case c4AQ => exact rfl); k_whole; intro g' L' h' tk' cells' FG' F'; (first | (refine cells_in1 ?_; intro o' d1' N') | (refine cells_in2 ?_; intro o' o2' d1' d2' N') | (refine cells_in3 ?_; intro o' o2' o3' d1' d2' d3' N') | (refine cells_in4 ?_; intro o' o2' o3' o4' d1' d2' d3' d4' N')); intro B' X' T' l1; (try k_lt l1); (try dsimp only); (try k_fold)))
  k_with "eval ListComp" => ((k_here; (with_reducible show wpAny _ _ (eval (Expr.ListComp _ [⟨Expr.Name _ _, Expr.Subscript _ (Expr.Slice (some _) _ _ _) _, [], 0⟩] _ _) _) _ _ _); k_dflt (refine comp_tup (by k_asm) (by with_unfolding_all rfl) (by decide) (by rfl) (by decide) (by rfl) ?_)))
  k_with "exec Assign cons ListComp" => ((k_here; (with_reducible show wpAny _ _ (exec (Stmt.Assign [Expr.Name _ _] (Expr.ListComp _ [⟨Expr.Name _ _, Expr.Subscript _ (Expr.Slice (some _) _ _ _) _, [], 0⟩] _ _) _) _) _ _ _); k_dflt (refine comp_tup_assign (by k_asm) (by rfl) (by with_unfolding_all rfl) (by with_unfolding_all rfl) (by decide) (by rfl) (by decide) (by rfl) (by rfl) (by rfl) ?_)))
  k_with "subscriptTail Name Slice ref ref" => ((k_here; (with_reducible show wpAny _ _ (subscriptTail _ (PySem.Expr.Slice (some _) none none _) (Value.ref _) (Value.ref _)) _ _ _); k_dflt (refine' slice_tup1 ?FAT ?NAT ?lAT ?pAT ?eAT ?_ ?sAT ?tAT ?zAT; (case FAT => k_asm); (case NAT => k_asm); (case lAT => k_mem); (case pAT => exact Nat.le_of_ble_eq_true rfl); (case eAT => kl_lit); (case sAT => with_unfolding_all rfl); (case tAT => kmk_pure); (case zAT => kmk_size)); intro D' h' F' N' l1; (try k_lt l1); (try k_sweep)))
  k_with "TupSrc" => ((k_here; k_dflt (refine TupSrc.of (by rfl) (by k_asm) (by k_asm) (by k_mem) (by first | size_fits | exact Nat.le_of_ble_eq_true rfl) ?_; intro g'; lcg_lit)))
  k_with "my steps" => (repeat' ((fail_if_success (with_reducible show Ret _ _ _)); first | ((with_reducible show wpAny _ _ (call (Value.ref _) _ _) _ _ _); k_extra "my call") | ((fail_if_success ((with_reducible show wpAny _ _ (call (Value.ref _) _ _) _ _ _); k_extra "my nocall")); first | (k_unfold; (try dsimp only)) | walk1 | (dsimp only; walk1) | (leave1; walk_say "STEP leave1"; try dsimp only))))
  k_with "my sub" => (first | (with_reducible exact sub_self _) | (with_reducible refine sub_cons ?_; k_extra "my sub") | (with_reducible refine sub_left ?_; k_extra "my sub") | (with_reducible refine sub_right ?_; k_extra "my sub") | (intro p hp; simp only [List.mem_cons, List.mem_append, hp, true_or, or_true]; done))
  k_with "my ord" => (k_dflt (first | assumption | exact lt_all (by assumption) (by k_mem) | exact lt_all_u1 (by assumption) (by k_mem) | exact lt_all_u2 (by assumption) (by k_mem) | omega))
  k_with "my allLt" => (first | exact allLt_of (by assumption) | exact allLt_sub (by assumption) (by k_extra "my sub") | tbn_find)
  k_with "FinE" => (((unfold LCg.FinE); intro D' h' tk' F' N' o1'; replace o1' := off1_mem o1'; (try dsimp only [List.nil_append, List.cons_append] at N'); (try dsimp only [List.nil_append, List.cons_append] at o1'); (try dsimp only)))
  k_with "FinA" => (((unfold LCg.FinA); intro D' h' tk' F' N' o1'; replace o1' := off1_mem o1'; (try dsimp only [List.nil_append, List.cons_append] at N'); (try dsimp only [List.nil_append, List.cons_append] at o1'); (try dsimp only)))
  k_with "my omega" => (first
      | ((with_reducible show @LE.le Nat _ _ _); first | exact Nat.le_of_ble_eq_true rfl | with_reducible (first | exact o1 ‹_› (by decide) | exact o4 ‹_› (by decide) | exact o7 ‹_› (by decide) | exact o8 ‹_› (by decide) | exact o9 ‹_› (by decide) | exact q6 ‹_› (by decide) | exact q0 ‹_› (by decide) | exact r0 ‹_› (by decide) | exact q1 ‹_› ‹_› (by decide) | exact q3 ‹_› ‹_› (by decide) | exact q7 ‹_› ‹_› (by decide) | exact q8 ‹_› ‹_› (by decide) | exact q9 ‹_› ‹_› | exact r1 ‹_› ‹_› (by decide) | exact r2 ‹_› ‹_› | exact r4 ‹_› ‹_› | exact r8 ‹_› ‹_› (by decide) | exact o0 ‹_› (by decide) | exact Nat.add_le_add ‹_› ‹_› | exact Nat.le_add_left _ _ | exact Nat.le_of_lt ‹_›))
      | ((with_reducible show @LT.lt Nat _ _ _); first | exact Nat.le_of_ble_eq_true rfl | with_reducible (first | exact o2 ‹_› (by decide) | exact o3 ‹_› (by decide) | exact o5 ‹_› (by decide) | exact o6 ‹_› (by decide) | exact p5 ‹_› (by decide) | exact j6 ‹_› (by decide) | exact q2 ‹_› ‹_› (by decide) | exact q4 ‹_› ‹_› (by decide) | exact q5 ‹_› ‹_› (by decide) | exact p1 ‹_› ‹_› (by decide) | exact p2 ‹_› ‹_› (by decide) | exact p3 ‹_› ‹_› (by decide) | exact p4 ‹_› ‹_› (by decide) | exact p6 ‹_› ‹_› (by decide)))
      | ((with_reducible show @LE.le Int _ _ _); first | decide +kernel | with_reducible (first | exact i1 ‹_› | exact i2 ‹_› | exact i6 | exact i7 | exact j7 ‹_› | exact j4 ‹_› (by decide +kernel) | exact i8 ‹_› (by decide +kernel) | exact i9 ‹_› (by decide +kernel) | exact i3 ‹_› ‹_› | exact i4 ‹_› ‹_› | exact i5 ‹_› ‹_›))
      | ((with_reducible show @LT.lt Int _ _ _); first | decide +kernel | with_reducible (first | exact j1 ‹_› | exact j5 (by decide +kernel) | exact j3 ‹_› (by decide +kernel) | exact j8 ‹_› (by decide +kernel) | exact j9 ‹_› (by decide +kernel) | exact l1 ‹_› (by decide +kernel) | exact l2 ‹_› (by decide +kernel) | exact l3 ‹_› (by decide +kernel) | exact j0 ‹_› ‹_› (by decide +kernel)))
      | ((with_reducible show @Ne Nat _ _); with_reducible (first | exact Nat.ne_of_gt ‹_› | exact Nat.ne_of_lt ‹_› | exact Nat.succ_ne_self _ | exact (Nat.succ_ne_self _).symm))
      | with_reducible (first | exact j2 ‹_› | exact z4 ‹_› ‹_› | exact z6 ‹_› ‹_› | exact z3 ‹_› | exact z2 ‹_› ‹_›))
  trivial
inductive Pat | va | vb | vc | zero | suc (p : Pat) | plus (p q : Pat) | times (p q : Pat)
def Pat.depth : Pat → Nat
  | .va => 0
  | .vb => 0
  | .vc => 0
  | .zero => 0
  | .suc p => p.depth + 1
  | .plus p q => max p.depth q.depth + 1
  | .times p q => max p.depth q.depth + 1
def Pat.put (A B C : Tm) : Pat → Tm
  | .va => A
  | .vb => B
  | .vc => C
  | .zero => .nm .zero
  | .suc p => .suc (p.put A B C)
  | .plus p q => .plus (p.put A B C) (q.put A B C)
  | .times p q => .times (p.put A B C) (q.put A B C)
inductive PatIn (news : List (Addr × Obj)) : Value → Pat → Prop where
  | va : PatIn news (.ref 118) .va
  | vb : PatIn news (.ref 119) .vb
  | vc : PatIn news (.ref 120) .vc
  | zero {a : Addr} {tk : Tok} {e : Nat} : (a, tupObj #[.str (Str.ofString "zero") tk] e) ∈ news → PatIn news (.ref a) .zero
  | suc {a : Addr} {tk : Tok} {e : Nat} {v : Value} {p : Pat} : (a, tupObj #[.str (Str.ofString "succ") tk, v] e) ∈ news → PatIn news v p → PatIn news (.ref a) (.suc p)
  | plus {a : Addr} {tk : Tok} {e : Nat} {v u : Value} {p q : Pat} : (a, tupObj #[.str (Str.ofString "plus") tk, v, u] e) ∈ news → PatIn news v p → PatIn news u q → PatIn news (.ref a) (.plus p q)
  | times {a : Addr} {tk : Tok} {e : Nat} {v u : Value} {p q : Pat} : (a, tupObj #[.str (Str.ofString "times") tk, v, u] e) ∈ news → PatIn news v p → PatIn news u q → PatIn news (.ref a) (.times p q)
theorem PatIn.mono {news news' : List (Addr × Obj)} {v : Value} {p : Pat} (h : PatIn news v p) (hs : ∀ p ∈ news, p ∈ news') : PatIn news' v p := by
  induction h with
  | va => exact .va
  | vb => exact .vb
  | vc => exact .vc
  | zero hm => exact .zero (hs _ hm)
  | suc hm _ ih => exact .suc (hs _ hm) ih
  | plus hm _ _ ih1 ih2 => exact .plus (hs _ hm) ih1 ih2
  | times hm _ _ ih1 ih2 => exact .times (hs _ hm) ih1 ih2
abbrev tabKV (va vb vc : Value) : List (Str × Value) := [(Str.ofString "?a", va), (Str.ofString "?b", vb), (Str.ofString "?c", vc)]
def PutSpec (w : World) (p : Pat) : Prop :=
  ∀ {mean : ExcName → Option Value} {mg mb : Str → Option Value}
    {dp un : Nat} {gd : Option (List Code)} {cn : Str} {cs : Scope} {a : Addr} {ccd : Value} {cl : List (Str × Addr)} {outer : List Env} {A₀ : Around} {base h₀ : Heap} {L : Addr} {m : Str → Option Value} {news : List (Addr × Obj)} {s : Shared}
    {Q E : Value → Shared → Prop}
    {v : Value} {dt : Addr} {ot : Obj} {xa xb xc : Value} {tA tB tC : Tm} {tn pn : List (Addr × Obj)}
    (_ : Below A₀ base outer h₀) (_ : Fr h₀ L s.heap m) (_ : (hd.heap_1 w.params).In h₀) (_ : News h₀ L s.heap news)
    (_ : Top view LO mean mg mb h₀) (_ : cs.kind = .function)
    (_ : PatIn pn v p) (_ : ∀ q ∈ pn, q ∈ news) (_ : ∀ q ∈ tn, q ∈ news) (_ : TmIn tn xa tA) (_ : TmIn tn xb tB) (_ : TmIn tn xc tC)
    (_ : (dt, ot) ∈ news) (_ : (dt == sysModules) = false) (_ : Obj.IsDictOf (PySem.strKind PySem.Challenge.rw_pq0002_01.row.prog w) ot (tabKV xa xb xc))
    (_ : dp + 5 * p.depth < 760) (_ : un + 20 * p.depth < 3700)
    (_ : ∀ r tl h' tk', Fr h₀ L h' m → News h₀ L h' (news ++ tl) → (∀ q ∈ news, ∀ p ∈ tl, q.1 < p.1) → TmIn (tn ++ tl) r (p.put tA tB tC) → Q r { s with heap := h', toks := tk' }),
    wpAny (model PySem.Challenge.rw_pq0002_01.row.prog w) (ktrTop dp un gd cn cs L a ccd cl outer) (call (.ref 205) [v, .ref dt]) Q E s
theorem w74a : True := by
  k_with "compareOp In str ref" => ((k_here; k_dflt (first
      | refine kda_in (knd := PySem.strKind _ _) (by k_asm) (by k_mem) (by k_asm) (by k_asm) (strKind_is _ _ _ _) true (by rfl) ?_
      | refine kda_in (knd := PySem.strKind _ _) (by k_asm) (by k_mem) (by k_asm) (by k_asm) (strKind_is _ _ _ _) false (by first | assumption | rfl) ?_)))
  k_with "subscriptTail" => ((k_here; k_dflt ((with_reducible show wpAny _ _ (subscriptTail _ _ (Value.ref _) (Value.str _ _)) _ _ _); refine kda_item (knd := PySem.strKind _ _) (by k_asm) (by k_mem) (by k_asm) (strKind_is _ _ _ _) (by rfl) ?_)))
  trivial
def PutFor (w : World) (P : Pat → Prop) : Prop := ∀ {q}, P q → PutSpec w q
theorem w74b : True := by
  k_with "my call" => ((k_here; (with_reducible show wpAny _ _ (call (Value.ref 205) [_, _]) _ _ _); (with_reducible rename PutFor _ _ => ih9EF); k_dflt (refine' ih9EF ?ktEF ?k1EF ?k2EF ?k3EF ?k4EF ?k5EF ?kKEF ?k6EF ?k7EF ?k8EF ?kAEF ?kBEF ?kCEF ?k9EF ?k10EF ?k11EF ?k13EF ?k14EF ?_; (case k1EF => k_asm); (case k2EF => k_asm); (case k3EF => k_asm); (case k4EF => k_asm); (case k5EF => k_asm); (case kKEF => first | exact rfl | assumption); (case k6EF => assumption); (case ktEF => first | exact Or.inl rfl | exact Or.inr rfl); (case k9EF => k_mem); (case k10EF => assumption); (case k11EF => assumption); (case kAEF => assumption); (case kBEF => assumption); (case kCEF => assumption); (case k7EF => k_extra "my sub2"); (case k8EF => k_extra "my sub2"); (case k13EF => ktr_room); (case k14EF => ktr_units); k_whole); intro r' tl' h' tk' F' N' htl' ht'; (try dsimp only [List.cons_append, List.nil_append] at N'); (try simp only [List.append_assoc, List.cons_append, List.nil_append] at N'); (try k_sweep)))
  k_with "my nocall" => ((with_reducible show wpAny _ _ (call (Value.ref 205) _ _) _ _ _))
  trivial
def SubOf (l news : List (Addr × Obj)) : Prop := ∀ q ∈ l, q ∈ news
theorem SubOf.use {l news : List (Addr × Obj)} (h : SubOf l news) {q : Addr × Obj} (hq : q ∈ l) : q ∈ news := h q hq
theorem w74c : True := by
  k_with "my sub2" => ((intro p9 hp9; have hq9 := SubOf.use (by assumption) hp9; simp only [List.mem_cons, List.mem_append, hq9, true_or, or_true]; done))
  trivial
section
variable {h₀ h' : Heap} {L D : Addr} {m : Str → Option Value} {news all tn : List (Addr × Obj)} {s : Shared} {Q : Value → Shared → Prop} {tk' : Nat} {tk : Tok} {e : Nat}
abbrev PutRet (h₀ : Heap) (L : Addr) (m : Str → Option Value) (news tn : List (Addr × Obj)) (s : Shared) (Q : Value → Shared → Prop) (t : Tm) : Prop :=
  ∀ r tl h' tk', Fr h₀ L h' m → News h₀ L h' (news ++ tl) → (∀ q ∈ news, ∀ p ∈ tl, q.1 < p.1) → TmIn (tn ++ tl) r t → Q r { s with heap := h', toks := tk' }
theorem sub_l {l1 l2 : List (Addr × Obj)} (h : ∀ p ∈ l1, p ∈ l2) : ∀ p ∈ tn ++ l1, p ∈ tn ++ l2 := fun p hp => (List.mem_append.mp hp).elim (List.mem_append_left _) fun h1 => List.mem_append_right _ (h p h1)
theorem put_end1 {n : Nm} (ret : PutRet h₀ L m news tn s Q (.nm n)) (F : Fr h₀ L h' m) (N : News h₀ L h' all) (hD : (D, tupObj #[.str n.str tk] e) ∈ all) (hnews : ∀ p ∈ news, p ∈ all) (hA : AllLt D news) : Ret Q (.ref D) { s with heap := h', toks := tk' } := by
  refine ret _ [(D, tupObj #[.str n.str tk] e)] _ _ F (fun p hp => N p ?_) (fun q hq p hp => ?_) (.nm (List.mem_append_right _ (.head _)))
  · rcases List.mem_append.mp hp with hp | hp
    · exact hnews p hp
    · obtain rfl := List.mem_singleton.mp hp; exact hD
  · obtain rfl := List.mem_singleton.mp hp; exact tb_ltOf hA q hq
theorem put_end2 {tl led : List (Addr × Obj)} {v : Value} {t : Tm} (ret : PutRet h₀ L m news tn s Q (.suc t)) (F : Fr h₀ L h' m) (N : News h₀ L h' all) (hD : (D, tupObj #[.str (Str.ofString "succ") tk, v] e) ∈ all) (ht : TmIn (tn ++ tl) v t) (hnews : ∀ p ∈ news, p ∈ all) (htl : ∀ p ∈ tl, p ∈ all)
    (hA : AllLt D (news ++ tl)) (hl : ∀ q ∈ led, ∀ p ∈ tl, q.1 < p.1) (g4 : ∀ p ∈ news, p ∈ led) : Ret Q (.ref D) { s with heap := h', toks := tk' } := by
  refine ret _ ((D, tupObj #[.str (Str.ofString "succ") tk, v] e) :: tl) _ _ F (fun p hp => N p ?_) (fun q hq p hp => ?_) (.suc (List.mem_append_right _ (.head _)) (ht.mono (sub_l fun _ h => .tail _ h)))
  · rcases List.mem_append.mp hp with hp | hp
    · exact hnews p hp
    · rcases List.mem_cons.mp hp with rfl | hp; exact hD; exact htl p hp
  · rcases List.mem_cons.mp hp with rfl | hp; exact allLt_left hA q hq; exact hl _ (g4 q hq) p hp
theorem put_end3 {tl tr led ler : List (Addr × Obj)} {v u : Value} {t r : Tm} {op : Str} (mk : Tm → Tm → Tm) (hin : ∀ l : List (Addr × Obj), (D, tupObj #[.str op tk, v, u] e) ∈ l → TmIn l v t → TmIn l u r → TmIn l (.ref D) (mk t r))
    (ret : PutRet h₀ L m news tn s Q (mk t r)) (F : Fr h₀ L h' m) (N : News h₀ L h' all) (hD : (D, tupObj #[.str op tk, v, u] e) ∈ all) (ht : TmIn (tn ++ tl) v t) (hr : TmIn (tn ++ tr) u r) (hnews : ∀ p ∈ news, p ∈ all) (htl : ∀ p ∈ tl, p ∈ all) (htr : ∀ p ∈ tr, p ∈ all)
    (hA : AllLt D (news ++ (tl ++ tr))) (hl : ∀ q ∈ led, ∀ p ∈ tl, q.1 < p.1) (g4 : ∀ p ∈ news, p ∈ led) (hlr : ∀ q ∈ ler, ∀ p ∈ tr, q.1 < p.1) (f4 : ∀ p ∈ news, p ∈ ler) : Ret Q (.ref D) { s with heap := h', toks := tk' } := by
  refine ret _ ((D, tupObj #[.str op tk, v, u] e) :: (tl ++ tr)) _ _ F (fun p hp => N p ?_) (fun q hq p hp => ?_) (hin _ (List.mem_append_right _ (.head _)) (ht.mono (sub_l fun _ h => .tail _ (List.mem_append_left _ h))) (hr.mono (sub_l fun _ h => .tail _ (List.mem_append_right _ h))))
  · rcases List.mem_append.mp hp with hp | hp
    · exact hnews p hp
    · rcases List.mem_cons.mp hp with rfl | hp; exact hD; exact (List.mem_append.mp hp).elim (htl p) (htr p)
  · rcases List.mem_cons.mp hp with rfl | hp; exact allLt_left hA q hq; exact (List.mem_append.mp hp).elim (hl _ (g4 q hq) p) (hlr _ (f4 q hq) p)
end
theorem put_var {w : World} : PutSpec w .va ∧ PutSpec w .vb ∧ PutSpec w .vc := by
  refine ⟨?_, ?_, ?_⟩
  all_goals (
    intro mean mg mb dp un gd cn cs a ccd cl outer A₀ base h₀ L m news s Q E v dt ot xa xb xc tA tB tC tn pn B F X N T hk hin hpn htn hA hB hC hdt hds hdd hd hu ret
    simp only [Pat.depth] at hd hu
    cases hin
    replace N := newsCons N hdt
    refine ret_of (α := Unit) ?_
    refine wpAny_call ?_
    w_strict (k_dflt (k_extra "my enterC"))
    k_extra "my steps"
    all_goals (try dsimp only at *))
  all_goals ((rename Fr h₀ L _ m => fX); (rename News h₀ L _ _ => nX); refine ret _ [] _ _ fX (fun p hp => nX p (by simp only [List.append_nil] at hp; simp only [List.mem_cons, hp, or_true])) (fun _ _ _ h => nomatch h) ?_; rw [List.append_nil]; assumption)
theorem put_zero {w : World} : PutSpec w .zero := by
  intro mean mg mb dp un gd cn cs a ccd cl outer A₀ base h₀ L m news s Q E v dt ot xa xb xc tA tB tC tn pn B F X N T hk hin hpn htn hA hB hC hdt hds hdd hd hu ret
  simp only [Pat.depth] at hd hu
  cases hin with | zero hm =>
  replace N := newsCons (newsCons N hdt) (List.mem_cons_of_mem _ (hpn _ hm))
  refine ret_of (α := Unit) ?_
  refine wpAny_call ?_
  w_strict (k_dflt (k_extra "my enterC"))
  k_extra "my steps"
  all_goals (try dsimp only at *)
  all_goals (exact put_end1 (n := .zero) ret (by assumption) (by assumption) (by k_mem) (by k_extra "my sub") (by k_extra "my allLt"))
theorem put_plus {w : World} {p q : Pat} (IH : PutFor w (fun r => r = p ∨ r = q)) : PutSpec w (.plus p q) := by
  intro mean mg mb dp un gd cn cs a ccd cl outer A₀ base h₀ L m news s Q E v dt ot xa xb xc tA tB tC tn pn B F X N T hk hin hpn htn hA hB hC hdt hds hdd hd hu ret
  simp only [Pat.depth] at hd hu
  cases hin with | plus hm hp hq =>
  have hpnS : SubOf pn news := hpn
  have htnS : SubOf tn news := htn
  replace N := newsCons (newsCons N hdt) (List.mem_cons_of_mem _ (hpn _ hm))
  clear hpn htn
  refine ret_of (α := Unit) ?_
  refine wpAny_call ?_
  w_strict (k_dflt (k_extra "my enterC"))
  k_extra "my steps"
  all_goals (try dsimp only at *)
  all_goals (exact put_end3 Tm.plus (fun _ h1 h2 h3 => .plus h1 h2 h3) ret (by assumption) (by assumption) (by k_mem) (by assumption) (by assumption) (by k_extra "my sub") (by k_extra "my sub") (by k_extra "my sub") (by k_extra "my allLt") (by assumption) (by k_extra "my sub") (by assumption) (by k_extra "my sub"))
theorem put_times {w : World} {p q : Pat} (IH : PutFor w (fun r => r = p ∨ r = q)) : PutSpec w (.times p q) := by
  intro mean mg mb dp un gd cn cs a ccd cl outer A₀ base h₀ L m news s Q E v dt ot xa xb xc tA tB tC tn pn B F X N T hk hin hpn htn hA hB hC hdt hds hdd hd hu ret
  simp only [Pat.depth] at hd hu
  cases hin with | times hm hp hq =>
  have hpnS : SubOf pn news := hpn
  have htnS : SubOf tn news := htn
  replace N := newsCons (newsCons N hdt) (List.mem_cons_of_mem _ (hpn _ hm))
  clear hpn htn
  refine ret_of (α := Unit) ?_
  refine wpAny_call ?_
  w_strict (k_dflt (k_extra "my enterC"))
  k_extra "my steps"
  all_goals (try dsimp only at *)
  all_goals (exact put_end3 Tm.times (fun _ h1 h2 h3 => .times h1 h2 h3) ret (by assumption) (by assumption) (by k_mem) (by assumption) (by assumption) (by k_extra "my sub") (by k_extra "my sub") (by k_extra "my sub") (by k_extra "my allLt") (by assumption) (by k_extra "my sub") (by assumption) (by k_extra "my sub"))
theorem put_suc {w : World} {p : Pat} (IH : PutFor w (fun r => r = p ∨ r = p)) : PutSpec w (.suc p) := by
  intro mean mg mb dp un gd cn cs a ccd cl outer A₀ base h₀ L m news s Q E v dt ot xa xb xc tA tB tC tn pn B F X N T hk hin hpn htn hA hB hC hdt hds hdd hd hu ret
  simp only [Pat.depth] at hd hu
  cases hin with | suc hm hp =>
  have hpnS : SubOf pn news := hpn
  have htnS : SubOf tn news := htn
  replace N := newsCons (newsCons N hdt) (List.mem_cons_of_mem _ (hpn _ hm))
  clear hpn htn
  refine ret_of (α := Unit) ?_
  refine wpAny_call ?_
  w_strict (k_dflt (k_extra "my enterC"))
  k_extra "my steps"
  all_goals (try dsimp only at *)
  all_goals (exact put_end2 ret (by assumption) (by assumption) (by k_mem) (by assumption) (by k_extra "my sub") (by k_extra "my sub") (by k_extra "my allLt") (by assumption) (by k_extra "my sub"))
theorem put_all {w : World} (p : Pat) : PutSpec w p := by
  induction p with
  | va => exact put_var.1
  | vb => exact put_var.2.1
  | vc => exact put_var.2.2
  | zero => exact put_zero
  | suc p ih => exact put_suc (for1 (P := PutSpec w) ih)
  | plus p q i1 i2 => exact put_plus (for2 (P := PutSpec w) i1 i2)
  | times p q i1 i2 => exact put_times (for2 (P := PutSpec w) i1 i2)
section
variable {prog : Program} {w : World} {A : Around} {E : Value → Shared → Prop} {s : Shared} {env : Env} {h₀ : Heap} {target : PySem.Expr} {body : List Stmt} {Q : Flow → Shared → Prop}
def TurnEnd (h₀ : Heap) (L : Addr) (s₁ : Shared) (own : List (Addr × Obj)) (ws : List Addr) (src : Addr × Obj) (rest : (Str → Option Value) → List (Addr × Obj) → Prop) (Q : Flow → Shared → Prop) (f : Flow) (s₂ : Shared) : Prop :=
  match f with
  | .ret v => Q (.ret v) s₂
  | .brk => False
  | _ => ∃ h' tk m' news', s₂ = { s₁ with heap := h', toks := tk } ∧ Fr h₀ L h' m' ∧ News h₀ L h' (own ++ news') ∧ (∀ p ∈ news', p.1 ∉ ws) ∧ src ∈ news' ∧ rest m' news'
def TurnsOf (prog : Program) (w : World) (A : Around) (E : Value → Shared → Prop) (h₀ : Heap) (env : Env) (target : PySem.Expr) (body : List Stmt) (Q : Flow → Shared → Prop) (s : Shared) (ws : List Addr) (src : Addr × Obj) : List (Value → Heap → Prop) → (Str → Option Value) → List (Addr × Obj) → Prop
  | [], m, news => ∀ h tk, Fr h₀ env.locals h m → News h₀ env.locals h news → Q .next { s with heap := h, toks := tk }
  | P :: r, m, news => ∀ v h tk own, P v h → own.map (·.1) = ws → Fr h₀ env.locals h m → News h₀ env.locals h (own ++ news) → (∀ p ∈ news, p.1 ∉ ws) →
      wpAny (model prog w) A (assign target env v) (fun _ s₂ => wpAny (model prog w) A (execs body env) (TurnEnd h₀ env.locals { s with heap := h, toks := tk } own ws src (fun m' n' => TurnsOf prog w A E h₀ env target body Q s ws src r m' n') Q) E s₂) E { s with heap := h, toks := tk }
theorem own_of {h : Heap} : ∀ {ws : List Addr}, (∀ b ∈ ws, ∃ o, h.get? b = some o) → ∃ own : List (Addr × Obj), own.map (·.1) = ws ∧ ∀ p ∈ own, h.get? p.1 = some p.2
  | [], _ => ⟨[], rfl, fun _ hp => nomatch hp⟩
  | b :: r, hl => by
    obtain ⟨o, ho⟩ := hl b (.head _)
    obtain ⟨own, e, hg⟩ := own_of (ws := r) fun c hc => hl c (.tail _ hc)
    exact ⟨(b, o) :: own, by simp [e], fun p hp => by rcases List.mem_cons.mp hp with rfl | hp; exact ho; exact hg p hp⟩
theorem turns_at {I t : Addr} {ot : Obj} {fp wr : List Addr} {n : Nat} {P Md : Nat → Value → Heap → Prop} {St : Nat → Heap → Prop} {xs : List (Value → Heap → Prop)} {m₀ : Str → Option Value} {news : List (Addr × Obj)} {hp : Heap} {tk0 : Nat}
    (W : KTurns prog w A target I fp wr n P Md St) (hn : n = xs.length) (hP : ∀ i v h, P i v h → ∃ a, xs[i]? = some a ∧ a v h) (hfp : ∀ b ∈ fp, b ∈ wr ∨ b = t) (hlive : ∀ i h, St i h → ∀ b ∈ wr, ∃ o, h.get? b = some o)
    (hL : env.locals ∉ fp) (hwr : ∀ b ∈ wr, h₀.get? b = none) (hnw : ∀ p ∈ news, p.1 ∉ wr) (hst : St 0 hp) (F : Fr h₀ env.locals hp m₀) (N : News h₀ env.locals hp news) (hk : (t, ot) ∈ news)
    (rest : TurnsOf prog w A E h₀ env target body Q s wr (t, ot) xs m₀ news) : TurnsAt prog w A h₀ env target body Q E (.ref I) { s with heap := hp, toks := tk0 } := by
  let J : Nat → (Str → Option Value) → List (Addr × Obj) → Prop := fun i m₁ news₁ => (t, ot) ∈ news₁ ∧ TurnsOf prog w A E h₀ env target body Q s wr (t, ot) (xs.drop i) m₁ news₁
  refine ⟨I, fp, wr, n, P, Md, St, m₀, news, J, rfl, W, hL, hwr, hnw, hst, F, N, ⟨hk, by rw [List.drop_zero]; exact rest⟩, ?_, ?_⟩
  · intro i v m₁ news₁ h₁ tk₁ own' hin hPi hJ hoff hown hget hall hst₁ F₁ N₁
    obtain ⟨hk₁, hJ⟩ := hJ
    obtain ⟨a, ha, hav⟩ := hP i v h₁ hPi
    obtain ⟨own, hmap, hval⟩ := own_of (hlive (i + 1) h₁ hst₁)
    have hdrop : xs.drop i = a :: xs.drop (i + 1) := by
      have hlt' : i < xs.length := hn ▸ hin
      rw [List.drop_eq_getElem_cons hlt']
      congr 1
      exact Option.some.inj ((List.getElem?_eq_getElem hlt').symm.trans ha)
    rw [hdrop] at hJ
    have inw : ∀ p ∈ own, p.1 ∈ wr := fun p hp => hmap ▸ List.mem_map_of_mem hp
    have N₂ : News h₀ env.locals h₁ (own ++ news₁) := fun p hp => by
      rcases List.mem_append.mp hp with hp | hp
      · exact N₁ _ (List.mem_append_left _ (hall p.1 (W.sub _ (inw p hp)) (hwr _ (inw p hp)) p.2 (hval p hp)))
      · exact N₁ _ (List.mem_append_right _ hp)
    have fin : ∀ s₃, (∃ h' tk m' news', s₃ = { ({ s with heap := h₁, toks := tk₁ } : Shared) with heap := h', toks := tk } ∧ Fr h₀ env.locals h' m' ∧ News h₀ env.locals h' (own ++ news') ∧ (∀ p ∈ news', p.1 ∉ wr) ∧ (t, ot) ∈ news' ∧ TurnsOf prog w A E h₀ env target body Q s wr (t, ot) (xs.drop (i + 1)) m' news') →
        LoopStepU h₀ env.locals wr own' (J (i + 1)) { s with heap := h₁, toks := tk₁ } .next s₃ := by
      rintro s₃ ⟨h', tk, m', news', e, F', N', ho, hk', r⟩
      refine ⟨rfl, h', tk, m', news', e, F', ?_, ho, hk', r⟩
      rintro ⟨pa, po⟩ hp
      rcases List.mem_append.mp hp with hp | hp
      · have h2 : h₁.get? pa = some po := hget _ hp
        rcases hfp pa (hown _ hp) with h3 | h3
        · rw [← hmap] at h3
          obtain ⟨⟨qa, qo⟩, hq, hqe⟩ := List.mem_map.mp h3
          have hqe' : qa = pa := hqe
          subst hqe'
          obtain rfl : qo = po := Option.some.inj ((hval _ hq).symm.trans h2)
          exact N' _ (List.mem_append_left _ hq)
        · subst h3
          obtain rfl : ot = po := Option.some.inj ((N₁ _ (List.mem_append_right _ hk₁)).1.symm.trans h2)
          exact N' _ (List.mem_append_right _ hk')
      · exact N' _ (List.mem_append_right _ hp)
    refine wpAny_mono (hJ v h₁ tk₁ own hav hmap F₁ N₂ hoff) (fun _ s₂ h₂ => wpAny_mono h₂ (fun f s₃ p => ?_) fun _ _ e => e) fun _ _ e => e
    cases f with
    | ret v => exact p
    | brk => exact p.elim
    | next => exact fin _ p
    | cont => exact fin _ p
  · intro h' tk m' news' F' N' _ hJ
    have z : xs.drop n = [] := List.drop_eq_nil_of_le (Nat.le_of_eq hn.symm)
    have hJ' := hJ.2
    rw [z] at hJ'
    exact hJ' h' tk F' N'
def enumItems : Nat → List Value → List (Value → Heap → Prop)
  | _, [] => []
  | i, x :: r => (fun v h => ∃ T u, v = .ref T ∧ h.IsTuple T #[.int i u, x]) :: enumItems (i + 1) r
theorem enumItems_len : ∀ (vs : List Value) (i : Nat), (enumItems i vs).length = vs.length
  | [], _ => rfl
  | _ :: r, i => by simp [enumItems, enumItems_len r (i + 1)]
theorem enumItems_at : ∀ (vs : List Value) (k i : Nat) (x : Value), vs[i]? = some x → (enumItems k vs)[i]? = some (fun v h => ∃ T u, v = .ref T ∧ h.IsTuple T #[.int ((k + i : Nat) : Int) u, x])
  | [], _, _, _, h => by simp at h
  | y :: r, k, 0, x, h => by
    simp only [List.getElem?_cons_zero, Option.some.injEq] at h
    subst h
    rfl
  | y :: r, k, i + 1, x, h => by
    simp only [List.getElem?_cons_succ] at h
    simp only [enumItems, List.getElem?_cons_succ]
    rw [enumItems_at r (k + 1) i x h]
    congr 1
    funext v h
    rw [show k + 1 + i = k + (i + 1) by omega]
theorem enum_turns {elts : List PySem.Expr} {kk : Nat} {tp : Pos} {t : Addr} {vs : List Value} {n : Nat} {m₀ : Str → Option Value} {news : List (Addr × Obj)} (hh : A.handled = none) (F : Fr h₀ env.locals s.heap m₀) (N : News h₀ env.locals s.heap news) (hm : (t, tupObj vs.toArray n) ∈ news)
    (rest : ∀ i e, (∀ p ∈ news, p.1 < i) → i < e → TurnsOf prog w A E h₀ env (.Tuple elts kk tp) body Q s [e, i] (t, tupObj vs.toArray n) (enumItems 0 vs) m₀ news) :
    wpAny (model prog w) A (call (.type "enumerate") [.ref t]) (fun xv s₁ => wpAny (model prog w) A (pyIter xv) (fun it s₂ => TurnsAt prog w A h₀ env (.Tuple elts kk tp) body Q E it s₂) E s₁) E s := by
  have ht := N _ hm
  have hlt : t < s.heap.objs.size := Heap.lt_size ht.1
  refine call_enum_tup ht.1 fun h' he hi hz hk => ?_
  refine wpAny_pyIter_enum he ?_
  have hit : s.heap.objs.size + 1 ≠ s.heap.objs.size := Nat.ne_of_gt (Nat.lt_succ_self _)
  have fresh : ∀ b, s.heap.objs.size ≤ b → h₀.get? b = none := fun b hb => by
    cases q : h₀.get? b with
    | none => rfl
    | some o => exact absurd (Heap.lt_size (F.keep _ _ q)) (Nat.not_lt.mpr hb)
  have inW : ∀ b, b ∈ [s.heap.objs.size + 1, s.heap.objs.size] → s.heap.objs.size ≤ b := fun b hb => by
    simp only [List.mem_cons, List.not_mem_nil, or_false] at hb
    rcases hb with rfl | rfl
    · exact Nat.le_succ _
    · exact Nat.le_refl _
  refine turns_at (s := s) (tk0 := s.toks) (xs := enumItems 0 vs) (hp := h') (KTurns.ofWalksU (WalksT.enumerateD (draws_tup (A := A.in1) hh s.heap.objs.size t (Nat.ne_of_lt hlt) vs.toArray) (s.heap.objs.size + 1) hit ?_ (by simp)).toU) (by rw [enumItems_len]; simp) ?_ ?_ ?_ ?_ (fun b hb => fresh b (inW b hb)) (fun p hp hI => ?_) ⟨⟨_, he⟩, hi, ?_⟩ ?_ (fun p hp => ⟨hk _ _ (N p hp).1, (N p hp).2⟩) hm (rest _ _ (fun p hp => Heap.lt_size (N p hp).1) (Nat.lt_succ_self _))
  · intro hq
    simp only [List.mem_cons, List.not_mem_nil, or_false] at hq
    rcases hq with hq | hq
    · exact hit hq
    · exact absurd hlt (Nat.not_lt.mpr (hq ▸ Nat.le_succ _))
  · rintro i v h ⟨T, vals, rfl, ⟨u, x, hx, rfl⟩, hT⟩
    refine ⟨_, enumItems_at vs 0 i x (by simpa using hx), T, u, rfl, ?_⟩
    rw [Nat.zero_add]
    exact hT
  · intro b hb
    simp only [List.mem_cons, List.not_mem_nil, or_false] at hb ⊢
    rcases hb with h | h | h
    · exact .inl (.inl h)
    · exact .inl (.inr h)
    · exact .inr h
  · rintro i h ⟨⟨old, h1⟩, ⟨o, h2, _⟩, _⟩ b hb
    simp only [List.mem_cons, List.not_mem_nil, or_false] at hb
    rcases hb with rfl | rfl
    · exact ⟨_, h1⟩
    · exact ⟨_, h2⟩
  · intro hq
    have hL := F.ns.lt
    simp only [List.mem_cons, List.not_mem_nil, or_false] at hq
    rcases hq with hq | hq | hq
    · exact absurd hL (Nat.not_lt.mpr (hq ▸ Nat.le_succ _))
    · rw [hq] at hL; exact Nat.lt_irrefl _ hL
    · exact ht.2.1 hq.symm
  · exact absurd (Heap.lt_size (N p hp).1) (Nat.not_lt.mpr (inW _ hI))
  · exact ⟨_, hk _ _ ht.1, rfl, _, rfl⟩
  · exact F.keeps hk
end
theorem w76 : True := by
  w_top off
  k_with_none
  k_with "my k_all" => (k_dflt (first | assumption | exact all_ne_sub9 (by assumption) (by k_extra "my sub") | exact all_ne_u0 (by assumption) (by k_extra "my sub") | exact all_ne_u1 (by assumption) (by k_extra "my sub") | exact all_ne_u2 (by assumption) (by k_extra "my sub") | exact all_ne_u3 (by assumption) (by k_extra "my sub") | exact all_ne_u4 (by assumption) (by k_extra "my sub") | (refine List.forall_mem_append.mpr ⟨?_, ?_⟩ <;> k_all)))
  k_with "my ktr_room" => (((try simp only [depth_under_make, depth_under_kw, depth_in1, depth_deeper, depth_caller]); (try dsimp only [ktrTop]); (try simp only [recursionLimit]); k_extra "my room"))
  k_with "my room" => (first | exact Nat.le_of_ble_eq_true rfl | exact rm0 hd rfl | exact rm1 hd rfl | exact rm5 hd rfl | exact rm6 hd rfl | exact rm4 hd rfl | exact rm2 hd rfl | exact rm3 hd rfl | exact rm7 hd rfl | exact rm8 (by assumption) rfl | omega)
  k_with "my units" => (first | exact Nat.le_of_ble_eq_true rfl | exact rm0 hu rfl | exact rm1 hu rfl | exact rm5 hu rfl | exact rm6 hu rfl | exact rm4 hu rfl | exact rm2 hu rfl | exact rm3 hu rfl | exact rm7 hu rfl | exact rm8 (by assumption) rfl | exact um1 hu rfl | exact um2 hu rfl | exact um3 hu rfl | exact um4 hu rfl | exact um5 hu rfl | (have hcL9 := cLine_is; omega))
  k_with "my dep" => (first | assumption | exact dm1 hdp | exact dm2 hdp | exact dm0 hdp | omega)
  k_with "my ktr_units" => (((try simp only [units_in1, units_deeper, Around.mark_units, units_caller]); (try dsimp only [ktrTop]); k_extra "my units"))
  k_with "my k_room" => (ktr_room)
  k_with "my k_units" => (ktr_units)
  k_with "my units_room" => (ktr_units)
  k_with "compareOp Eq ref ref" => ((k_here; (with_reducible show wpAny _ _ (compareOp CmpOp.Eq (Value.ref _) (Value.ref _)) _ _ _); first
      | refine' eq_zero_f (by assumption) (by assumption) (by k_extra "my sub") (by k_mem) (by first | rfl | exact mkOf_zero) (by omega) (by ktr_units) ?_
      | refine' eq_zero_t (by assumption) (by assumption) (by k_extra "my sub") (by k_mem) rfl (by omega) (by ktr_units) ?_))
  k_with "my k_ne" => (k_dflt (first | exact off_I (by assumption) (by k_mem) | exact off_C (by assumption) (by k_mem) | exact off_D (by assumption) (by k_mem) | assumption | exact ne_gt9 (by assumption) (by k_mem) | exact ne_lt9 (by assumption) (by k_mem) | exact ne_all9 (by assumption) (by k_mem) | exact ne_all9s (by assumption) (by k_mem) | exact ne_gt_u1 (by assumption) (by k_mem) | exact ne_lt_u1 (by assumption) (by k_mem) | exact ne_gt_u2 (by assumption) (by k_mem) | exact ne_lt_u2 (by assumption) (by k_mem) | exact ne_gt_u3 (by assumption) (by k_mem) | exact ne_lt_u3 (by assumption) (by k_mem) | exact ne_gt_u4 (by assumption) (by k_mem) | exact ne_lt_u4 (by assumption) (by k_mem)))
  k_with "my off" => (first | exact True.intro | (refine And.intro (off_at (by assumption) (by k_mem)) ?_; k_extra "my off") | (refine Off3.append ?_ ?_ <;> k_extra "my off") | (refine Off3.of_sub (by assumption) (fun p hp => ?_); simp only [List.mem_cons, List.mem_append, hp, true_or, or_true]; done) | (refine Off3.of_lt (by assumption) (by k_mem) (by k_mem) (by k_mem)))
  k_with "CompSrc" => ((k_here; k_dflt (refine LCg.CompSrc.range (by rfl) (by k_asm) (by k_asm) (by with_reducible assumption) (by first | decide | rfl) (by first | rfl | decide) (by first | size_fits | exact Nat.le_of_ble_eq_true rfl) ?_; intro g'; lcg_lit)))
  k_with "CompRest" => ((with_unfolding_all first
      | (refine CompRest_at (fun v9 h9 => (Option.some.inj h9).symm) ?_; intro I' oI' C' oC' D' m' h' tk' E' hC' hx' F' N' off' ne'; have offM := off'.mem; clear off')
      | (refine CompRest_ex (fun v9 h9 => h9) ?_; intro t9' I' oI' C' oC' D' m' h' tk' E' hC' hx' F' N' off' ne'; have offM := off'.mem; clear off')
      | (refine LCg.CompRest.succ ?_; intro v' I' oI' C' oC' D' m' h' tk' E' hv' hC' hx' F' N' off' ne'; have offM := off'.mem; (first | lcg_open hv' | (obtain ⟨t9', hv9'⟩ := hv'; subst hv9')); clear off')
      | refine LCg.CompRest.zero ?_))
  k_with "CompEnd" => ((k_here; (refine LCg.CompEnd.intro (by assumption) (by assumption) _ (fun p hp => hp) ?offAO ?srcAO ?_; (case offAO => k_extra "my off"); (case srcAO => first | lcg_src | ((try dsimp only); k_mem)))))
  k_with "my enter" => ((refine' code_def ?k1AP ?k2AP ?k3AP ?k4AP ?k5AP ?kAAP ?kFAP ?kKAP ?k6AP ?k7AP ?k8AP ?k9AP ?kBAP ?_ ?c2AP ?c3AP ?c4AP ?c5AP; (case kAAP => exact rfl); (case kFAP => exact rfl); (case kKAP => first | exact rfl | assumption); (case k1AP => k_asm); (case k2AP => k_asm); (case k3AP => k_asm); (case k4AP => k_asm); (case k5AP => k_asm); (case k6AP => k_is); (case k7AP => k_is); (case k8AP => ktr_room); (case k9AP => exact BindsTo.of_eq rfl); (case c5AP => decide); (case kBAP => exact locs rfl); (case c2AP => exact rfl); (case c3AP => exact rfl); (case c4AP => exact rfl); k_whole; intro g' L' h' FG' F' N' B' X' T'; (try dsimp only); (try k_fold)))
  k_with "my enterC" => ((refine' code_defC ?k1AQ ?k2AQ ?k3AQ ?k4AQ ?k5AQ ?kAAQ ?kFAQ ?kKAQ ?k6AQ ?k7AQ ?k8AQ ?k9AQ ?kBAQ ?kDAQ ?_ ?c2AQ ?c3AQ ?c4AQ; (case kAAQ => exact rfl); (case kFAQ => exact rfl); (case kKAQ => first | exact rfl | assumption); (case k1AQ => k_asm); (case k2AQ => k_asm); (case k3AQ => k_asm); (case k4AQ => k_asm); (case k5AQ => k_asm); (case k6AQ => k_is); (case k7AQ => k_is); (case k8AQ => ktr_room); (case k9AQ => exact BindsTo.of_eq rfl); (case kBAQ => exact rfl); (case kDAQ => decide +kernel); (case c2AQ => exact rfl); (case c3AQ => exact rfl); (case c4AQ => exact rfl); k_whole; intro g' L' h' tk' cells' FG' F'; (first | (refine cells_in1 ?_; intro o' d1' N') | (refine cells_in2 ?_; intro o' o2' d1' d2' N') | (refine cells_in3 ?_; intro o' o2' o3' d1' d2' d3' N') | (refine cells_in4 ?_; intro o' o2' o3' o4' d1' d2' d3' d4' N')); intro B' X' T' l1; (try k_lt l1); (try dsimp only); (try k_fold)))
  k_with "eval ListComp" => ((k_here; (with_reducible show wpAny _ _ (eval (Expr.ListComp _ [⟨Expr.Name _ _, Expr.Subscript _ (Expr.Slice (some _) _ _ _) _, [], 0⟩] _ _) _) _ _ _); k_dflt (refine comp_tup (by k_asm) (by with_unfolding_all rfl) (by decide) (by rfl) (by decide) (by rfl) ?_)))
  k_with "exec Assign cons ListComp" => ((k_here; (with_reducible show wpAny _ _ (exec (Stmt.Assign [Expr.Name _ _] (Expr.ListComp _ [⟨Expr.Name _ _, Expr.Subscript _ (Expr.Slice (some _) _ _ _) _, [], 0⟩] _ _) _) _) _ _ _); k_dflt (refine comp_tup_assign (by k_asm) (by rfl) (by with_unfolding_all rfl) (by with_unfolding_all rfl) (by decide) (by rfl) (by decide) (by rfl) (by rfl) (by rfl) ?_)))
  k_with "subscriptTail Name Slice ref ref" => ((k_here; (with_reducible show wpAny _ _ (subscriptTail _ (PySem.Expr.Slice (some _) none none _) (Value.ref _) (Value.ref _)) _ _ _); k_dflt (refine' slice_tup1 ?FAT ?NAT ?lAT ?pAT ?eAT ?_ ?sAT ?tAT ?zAT; (case FAT => k_asm); (case NAT => k_asm); (case lAT => k_mem); (case pAT => exact Nat.le_of_ble_eq_true rfl); (case eAT => kl_lit); (case sAT => with_unfolding_all rfl); (case tAT => kmk_pure); (case zAT => kmk_size)); intro D' h' F' N' l1; (try k_lt l1); (try k_sweep)))
  k_with "TupSrc" => ((k_here; k_dflt (refine TupSrc.of (by rfl) (by k_asm) (by k_asm) (by k_mem) (by first | size_fits | exact Nat.le_of_ble_eq_true rfl) ?_; intro g'; lcg_lit)))
  k_with "my steps" => (repeat' ((fail_if_success (with_reducible show Ret _ _ _)); first | ((with_reducible show wpAny _ _ (call (Value.ref _) _ _) _ _ _); k_extra "my call") | ((fail_if_success ((with_reducible show wpAny _ _ (call (Value.ref _) _ _) _ _ _); k_extra "my nocall")); first | (k_unfold; (try dsimp only)) | walk1 | (dsimp only; walk1) | (leave1; walk_say "STEP leave1"; try dsimp only))))
  k_with "my sub" => (first | (with_reducible exact sub_self _) | (with_reducible refine sub_cons ?_; k_extra "my sub") | (with_reducible refine sub_left ?_; k_extra "my sub") | (with_reducible refine sub_right ?_; k_extra "my sub") | (intro p hp; simp only [List.mem_cons, List.mem_append, hp, true_or, or_true]; done))
  k_with "my ord" => (k_dflt (first | assumption | exact lt_all (by assumption) (by k_mem) | exact lt_all_u1 (by assumption) (by k_mem) | exact lt_all_u2 (by assumption) (by k_mem) | omega))
  k_with "my allLt" => (first | exact allLt_of (by assumption) | exact allLt_sub (by assumption) (by k_extra "my sub") | tbn_find)
  k_with "FinE" => (((unfold LCg.FinE); intro D' h' tk' F' N' o1'; replace o1' := off1_mem o1'; (try dsimp only [List.nil_append, List.cons_append] at N'); (try dsimp only [List.nil_append, List.cons_append] at o1'); (try dsimp only)))
  k_with "FinA" => (((unfold LCg.FinA); intro D' h' tk' F' N' o1'; replace o1' := off1_mem o1'; (try dsimp only [List.nil_append, List.cons_append] at N'); (try dsimp only [List.nil_append, List.cons_append] at o1'); (try dsimp only)))
  k_with "my omega" => (first
      | ((with_reducible show @LE.le Nat _ _ _); first | exact Nat.le_of_ble_eq_true rfl | with_reducible (first | exact o1 ‹_› (by decide) | exact o4 ‹_› (by decide) | exact o7 ‹_› (by decide) | exact o8 ‹_› (by decide) | exact o9 ‹_› (by decide) | exact q6 ‹_› (by decide) | exact q0 ‹_› (by decide) | exact r0 ‹_› (by decide) | exact q1 ‹_› ‹_› (by decide) | exact q3 ‹_› ‹_› (by decide) | exact q7 ‹_› ‹_› (by decide) | exact q8 ‹_› ‹_› (by decide) | exact q9 ‹_› ‹_› | exact r1 ‹_› ‹_› (by decide) | exact r2 ‹_› ‹_› | exact r4 ‹_› ‹_› | exact r8 ‹_› ‹_› (by decide) | exact o0 ‹_› (by decide) | exact Nat.add_le_add ‹_› ‹_› | exact Nat.le_add_left _ _ | exact Nat.le_of_lt ‹_›))
      | ((with_reducible show @LT.lt Nat _ _ _); first | exact Nat.le_of_ble_eq_true rfl | with_reducible (first | exact o2 ‹_› (by decide) | exact o3 ‹_› (by decide) | exact o5 ‹_› (by decide) | exact o6 ‹_› (by decide) | exact p5 ‹_› (by decide) | exact j6 ‹_› (by decide) | exact q2 ‹_› ‹_› (by decide) | exact q4 ‹_› ‹_› (by decide) | exact q5 ‹_› ‹_› (by decide) | exact p1 ‹_› ‹_› (by decide) | exact p2 ‹_› ‹_› (by decide) | exact p3 ‹_› ‹_› (by decide) | exact p4 ‹_› ‹_› (by decide) | exact p6 ‹_› ‹_› (by decide)))
      | ((with_reducible show @LE.le Int _ _ _); first | decide +kernel | with_reducible (first | exact i1 ‹_› | exact i2 ‹_› | exact i6 | exact i7 | exact j7 ‹_› | exact j4 ‹_› (by decide +kernel) | exact i8 ‹_› (by decide +kernel) | exact i9 ‹_› (by decide +kernel) | exact i3 ‹_› ‹_› | exact i4 ‹_› ‹_› | exact i5 ‹_› ‹_›))
      | ((with_reducible show @LT.lt Int _ _ _); first | decide +kernel | with_reducible (first | exact j1 ‹_› | exact j5 (by decide +kernel) | exact j3 ‹_› (by decide +kernel) | exact j8 ‹_› (by decide +kernel) | exact j9 ‹_› (by decide +kernel) | exact l1 ‹_› (by decide +kernel) | exact l2 ‹_› (by decide +kernel) | exact l3 ‹_› (by decide +kernel) | exact j0 ‹_› ‹_› (by decide +kernel)))
      | ((with_reducible show @Ne Nat _ _); with_reducible (first | exact Nat.ne_of_gt ‹_› | exact Nat.ne_of_lt ‹_› | exact Nat.succ_ne_self _ | exact (Nat.succ_ne_self _).symm))
      | with_reducible (first | exact j2 ‹_› | exact z4 ‹_› ‹_› | exact z6 ‹_› ‹_› | exact z3 ‹_› | exact z2 ‹_› ‹_›))
  trivial
def Pat.isVar : Pat → Bool
  | .va => true
  | .vb => true
  | .vc => true
  | _ => false
def IsVarSpec (w : World) (p : Pat) : Prop :=
  ∀ {mean : ExcName → Option Value} {mg mb : Str → Option Value}
    {dp un : Nat} {gd : Option (List Code)} {cn : Str} {cs : Scope} {a : Addr} {ccd : Value} {cl : List (Str × Addr)} {outer : List Env} {A₀ : Around} {base h₀ : Heap} {L : Addr} {m : Str → Option Value} {news : List (Addr × Obj)} {s : Shared}
    {Q E : Value → Shared → Prop} {v : Value}
    (_ : Below A₀ base outer h₀) (_ : Fr h₀ L s.heap m) (_ : (hd.heap_1 w.params).In h₀) (_ : News h₀ L s.heap news)
    (_ : Top view LO mean mg mb h₀) (_ : cs.kind = .function) (_ : PatIn news v p) (_ : dp < 850) (_ : un < 4500)
    (_ : ∀ h' tk', Fr h₀ L h' m → News h₀ L h' news → Q (.bool p.isVar) { s with heap := h', toks := tk' }),
    wpAny (model PySem.Challenge.rw_pq0002_01.row.prog w) (ktrTop dp un gd cn cs L a ccd cl outer) (call (.ref 81) [v]) Q E s
theorem isvar_var {w : World} : IsVarSpec w .va ∧ IsVarSpec w .vb ∧ IsVarSpec w .vc := by
  refine ⟨?_, ?_, ?_⟩
  all_goals (
    intro mean mg mb dp un gd cn cs a ccd cl outer A₀ base h₀ L m news s Q E v B F X N T hk hin hd hu ret
    cases hin
    refine ret_of (α := Unit) ?_
    refine wpAny_call ?_
    w_strict (k_dflt (k_extra "my enter"))
    k_extra "my steps"
    all_goals (try dsimp only at *))
  all_goals ((rename Fr h₀ L _ m => fX); (rename News h₀ L _ _ => nX); exact ret _ _ fX nX)
theorem isvar_zero {w : World} : IsVarSpec w .zero := by
  intro mean mg mb dp un gd cn cs a ccd cl outer A₀ base h₀ L m news s Q E v B F X N T hk hin hd hu ret
  cases hin with | zero hm =>
  replace N := newsCons N hm
  refine ret_of (α := Unit) ?_
  refine wpAny_call ?_
  w_strict (k_dflt (k_extra "my enter"))
  k_extra "my steps"
  all_goals (try dsimp only at *)
  all_goals ((rename Fr h₀ L _ m => fX); (rename News h₀ L _ _ => nX); exact ret _ _ fX (fun p hp => nX p (.tail _ hp)))
theorem isvar_one {w : World} {mean : ExcName → Option Value} {mg mb : Str → Option Value}
    {dp un : Nat} {gd : Option (List Code)} {cn : Str} {cs : Scope} {a : Addr} {ccd : Value} {cl : List (Str × Addr)} {outer : List Env} {A₀ : Around} {base h₀ : Heap} {L : Addr} {m : Str → Option Value} {news : List (Addr × Obj)} {s : Shared}
    {Q E : Value → Shared → Prop} {op : Str} {ta : Addr} {tk : Tok} {te : Nat} {u : Value}
    (B : Below A₀ base outer h₀) (F : Fr h₀ L s.heap m) (X : (hd.heap_1 w.params).In h₀) (N : News h₀ L s.heap news)
    (T : Top view LO mean mg mb h₀) (hk : cs.kind = .function) (hm : (ta, tupObj #[.str op tk, u] te) ∈ news) (hd : dp < 850) (hu : un < 4500)
    (ret : ∀ h' tk', Fr h₀ L h' m → News h₀ L h' news → Q (.bool false) { s with heap := h', toks := tk' }) :
    wpAny (model PySem.Challenge.rw_pq0002_01.row.prog w) (ktrTop dp un gd cn cs L a ccd cl outer) (call (.ref 81) [.ref ta]) Q E s := by
  replace N := newsCons N hm
  refine ret_of (α := Unit) ?_
  refine wpAny_call ?_
  w_strict (k_dflt (k_extra "my enter"))
  k_extra "my steps"
  all_goals (try dsimp only at *)
  all_goals ((rename Fr h₀ L _ m => fX); (rename News h₀ L _ _ => nX); exact ret _ _ fX (fun p hp => nX p (.tail _ hp)))
theorem isvar_two {w : World} {mean : ExcName → Option Value} {mg mb : Str → Option Value}
    {dp un : Nat} {gd : Option (List Code)} {cn : Str} {cs : Scope} {a : Addr} {ccd : Value} {cl : List (Str × Addr)} {outer : List Env} {A₀ : Around} {base h₀ : Heap} {L : Addr} {m : Str → Option Value} {news : List (Addr × Obj)} {s : Shared}
    {Q E : Value → Shared → Prop} {op : Str} {ta : Addr} {tk : Tok} {te : Nat} {u v : Value}
    (B : Below A₀ base outer h₀) (F : Fr h₀ L s.heap m) (X : (hd.heap_1 w.params).In h₀) (N : News h₀ L s.heap news)
    (T : Top view LO mean mg mb h₀) (hk : cs.kind = .function) (hm : (ta, tupObj #[.str op tk, u, v] te) ∈ news) (hd : dp < 850) (hu : un < 4500)
    (ret : ∀ h' tk', Fr h₀ L h' m → News h₀ L h' news → Q (.bool false) { s with heap := h', toks := tk' }) :
    wpAny (model PySem.Challenge.rw_pq0002_01.row.prog w) (ktrTop dp un gd cn cs L a ccd cl outer) (call (.ref 81) [.ref ta]) Q E s := by
  replace N := newsCons N hm
  refine ret_of (α := Unit) ?_
  refine wpAny_call ?_
  w_strict (k_dflt (k_extra "my enter"))
  k_extra "my steps"
  all_goals (try dsimp only at *)
  all_goals ((rename Fr h₀ L _ m => fX); (rename News h₀ L _ _ => nX); exact ret _ _ fX (fun p hp => nX p (.tail _ hp)))
theorem isvar_all {w : World} (p : Pat) : IsVarSpec w p := by
  cases p with
  | va => exact isvar_var.1
  | vb => exact isvar_var.2.1
  | vc => exact isvar_var.2.2
  | zero => exact isvar_zero
  | suc p =>
    intro mean mg mb dp un gd cn cs a ccd cl outer A₀ base h₀ L m news s Q E v B F X N T hk hin hd hu ret
    cases hin with | suc hm _ => exact isvar_one B F X N T hk hm hd hu ret
  | plus p q =>
    intro mean mg mb dp un gd cn cs a ccd cl outer A₀ base h₀ L m news s Q E v B F X N T hk hin hd hu ret
    cases hin with | plus hm _ _ => exact isvar_two B F X N T hk hm hd hu ret
  | times p q =>
    intro mean mg mb dp un gd cn cs a ccd cl outer A₀ base h₀ L m news s Q E v B F X N T hk hin hd hu ret
    cases hin with | times hm _ _ => exact isvar_two B F X N T hk hm hd hu ret
theorem w77 : True := by
  w_top off
  k_with_none
  k_with "my k_all" => (k_dflt (first | assumption | exact all_ne_sub9 (by assumption) (by k_extra "my sub") | exact all_ne_u0 (by assumption) (by k_extra "my sub") | exact all_ne_u1 (by assumption) (by k_extra "my sub") | exact all_ne_u2 (by assumption) (by k_extra "my sub") | exact all_ne_u3 (by assumption) (by k_extra "my sub") | exact all_ne_u4 (by assumption) (by k_extra "my sub") | (refine List.forall_mem_append.mpr ⟨?_, ?_⟩ <;> k_all)))
  k_with "my ktr_room" => (((try simp only [depth_under_make, depth_under_kw, depth_in1, depth_deeper, depth_caller]); (try dsimp only [ktrTop]); (try simp only [recursionLimit]); k_extra "my room"))
  k_with "my room" => (first | exact Nat.le_of_ble_eq_true rfl | exact rm0 hd rfl | exact rm1 hd rfl | exact rm5 hd rfl | exact rm6 hd rfl | exact rm4 hd rfl | exact rm2 hd rfl | exact rm3 hd rfl | exact rm7 hd rfl | exact rm8 (by assumption) rfl | omega)
  k_with "my units" => (first | exact Nat.le_of_ble_eq_true rfl | exact rm0 hu rfl | exact rm1 hu rfl | exact rm5 hu rfl | exact rm6 hu rfl | exact rm4 hu rfl | exact rm2 hu rfl | exact rm3 hu rfl | exact rm7 hu rfl | exact rm8 (by assumption) rfl | exact um1 hu rfl | exact um2 hu rfl | exact um3 hu rfl | exact um4 hu rfl | exact um5 hu rfl | (have hcL9 := cLine_is; omega))
  k_with "my dep" => (first | assumption | exact dm1 hdp | exact dm2 hdp | exact dm0 hdp | omega)
  k_with "my ktr_units" => (((try simp only [units_in1, units_deeper, Around.mark_units, units_caller]); (try dsimp only [ktrTop]); k_extra "my units"))
  k_with "my k_room" => (ktr_room)
  k_with "my k_units" => (ktr_units)
  k_with "my units_room" => (ktr_units)
  k_with "compareOp Eq ref ref" => ((k_here; (with_reducible show wpAny _ _ (compareOp CmpOp.Eq (Value.ref _) (Value.ref _)) _ _ _); first
      | refine' eq_zero_f (by assumption) (by assumption) (by k_extra "my sub") (by k_mem) (by first | rfl | exact mkOf_zero) (by omega) (by ktr_units) ?_
      | refine' eq_zero_t (by assumption) (by assumption) (by k_extra "my sub") (by k_mem) rfl (by omega) (by ktr_units) ?_))
  k_with "my k_ne" => (k_dflt (first | exact off_I (by assumption) (by k_mem) | exact off_C (by assumption) (by k_mem) | exact off_D (by assumption) (by k_mem) | assumption | exact ne_gt9 (by assumption) (by k_mem) | exact ne_lt9 (by assumption) (by k_mem) | exact ne_all9 (by assumption) (by k_mem) | exact ne_all9s (by assumption) (by k_mem) | exact ne_gt_u1 (by assumption) (by k_mem) | exact ne_lt_u1 (by assumption) (by k_mem) | exact ne_gt_u2 (by assumption) (by k_mem) | exact ne_lt_u2 (by assumption) (by k_mem) | exact ne_gt_u3 (by assumption) (by k_mem) | exact ne_lt_u3 (by assumption) (by k_mem) | exact ne_gt_u4 (by assumption) (by k_mem) | exact ne_lt_u4 (by assumption) (by k_mem)))
  k_with "my off" => (first | exact True.intro | (refine And.intro (off_at (by assumption) (by k_mem)) ?_; k_extra "my off") | (refine Off3.append ?_ ?_ <;> k_extra "my off") | (refine Off3.of_sub (by assumption) (fun p hp => ?_); simp only [List.mem_cons, List.mem_append, hp, true_or, or_true]; done) | (refine Off3.of_lt (by assumption) (by k_mem) (by k_mem) (by k_mem)))
  k_with "CompSrc" => ((k_here; k_dflt (refine LCg.CompSrc.range (by rfl) (by k_asm) (by k_asm) (by with_reducible assumption) (by first | decide | rfl) (by first | rfl | decide) (by first | size_fits | exact Nat.le_of_ble_eq_true rfl) ?_; intro g'; lcg_lit)))
  k_with "CompRest" => ((with_unfolding_all first
      | (refine CompRest_at (fun v9 h9 => (Option.some.inj h9).symm) ?_; intro I' oI' C' oC' D' m' h' tk' E' hC' hx' F' N' off' ne'; have offM := off'.mem; clear off')
      | (refine CompRest_ex (fun v9 h9 => h9) ?_; intro t9' I' oI' C' oC' D' m' h' tk' E' hC' hx' F' N' off' ne'; have offM := off'.mem; clear off')
      | (refine LCg.CompRest.succ ?_; intro v' I' oI' C' oC' D' m' h' tk' E' hv' hC' hx' F' N' off' ne'; have offM := off'.mem; (first | lcg_open hv' | (obtain ⟨t9', hv9'⟩ := hv'; subst hv9')); clear off')
      | refine LCg.CompRest.zero ?_))
  k_with "CompEnd" => ((k_here; (refine LCg.CompEnd.intro (by assumption) (by assumption) _ (fun p hp => hp) ?offAO ?srcAO ?_; (case offAO => k_extra "my off"); (case srcAO => first | lcg_src | ((try dsimp only); k_mem)))))
  k_with "my enter" => ((refine' code_def ?k1AP ?k2AP ?k3AP ?k4AP ?k5AP ?kAAP ?kFAP ?kKAP ?k6AP ?k7AP ?k8AP ?k9AP ?kBAP ?_ ?c2AP ?c3AP ?c4AP ?c5AP; (case kAAP => exact rfl); (case kFAP => exact rfl); (case kKAP => first | exact rfl | assumption); (case k1AP => k_asm); (case k2AP => k_asm); (case k3AP => k_asm); (case k4AP => k_asm); (case k5AP => k_asm); (case k6AP => k_is); (case k7AP => k_is); (case k8AP => ktr_room); (case k9AP => exact BindsTo.of_eq rfl); (case c5AP => decide); (case kBAP => exact locs rfl); (case c2AP => exact rfl); (case c3AP => exact rfl); (case c4AP => exact rfl); k_whole; intro g' L' h' FG' F' N' B' X' T'; (try dsimp only); (try k_fold)))
  k_with "my enterC" => ((refine' code_defC ?k1AQ ?k2AQ ?k3AQ ?k4AQ ?k5AQ ?kAAQ ?kFAQ ?kKAQ ?k6AQ ?k7AQ ?k8AQ ?k9AQ ?kBAQ ?kDAQ ?_ ?c2AQ ?c3AQ ?c4AQ; (case kAAQ => exact rfl); (case kFAQ => exact rfl); (case kKAQ => first | exact rfl | assumption); (case k1AQ => k_asm); (case k2AQ => k_asm); (case k3AQ => k_asm); (case k4AQ => k_asm); (case k5AQ => k_asm); (case k6AQ => k_is); (case k7AQ => k_is); (case k8AQ => ktr_room); (case k9AQ => exact BindsTo.of_eq rfl); (case kBAQ => exact rfl); (case kDAQ => decide +kernel); (case c2AQ => exact rfl); (case c3AQ => exact rfl); (case c4AQ => exact rfl); k_whole; intro g' L' h' tk' cells' FG' F'; (first | (refine cells_in1 ?_; intro o' d1' N') | (refine cells_in2 ?_; intro o' o2' d1' d2' N') | (refine cells_in3 ?_; intro o' o2' o3' d1' d2' d3' N') | (refine cells_in4 ?_; intro o' o2' o3' o4' d1' d2' d3' d4' N')); intro B' X' T' l1; (try k_lt l1); (try dsimp only); (try k_fold)))
  k_with "eval ListComp" => ((k_here; (with_reducible show wpAny _ _ (eval (Expr.ListComp _ [⟨Expr.Name _ _, Expr.Subscript _ (Expr.Slice (some _) _ _ _) _, [], 0⟩] _ _) _) _ _ _); k_dflt (refine comp_tup (by k_asm) (by with_unfolding_all rfl) (by decide) (by rfl) (by decide) (by rfl) ?_)))
  k_with "exec Assign cons ListComp" => ((k_here; (with_reducible show wpAny _ _ (exec (Stmt.Assign [Expr.Name _ _] (Expr.ListComp _ [⟨Expr.Name _ _, Expr.Subscript _ (Expr.Slice (some _) _ _ _) _, [], 0⟩] _ _) _) _) _ _ _); k_dflt (refine comp_tup_assign (by k_asm) (by rfl) (by with_unfolding_all rfl) (by with_unfolding_all rfl) (by decide) (by rfl) (by decide) (by rfl) (by rfl) (by rfl) ?_)))
  k_with "subscriptTail Name Slice ref ref" => ((k_here; (with_reducible show wpAny _ _ (subscriptTail _ (PySem.Expr.Slice (some _) none none _) (Value.ref _) (Value.ref _)) _ _ _); k_dflt (refine' slice_tup1 ?FAT ?NAT ?lAT ?pAT ?eAT ?_ ?sAT ?tAT ?zAT; (case FAT => k_asm); (case NAT => k_asm); (case lAT => k_mem); (case pAT => exact Nat.le_of_ble_eq_true rfl); (case eAT => kl_lit); (case sAT => with_unfolding_all rfl); (case tAT => kmk_pure); (case zAT => kmk_size)); intro D' h' F' N' l1; (try k_lt l1); (try k_sweep)))
  k_with "TupSrc" => ((k_here; k_dflt (refine TupSrc.of (by rfl) (by k_asm) (by k_asm) (by k_mem) (by first | size_fits | exact Nat.le_of_ble_eq_true rfl) ?_; intro g'; lcg_lit)))
  k_with "my steps" => (repeat' ((fail_if_success (with_reducible show Ret _ _ _)); first | ((with_reducible show wpAny _ _ (call (Value.ref _) _ _) _ _ _); k_extra "my call") | ((fail_if_success ((with_reducible show wpAny _ _ (call (Value.ref _) _ _) _ _ _); k_extra "my nocall")); first | (k_unfold; (try dsimp only)) | walk1 | (dsimp only; walk1) | (leave1; walk_say "STEP leave1"; try dsimp only))))
  k_with "my sub" => (first | (with_reducible exact sub_self _) | (with_reducible refine sub_cons ?_; k_extra "my sub") | (with_reducible refine sub_left ?_; k_extra "my sub") | (with_reducible refine sub_right ?_; k_extra "my sub") | (intro p hp; simp only [List.mem_cons, List.mem_append, hp, true_or, or_true]; done))
  k_with "my ord" => (k_dflt (first | assumption | exact lt_all (by assumption) (by k_mem) | exact lt_all_u1 (by assumption) (by k_mem) | exact lt_all_u2 (by assumption) (by k_mem) | omega))
  k_with "my allLt" => (first | exact allLt_of (by assumption) | exact allLt_sub (by assumption) (by k_extra "my sub") | tbn_find)
  k_with "FinE" => (((unfold LCg.FinE); intro D' h' tk' F' N' o1'; replace o1' := off1_mem o1'; (try dsimp only [List.nil_append, List.cons_append] at N'); (try dsimp only [List.nil_append, List.cons_append] at o1'); (try dsimp only)))
  k_with "FinA" => (((unfold LCg.FinA); intro D' h' tk' F' N' o1'; replace o1' := off1_mem o1'; (try dsimp only [List.nil_append, List.cons_append] at N'); (try dsimp only [List.nil_append, List.cons_append] at o1'); (try dsimp only)))
  k_with "my omega" => (first
      | ((with_reducible show @LE.le Nat _ _ _); first | exact Nat.le_of_ble_eq_true rfl | with_reducible (first | exact o1 ‹_› (by decide) | exact o4 ‹_› (by decide) | exact o7 ‹_› (by decide) | exact o8 ‹_› (by decide) | exact o9 ‹_› (by decide) | exact q6 ‹_› (by decide) | exact q0 ‹_› (by decide) | exact r0 ‹_› (by decide) | exact q1 ‹_› ‹_› (by decide) | exact q3 ‹_› ‹_› (by decide) | exact q7 ‹_› ‹_› (by decide) | exact q8 ‹_› ‹_› (by decide) | exact q9 ‹_› ‹_› | exact r1 ‹_› ‹_› (by decide) | exact r2 ‹_› ‹_› | exact r4 ‹_› ‹_› | exact r8 ‹_› ‹_› (by decide) | exact o0 ‹_› (by decide) | exact Nat.add_le_add ‹_› ‹_› | exact Nat.le_add_left _ _ | exact Nat.le_of_lt ‹_›))
      | ((with_reducible show @LT.lt Nat _ _ _); first | exact Nat.le_of_ble_eq_true rfl | with_reducible (first | exact o2 ‹_› (by decide) | exact o3 ‹_› (by decide) | exact o5 ‹_› (by decide) | exact o6 ‹_› (by decide) | exact p5 ‹_› (by decide) | exact j6 ‹_› (by decide) | exact q2 ‹_› ‹_› (by decide) | exact q4 ‹_› ‹_› (by decide) | exact q5 ‹_› ‹_› (by decide) | exact p1 ‹_› ‹_› (by decide) | exact p2 ‹_› ‹_› (by decide) | exact p3 ‹_› ‹_› (by decide) | exact p4 ‹_› ‹_› (by decide) | exact p6 ‹_› ‹_› (by decide)))
      | ((with_reducible show @LE.le Int _ _ _); first | decide +kernel | with_reducible (first | exact i1 ‹_› | exact i2 ‹_› | exact i6 | exact i7 | exact j7 ‹_› | exact j4 ‹_› (by decide +kernel) | exact i8 ‹_› (by decide +kernel) | exact i9 ‹_› (by decide +kernel) | exact i3 ‹_› ‹_› | exact i4 ‹_› ‹_› | exact i5 ‹_› ‹_›))
      | ((with_reducible show @LT.lt Int _ _ _); first | decide +kernel | with_reducible (first | exact j1 ‹_› | exact j5 (by decide +kernel) | exact j3 ‹_› (by decide +kernel) | exact j8 ‹_› (by decide +kernel) | exact j9 ‹_› (by decide +kernel) | exact l1 ‹_› (by decide +kernel) | exact l2 ‹_› (by decide +kernel) | exact l3 ‹_› (by decide +kernel) | exact j0 ‹_› ‹_› (by decide +kernel)))
      | ((with_reducible show @Ne Nat _ _); with_reducible (first | exact Nat.ne_of_gt ‹_› | exact Nat.ne_of_lt ‹_› | exact Nat.succ_ne_self _ | exact (Nat.succ_ne_self _).symm))
      | with_reducible (first | exact j2 ‹_› | exact z4 ‹_› ‹_› | exact z6 ‹_› ‹_› | exact z3 ‹_› | exact z2 ‹_› ‹_›))
  k_with "my call" => ((k_here; (with_reducible show wpAny _ _ (call (Value.ref 205) [_, _]) _ _ _); (with_reducible rename PutFor _ _ => ih9EF); k_dflt (refine' ih9EF ?ktEF ?k1EF ?k2EF ?k3EF ?k4EF ?k5EF ?kKEF ?k6EF ?k7EF ?k8EF ?kAEF ?kBEF ?kCEF ?k9EF ?k10EF ?k11EF ?k13EF ?k14EF ?_; (case k1EF => k_asm); (case k2EF => k_asm); (case k3EF => k_asm); (case k4EF => k_asm); (case k5EF => k_asm); (case kKEF => first | exact rfl | assumption); (case k6EF => assumption); (case ktEF => first | exact Or.inl rfl | exact Or.inr rfl); (case k9EF => k_mem); (case k10EF => assumption); (case k11EF => assumption); (case kAEF => assumption); (case kBEF => assumption); (case kCEF => assumption); (case k7EF => k_extra "my sub2"); (case k8EF => k_extra "my sub2"); (case k13EF => ktr_room); (case k14EF => ktr_units); k_whole); intro r' tl' h' tk' F' N' htl' ht'; (try dsimp only [List.cons_append, List.nil_append] at N'); (try simp only [List.append_assoc, List.cons_append, List.nil_append] at N'); (try k_sweep)))
  k_with "my nocall" => ((with_reducible show wpAny _ _ (call (Value.ref 205) _ _) _ _ _))
  trivial
def Pat.subs : Pat → List Pat
  | .va => [.va]
  | .vb => [.vb]
  | .vc => [.vc]
  | .zero => [.zero]
  | .suc p => .suc p :: p.subs
  | .plus p q => .plus p q :: (p.subs ++ q.subs)
  | .times p q => .times p q :: (p.subs ++ q.subs)
inductive PartsIn (pn l : List (Addr × Obj)) (d : Nat) : List Value → List Pat → Prop where
  | nil : PartsIn pn l d [] []
  | cons {a pth : Addr} {e e' : Nat} {its : Array Value} {v : Value} {q : Pat} {vs : List Value} {qs : List Pat} : (a, tupObj #[.ref pth, v] e) ∈ l → (pth, tupObj its e') ∈ l → its.size ≤ d → PatIn pn v q → PartsIn pn l d vs qs → PartsIn pn l d (.ref a :: vs) (q :: qs)
theorem PartsIn.mono {pn l l' : List (Addr × Obj)} {d d' : Nat} {vs : List Value} {qs : List Pat} (h : PartsIn pn l d vs qs) (hd : d ≤ d') (hs : ∀ p ∈ l, p ∈ l') : PartsIn pn l' d' vs qs := by
  induction h with
  | nil => exact .nil
  | cons h1 h2 h3 h4 _ ih => exact .cons (hs _ h1) (hs _ h2) (Nat.le_trans h3 hd) h4 ih
theorem PartsIn.append {pn l : List (Addr × Obj)} {d : Nat} {vs ws : List Value} {qs rs : List Pat} (h : PartsIn pn l d vs qs) (h2 : PartsIn pn l d ws rs) : PartsIn pn l d (vs ++ ws) (qs ++ rs) := by
  induction h with
  | nil => exact h2
  | cons h1 h2 h3 h4 _ ih => exact .cons h1 h2 h3 h4 ih
theorem PartsIn.length {pn l : List (Addr × Obj)} {d : Nat} {vs : List Value} {qs : List Pat} (h : PartsIn pn l d vs qs) : vs.length = qs.length := by
  induction h with
  | nil => rfl
  | cons _ _ _ _ _ ih => simp [ih]
def Pat.op : Pat → Str
  | .va => Str.ofString "?a"
  | .vb => Str.ofString "?b"
  | .vc => Str.ofString "?c"
  | .zero => Str.ofString "zero"
  | .suc _ => Str.ofString "succ"
  | .plus _ _ => Str.ofString "plus"
  | .times _ _ => Str.ofString "times"
def Pat.kids : Pat → List Pat
  | .suc p => [p]
  | .plus p q => [p, q]
  | .times p q => [p, q]
  | _ => []
theorem Pat.subs_eq (p : Pat) : p.subs = p :: p.kids.flatMap Pat.subs := by cases p <;> simp [Pat.subs, Pat.kids]
theorem Pat.kid_depth {p q : Pat} (h : q ∈ p.kids) : q.depth + 1 ≤ p.depth := by
  cases p <;> simp only [Pat.kids, List.mem_cons, List.not_mem_nil, or_false] at h
  · subst h; exact Nat.le_refl _
  · rcases h with rfl | rfl <;> simp only [Pat.depth] <;> first | exact Nat.succ_le_succ (Nat.le_max_left _ _) | exact Nat.succ_le_succ (Nat.le_max_right _ _)
  · rcases h with rfl | rfl <;> simp only [Pat.depth] <;> first | exact Nat.succ_le_succ (Nat.le_max_left _ _) | exact Nat.succ_le_succ (Nat.le_max_right _ _)
theorem r3 {un x y z : Nat} (h2 : z ≤ y) (h : y + 1 ≤ x) (hu : un + 20 * x < 3900) : z ≤ 1000 :=
  Nat.le_trans h2 (Nat.le_trans (Nat.le_of_succ_le h) (Nat.le_trans (Nat.le_of_lt (Nat.lt_of_mul_lt_mul_left (a := 20) (show 20 * x < 20 * 195 from Nat.lt_of_le_of_lt (Nat.le_add_left _ un) hu))) (by decide)))
theorem Pat.kids_len (p : Pat) : p.kids.length ≤ 2 := by cases p <;> simp [Pat.kids]
def PatAt (w : World) (l : List (Addr × Obj)) (a : Addr) (its : Array Value) : Prop :=
  (∃ e, (a, tupObj its e) ∈ l) ∨ ∃ o, (hd.heap_1 w.params).lookup a = some o ∧ o.cls = .type "tuple" ∧ ∃ n, o.data = .seq its n
theorem PatAt.tup {w : World} {l news : List (Addr × Obj)} {a L : Addr} {its : Array Value} {h₀ h : Heap} {m : Str → Option Value} (H : PatAt w l a its) (X : (hd.heap_1 w.params).In h₀) (F : Fr h₀ L h m) (N : News h₀ L h news) (hs : ∀ p ∈ l, p ∈ news) : IsTup h a its := by
  rcases H with ⟨e, hm⟩ | ⟨o, ho, hc, n, hd⟩
  · exact ⟨_, (N _ (hs _ hm)).1, rfl, _, rfl⟩
  · exact ⟨o, F.keep _ _ (X _ _ ho), hc, n, hd⟩
inductive PatsIn (l : List (Addr × Obj)) : List Value → List Pat → Prop where
  | nil : PatsIn l [] []
  | cons {v : Value} {p : Pat} {vs : List Value} {ps : List Pat} : PatIn l v p → PatsIn l vs ps → PatsIn l (v :: vs) (p :: ps)
theorem PatsIn.length {l : List (Addr × Obj)} {vs : List Value} {ps : List Pat} (h : PatsIn l vs ps) : vs.length = ps.length := by
  induction h with
  | nil => rfl
  | cons _ _ ih => simp [ih]
theorem PatIn.open {w : World} {l : List (Addr × Obj)} {v : Value} {p : Pat} (h : PatIn l v p) : ∃ a tk ks, v = .ref a ∧ PatAt w l a (Value.str p.op tk :: ks).toArray ∧ PatsIn l ks p.kids := by
  cases h with
  | va => exact ⟨_, _, [], rfl, .inr ⟨_, rfl, rfl, _, rfl⟩, .nil⟩
  | vb => exact ⟨_, _, [], rfl, .inr ⟨_, rfl, rfl, _, rfl⟩, .nil⟩
  | vc => exact ⟨_, _, [], rfl, .inr ⟨_, rfl, rfl, _, rfl⟩, .nil⟩
  | zero hm => exact ⟨_, _, [], rfl, .inl ⟨_, hm⟩, .nil⟩
  | suc hm h1 => exact ⟨_, _, [_], rfl, .inl ⟨_, hm⟩, .cons h1 .nil⟩
  | plus hm h1 h2 => exact ⟨_, _, [_, _], rfl, .inl ⟨_, hm⟩, .cons h1 (.cons h2 .nil)⟩
  | times hm h1 h2 => exact ⟨_, _, [_, _], rfl, .inl ⟨_, hm⟩, .cons h1 (.cons h2 .nil)⟩
def PartsSpec (w : World) (p : Pat) : Prop :=
  ∀ {mean : ExcName → Option Value} {mg mb : Str → Option Value}
    {dp un : Nat} {gd : Option (List Code)} {cn : Str} {cs : Scope} {a : Addr} {ccd : Value} {cl : List (Str × Addr)} {outer : List Env} {A₀ : Around} {base h₀ : Heap} {L : Addr} {m : Str → Option Value} {news : List (Addr × Obj)} {s : Shared}
    {Q E : Value → Shared → Prop} {v : Value} {pn : List (Addr × Obj)}
    (_ : Below A₀ base outer h₀) (_ : Fr h₀ L s.heap m) (_ : (hd.heap_1 w.params).In h₀) (_ : News h₀ L s.heap news)
    (_ : Top view LO mean mg mb h₀) (_ : cs.kind = .function) (_ : PatIn pn v p) (_ : ∀ q ∈ pn, q ∈ news) (_ : p.subs.length ≤ 1000) (_ : dp + 5 * p.depth < 780) (_ : un + 20 * p.depth < 3900)
    (_ : ∀ D vs n tl h' tk', Fr h₀ L h' m → News h₀ L h' ((D, listOf vs.toArray n) :: (news ++ tl)) → (∀ q ∈ news, ∀ p ∈ (D, listOf vs.toArray n) :: tl, q.1 < p.1) → PartsIn pn tl p.depth vs p.subs → Q (.ref D) { s with heap := h', toks := tk' }),
    wpAny (model PySem.Challenge.rw_pq0002_01.row.prog w) (ktrTop dp un gd cn cs L a ccd cl outer) (call (.ref 91) [v]) Q E s
def Stop (P : Prop) : Prop := P
theorem Stop.use {P : Prop} (h : Stop P) : P := h
section
variable {prog : Program} {w : World} {A : Around} {E : Value → Shared → Prop} {s : Shared} {h₀ : Heap} {L : Addr} {m : Str → Option Value} {env : Env}
def EndP (h₀ : Heap) (L : Addr) (m : Str → Option Value) (s₁ : Shared) (led base : List (Addr × Obj)) (v : Value) (d : Nat) (y : Value) (s₂ : Shared) : Prop :=
  ∃ h' tk T P its e1 e2, s₂ = { s₁ with heap := h', toks := tk } ∧ y = .ref T ∧ Fr h₀ L h' m ∧ News h₀ L h' ((T, tupObj #[.ref P, v] e1) :: (P, tupObj its e2) :: (led ++ base)) ∧ its.size ≤ d ∧ (∀ p ∈ led ++ base, p.1 < T) ∧ (∀ p ∈ led ++ base, p.1 < P)
theorem EndP.intro {s₁ : Shared} {led base all : List (Addr × Obj)} {v : Value} {d : Nat} {h' : Heap} {tk : Nat} {T P : Addr} {its : Array Value} {e1 e2 : Nat} (F : Fr h₀ L h' m) (N : News h₀ L h' all) (hT : (T, tupObj #[.ref P, v] e1) ∈ all) (hP : (P, tupObj its e2) ∈ all) (hs : ∀ p ∈ led ++ base, p ∈ all) (hd : its.size ≤ d) {allT allP : List (Addr × Obj)} (lT : ∀ p ∈ allT, p.1 < T) (sT : ∀ p ∈ led ++ base, p ∈ allT) (lP : ∀ p ∈ allP, p.1 < P) (sP : ∀ p ∈ led ++ base, p ∈ allP) :
    EndP h₀ L m s₁ led base v d (.ref T) { s₁ with heap := h', toks := tk } := ⟨h', tk, T, P, its, e1, e2, rfl, rfl, F, fun p hp => N p (by
      rcases List.mem_cons.mp hp with rfl | hp
      · exact hT
      rcases List.mem_cons.mp hp with rfl | hp
      · exact hP
      · exact hs p hp), hd, fun p hp => lT p (sT p hp), fun p hp => lP p (sP p hp)⟩
theorem PartsIn.snoc {pn l : List (Addr × Obj)} {d : Nat} {vs : List Value} {qs : List Pat} {T P : Addr} {its : Array Value} {e1 e2 : Nat} {v : Value} {q : Pat} (h : PartsIn pn l d vs qs) (hT : (T, tupObj #[.ref P, v] e1) ∈ l) (hP : (P, tupObj its e2) ∈ l) (hd : its.size ≤ d) (hv : PatIn pn v q) : PartsIn pn l d (vs ++ [.ref T]) (qs ++ [q]) := h.append (.cons hT hP hd hv .nil)
theorem PartsIn.at {pn l : List (Addr × Obj)} {d : Nat} {vs : List Value} {qs : List Pat} (h : PartsIn pn l d vs qs) : ∀ {i : Nat} {v : Value}, vs[i]? = some v → ∃ a pth e e' its u q, v = .ref a ∧ qs[i]? = some q ∧ (a, tupObj #[.ref pth, u] e) ∈ l ∧ (pth, tupObj its e') ∈ l ∧ its.size ≤ d ∧ PatIn pn u q := by
  induction h with
  | nil => intro i v hv; simp at hv
  | cons h1 h2 h3 h4 _ ih =>
    intro i v hv
    cases i with
    | zero => simp only [List.getElem?_cons_zero, Option.some.injEq] at hv; subst hv; exact ⟨_, _, _, _, _, _, _, rfl, rfl, h1, h2, h3, h4⟩
    | succ i => simp only [List.getElem?_cons_succ] at hv; obtain ⟨a, pth, e, e', its, u, q, r⟩ := ih hv; exact ⟨a, pth, e, e', its, u, q, r.1, by simpa using r.2.1, r.2.2⟩
end
theorem restP_parts {prog : Program} {w : World} {A : Around} {h₀ : Heap} {L : Addr} {m : Str → Option Value} {env : Env} {elt : PySem.Expr} {x x₂ : Str} {scope : Scope} {cl : List (Str × Addr)} {s : Shared} {Fin : List Value → List (Addr × Obj) → Prop}
    {ax : Addr} {vs : List Value} {qs : List Pat} {pn tlk base : List (Addr × Obj)} {dk n : Nat} (hP : PartsIn pn tlk dk vs qs) (htl : ∀ p ∈ tlk, p ∈ base) (hax : (ax, listOf vs.toArray n) ∈ base)
    (step : ∀ pth v its e' ys tl2 I oI C oC D m₂ h tk (E' : Value → Shared → Prop), its.size ≤ dk → (pth, tupObj its e') ∈ tlk → LCg.NsObj oC m₂ → m₂ x = some (.ref pth) → m₂ x₂ = some v → Fr h₀ L h m → News h₀ L h ((I, oI) :: (C, oC) :: (D, LCg.lst ys) :: (base ++ tl2)) → LCg.Off3 I C D (base ++ tl2) → ((@Ne Nat I C) ∧ (@Ne Nat I D) ∧ (@Ne Nat C D)) →
      wpAny (model prog w) A (eval elt (compEnvC scope cl C env)) (EndP h₀ L m { s with heap := h, toks := tk } [(I, oI), (C, oC), (D, LCg.lst ys)] (base ++ tl2) v (dk + 1)) E' { s with heap := h, toks := tk })
    (fin : ∀ ys tl2, (∀ q ∈ base, ∀ p ∈ tl2, q.1 < p.1) → PartsIn pn tl2 (dk + 1) ys qs → Fin ys (base ++ tl2)) : LCp.CompRestP prog w A h₀ L m env elt x x₂ scope cl s (LCg.SrcAt h₀ ax vs.toArray) (fun i v => vs.toArray[i]? = some v) Fin vs.toArray.size 0 [] base := by
  have main : ∀ k i ys tl2, i + k = vs.length → (∀ q ∈ base, ∀ p ∈ tl2, q.1 < p.1) → PartsIn pn tl2 (dk + 1) ys (qs.take i) → LCp.CompRestP prog w A h₀ L m env elt x x₂ scope cl s (LCg.SrcAt h₀ ax vs.toArray) (fun i v => vs.toArray[i]? = some v) Fin k i ys (base ++ tl2) := by
    intro k
    induction k with
    | zero =>
      intro i ys tl2 hi hlt hp
      have hq : qs.take i = qs := List.take_of_length_le (by rw [← hP.length]; exact Nat.le_of_eq hi.symm)
      rw [hq] at hp
      exact LCp.CompRestP.zero (fin ys tl2 hlt hp)
    | succ k ih =>
      intro i ys tl2 hi hlt hp
      refine LCp.CompRestP.succ fun v hv => ?_
      obtain ⟨a, pth, e, e', its, u, q, rfl, hq, h1, h2, h3, h4⟩ := hP.at (i := i) (v := v) (by simpa using hv)
      refine ⟨a, _, .ref pth, u, e, rfl, List.mem_append_left _ (htl _ h1), rfl, rfl, ?_⟩
      intro I oI C oC D m₂ h tk E' hC hx hy F N off ne
      refine wpAny_mono (step pth u its e' ys tl2 I oI C oC D m₂ h tk E' h3 h2 hC hx hy F N off ne) (fun y s₂ h₂ => ?_) fun _ _ e => e
      obtain ⟨h', tk', T, P, its', e1, e2, rfl, rfl, F', N', hd, lT, lP⟩ := h₂
      have offM := off.mem
      refine LCg.CompEnd.intro F' N' (base ++ ((T, tupObj #[.ref P, u] e1) :: (P, tupObj its' e2) :: tl2)) (fun p hp => ?_) (LCg.Off3.of fun p hp => ?_) (.inr ⟨_, List.mem_append_left _ hax, rfl, _, rfl⟩) ?_
      · simp only [List.mem_cons, List.mem_append, List.not_mem_nil, or_false] at hp ⊢
        rcases hp with h | h | h | h | h | h | h <;> simp [h]
      · have inI : (I, oI) ∈ [(I, oI), (C, oC), (D, LCg.lst ys)] ++ (base ++ tl2) := by simp
        have inC : (C, oC) ∈ [(I, oI), (C, oC), (D, LCg.lst ys)] ++ (base ++ tl2) := by simp
        have inD : (D, LCg.lst ys) ∈ [(I, oI), (C, oC), (D, LCg.lst ys)] ++ (base ++ tl2) := by simp
        simp only [List.mem_append, List.mem_cons] at hp
        rcases hp with hp | rfl | rfl | hp
        · exact offM p (List.mem_append_left _ hp)
        · exact ⟨Nat.ne_of_gt (lT _ inI), Nat.ne_of_gt (lT _ inC), Nat.ne_of_gt (lT _ inD)⟩
        · exact ⟨Nat.ne_of_gt (lP _ inI), Nat.ne_of_gt (lP _ inC), Nat.ne_of_gt (lP _ inD)⟩
        · exact offM p (List.mem_append_right _ hp)
      · refine ih (i + 1) _ _ ((Nat.succ_add_eq_add_succ i k).trans hi) (fun b hb p hp => ?_) ?_
        · have inb : b ∈ [(I, oI), (C, oC), (D, LCg.lst ys)] ++ (base ++ tl2) := List.mem_append_right _ (List.mem_append_left _ hb)
          rcases List.mem_cons.mp hp with rfl | hp
          · exact lT b inb
          rcases List.mem_cons.mp hp with rfl | hp
          · exact lP b inb
          · exact hlt b hb p hp
        · have hlt' : i < qs.length := by rw [← hP.length, ← hi]; exact Nat.lt_add_of_pos_right (Nat.succ_pos k)
          have et : qs.take (i + 1) = qs.take i ++ [q] := by rw [List.take_add_one, hq]; rfl
          rw [et]
          exact (hp.mono (Nat.le_refl _) fun p hp => .tail _ (.tail _ hp)).snoc (.head _) (.tail _ (.head _)) hd h4
  have := main vs.toArray.size 0 [] [] (by simp) (fun _ _ _ h => nomatch h) (by simpa using PartsIn.nil)
  rw [List.append_nil] at this
  exact this
theorem add_path {prog : Program} {w : World} {A : Around} {E : Value → Shared → Prop} {s : Shared} {h₀ : Heap} {L : Addr} {m : Str → Option Value} {a b : Addr} {x : Value} {its : Array Value} {n e : Nat} {rest : List (Addr × Obj)} {Q : Value → Shared → Prop}
    (F : Fr h₀ L s.heap m) (N : News h₀ L s.heap ((a, tupObj #[x] n) :: rest)) (lt : ∀ p ∈ rest, p.1 < a) (hb : (b, tupObj its e) ∈ rest) (hz : its.size ≤ 1000)
    (h : ∀ D h' its' e', its'.size ≤ its.size + 1 → Fr h₀ L h' m → News h₀ L h' ((D, tupObj its' e') :: rest) → (∀ p ∈ rest, p.1 < D) → Q (.ref D) { s with heap := h' }) : wpAny (model prog w) A (binaryOp .Add (.ref a) (.ref b)) Q E s := by
  have na := N _ (.head _)
  have nb := N _ (.tail _ hb)
  refine add_tuples (vs := [x]) (ws := its.toList) F N ⟨_, na.1, rfl, _, rfl⟩ ⟨_, nb.1, rfl, e, by rw [Array.toArray_toList]⟩ (fun q => nomatch q) (fun _ _ => h a s.heap #[x] n (by simp) F N lt) (fun _ _ h' F' N' => h s.heap.objs.size h' ([x] ++ its.toList).toArray 0 ?_ F' (fun (p : Addr × Obj) hp => ?_) (fun p hp => Heap.lt_size (N p (.tail _ hp)).1)) (by rw [sizeLine_eq]; simp; omega)
  · simp
  · rcases List.mem_cons.mp hp with rfl | hp
    · exact N' _ (.head _)
    · exact N' _ (.tail _ (.tail _ hp))
theorem upd_mid {D : Addr} {o o' : Obj} : ∀ {own rest : List (Addr × Obj)}, (∀ p ∈ own, p.1 ≠ D) → (∀ p ∈ rest, p.1 ≠ D) → Upd D o o' (own ++ (D, o) :: rest) (own ++ (D, o') :: rest)
  | [], _, _, h2 => Upd.head h2
  | p :: r, rest, h1, h2 => Upd.tail (h1 p (.head _)) (upd_mid (fun q hq => h1 q (.tail _ hq)) h2)
section
variable {prog : Program} {w : World} {A : Around} {E : Value → Shared → Prop} {s : Shared} {h₀ : Heap} {L : Addr} {m : Str → Option Value} {news : List (Addr × Obj)}
theorem slice_any {value slice : PySem.Expr} {t : Addr} {items : Array Value} {zs : List Value} {u : Tok} {Q : Value → Shared → Prop} (F : Fr h₀ L s.heap m) (N : News h₀ L s.heap news) (ht : IsTup s.heap t items) (h1 : 1 ≤ items.size) (e : items.toList.drop 1 = zs)
    (h : ∀ D h', Fr h₀ L h' m → News h₀ L h' ((D, tupObj zs.toArray 0) :: news) → (∀ p ∈ news, p.1 < D) → Q (.ref D) { s with heap := h' })
    (hs : subscripted slice false (.ref t) (.ref s.heap.objs.size) = operate [.ref s.heap.objs.size, .ref t] (getItem (.ref t) (.ref s.heap.objs.size))) (hg : ∀ r, letTemporaryGo value (.ref t) r = pure ()) (hz : items.size ≤ sizeLine) :
    wpAny (model prog w) A (subscriptTail value slice (.ref t) (.ref s.heap.objs.size)) Q E { s with heap := s.heap.push { cls := .type "slice", data := .fields #[.int 1 u, .none, .none] } } := by
  subst e
  exact slice_tuple_from (a := 1) F N ht (Nat.le_refl _) h1 (fun h' F' N' => h _ h' F' N' fun p hp => Nat.lt_succ_of_lt (Heap.lt_size (N p hp).1)) hs hg hz
theorem ext_any {D b : Addr} {fl ys : List Value} {n n2 : Nat} {g : Obj → List (Addr × Obj)} {Q : Value → Shared → Prop} (F : Fr h₀ L s.heap m) (N : News h₀ L s.heap news) (hb : (b, listOf ys.toArray n2) ∈ news)
    (U : UpdF D (listOf fl.toArray n) news g) (hz : fl.length + ys.length ≤ 1000)
    (h : ∀ h' n', Fr h₀ L h' m → News h₀ L h' (g (listOf (fl ++ ys).toArray n')) → Q .none { s with heap := h' }) : wpAny (model prog w) A (call (.builtin "list.extend") [.ref D, .ref b]) Q E s := by
  obtain ⟨own, rest, rfl, hg, h1, h2⟩ := U.split
  have hmem := N (D, listOf fl.toArray n) (List.mem_append_right _ (.head _))
  have hlong : ¬(!fl.toArray.isEmpty && Builtin.List.listTooLong (fl.toArray.size + ys.toArray.size)) = true := by
    have : Builtin.List.listTooLong (fl.toArray.size + ys.toArray.size) = false := by
      rw [List.size_toArray, List.size_toArray]
      have h3 : ∀ k, k ≤ 1000 → Builtin.List.listTooLong k = false := fun k hk => by
        simp only [Builtin.List.listTooLong, decide_eq_false_iff_not, sizeLine_eq]
        exact Nat.not_lt.mpr (o1 hk rfl)
      exact h3 _ hz
    rw [this, Bool.and_false]
    exact Bool.false_ne_true
  have hz1 : fl.toArray.size ≤ sizeLine := by rw [sizeLine_eq, List.size_toArray]; omega
  have hz2 : fl.toArray.size + ys.toArray.size ≤ sizeLine + 1 := by rw [sizeLine_eq, List.size_toArray, List.size_toArray]; omega
  by_cases e : ys = []
  · subst e
    have U2 : Upd D (listOf fl.toArray n) (listOf fl.toArray n) (own ++ (D, listOf fl.toArray n) :: rest) (own ++ (D, listOf fl.toArray n) :: rest) := upd_mid h1 h2
    refine kxn_extend F N hb rfl U2 hlong (by simpa using hz1) hz2 fun h' F' N' => h h' n F' ?_
    rw [hg, List.append_nil]
    exact N'
  · have U2 : Upd D (listOf fl.toArray n) (listOf (fl ++ ys).toArray (n + 1)) (own ++ (D, listOf fl.toArray n) :: rest) (own ++ (D, listOf (fl ++ ys).toArray (n + 1)) :: rest) := upd_mid h1 h2
    refine kl_extend F N hb rfl (by simp [e]) U2 hlong (by simpa using hz1) hz2 fun h' F' N' => h h' (n + 1) F' ?_
    rw [hg]
    exact N'
end
section
variable {prog : Program} {w : World} {A : Around} {E : Value → Shared → Prop} {s : Shared} {env : Env} {h₀ : Heap} {target : PySem.Expr} {body : List Stmt} {Q : Flow → Shared → Prop}
theorem own_two {e i : Addr} : ∀ {own : List (Addr × Obj)}, own.map (·.1) = [e, i] → ∃ oa ob, own = [(e, oa), (i, ob)]
  | [], h => nomatch h
  | [_], h => by simp at h
  | [(a, oa), (b, ob)], h => by
    simp only [List.map_cons, List.map_nil, List.cons.injEq, and_true] at h
    obtain ⟨rfl, rfl⟩ := h
    exact ⟨oa, ob, rfl⟩
  | _ :: _ :: _ :: _, h => by simp at h
theorem TurnsOf.nil {k : Nat} {ws : List Addr} {src : Addr × Obj} {m : Str → Option Value} {news : List (Addr × Obj)} (h : ∀ h tk, Fr h₀ env.locals h m → News h₀ env.locals h news → Q .next { s with heap := h, toks := tk }) : TurnsOf prog w A E h₀ env target body Q s ws src (enumItems k []) m news := h
theorem TurnsOf.enum {k : Nat} {x : Value} {r : List Value} {e i : Addr} {src : Addr × Obj} {m : Str → Option Value} {news : List (Addr × Obj)}
    (h : ∀ T u h tk oe oi, IsTup h T #[.int (k : Int) u, x] → Fr h₀ env.locals h m → News h₀ env.locals h ((e, oe) :: (i, oi) :: news) → LCg.Off3 e i i news →
      wpAny (model prog w) A (assign target env (.ref T)) (fun _ s₂ => wpAny (model prog w) A (execs body env) (TurnEnd h₀ env.locals { s with heap := h, toks := tk } [(e, oe), (i, oi)] [e, i] src (fun m' n' => TurnsOf prog w A E h₀ env target body Q s [e, i] src (enumItems (k + 1) r) m' n') Q) E s₂) E { s with heap := h, toks := tk }) :
    TurnsOf prog w A E h₀ env target body Q s [e, i] src (enumItems k (x :: r)) m news := by
  intro v h' tk own hv hown F N off
  obtain ⟨T, u, rfl, hT⟩ := hv
  obtain ⟨oa, ob, rfl⟩ := own_two hown
  exact h T u h' tk oa ob hT F N (LCg.Off3.of fun p hp => by
    have := off p hp
    simp only [List.mem_cons, List.not_mem_nil, or_false, not_or] at this
    exact ⟨this.1, this.2, this.2⟩)
theorem TurnEnd.intro2 {L : Addr} {s₁ : Shared} {e i : Addr} {oe oi : Obj} {src : Addr × Obj} {rest : (Str → Option Value) → List (Addr × Obj) → Prop} {h' : Heap} {tk : Nat} {m' : Str → Option Value} {all : List (Addr × Obj)} (news' : List (Addr × Obj)) (F : Fr h₀ L h' m') (N : News h₀ L h' all) (hs : ∀ p ∈ (e, oe) :: (i, oi) :: news', p ∈ all) (off : ∀ p ∈ news', p.1 ≠ e ∧ p.1 ≠ i) (hsrc : src ∈ news') (r : rest m' news') :
    TurnEnd h₀ L s₁ [(e, oe), (i, oi)] [e, i] src rest Q .next { s₁ with heap := h', toks := tk } := ⟨h', tk, m', news', rfl, F, fun p hp => N p (hs p hp), fun p hp hw => by
      have := off p hp
      simp only [List.mem_cons, List.not_mem_nil, or_false] at hw
      rcases hw with hw | hw
      · exact this.1 hw
      · exact this.2 hw, hsrc, r⟩
abbrev kidMap (ov : Option Value) (m0 : Str → Option Value) : Str → Option Value := fun y => if y = Str.ofString "kid" then ov else m0 y
def TurnP (h₀ : Heap) (L : Addr) (m0 : Str → Option Value) (s : Shared) (e i S l D1 D0 c : Addr) (oe oi oS oD1 oD0 : Obj) (news tl : List (Addr × Obj)) (pn : List (Addr × Obj)) (d : Nat) (rs : List Pat) (f : Flow) (s₂ : Shared) : Prop :=
  f = .next ∧ ∃ h' tk' ov fl nl oc tn, s₂ = { s with heap := h', toks := tk' } ∧ Fr h₀ L h' (kidMap ov m0) ∧ News h₀ L h' ((e, oe) :: (i, oi) :: (S, oS) :: (l, listOf fl.toArray nl) :: (D1, oD1) :: (D0, oD0) :: (c, oc) :: (news ++ (tl ++ tn))) ∧ (∃ v, oc.data = .cell v) ∧
    (∀ p ∈ tn, S < p.1 ∧ e < p.1 ∧ i < p.1) ∧ PartsIn pn ((D1, oD1) :: (D0, oD0) :: (tl ++ tn)) d fl rs
theorem parts_loop {e i S l D1 D0 c : Addr} {oS oD1 oD0 : Obj} {m0 : Str → Option Value} {news pn : List (Addr × Obj)} {d : Nat} {al : List Pat} {PP : Pat → Prop}
    (hcS : @LT.lt Nat _ c S) (hlS : @LT.lt Nat _ l S) (hcn : ∀ p ∈ news, p.1 ≠ c) (hln : ∀ p ∈ news, p.1 ≠ l)
    (turn : ∀ k x q r rs ov fl nl oc tl T u h tk oe oi, PatIn pn x q → PP q → rs ++ q.subs ++ r = al → PartsIn pn ((D1, oD1) :: (D0, oD0) :: tl) d fl rs → (∀ p ∈ tl, S < p.1) → (∀ p ∈ news ++ tl, p.1 ≠ c) → (∀ p ∈ news ++ tl, p.1 ≠ l) → (∃ v, oc.data = .cell v) →
      IsTup h T #[.int ((k : Nat) : Int) u, x] → Fr h₀ env.locals h (kidMap ov m0) → News h₀ env.locals h ((e, oe) :: (i, oi) :: (S, oS) :: (l, listOf fl.toArray nl) :: (D1, oD1) :: (D0, oD0) :: (c, oc) :: (news ++ tl)) →
      (∀ p ∈ (S, oS) :: (l, listOf fl.toArray nl) :: (D1, oD1) :: (D0, oD0) :: (c, oc) :: (news ++ tl), p.1 ≠ e ∧ p.1 ≠ i ∧ p.1 ≠ i) →
      wpAny (model prog w) A (assign target env (.ref T)) (fun _ s₂ => wpAny (model prog w) A (execs body env) (TurnP h₀ env.locals m0 { s with heap := h, toks := tk } e i S l D1 D0 c oe oi oS oD1 oD0 news tl pn d (rs ++ q.subs)) E s₂) E { s with heap := h, toks := tk })
    (fin : ∀ ov fl nl oc tl h tk, Fr h₀ env.locals h (kidMap ov m0) → News h₀ env.locals h ((S, oS) :: (l, listOf fl.toArray nl) :: (D1, oD1) :: (D0, oD0) :: (c, oc) :: (news ++ tl)) → PartsIn pn ((D1, oD1) :: (D0, oD0) :: tl) d fl al → (∀ p ∈ tl, S < p.1) → Q .next { s with heap := h, toks := tk }) :
    ∀ {ks : List Value} {qs : List Pat}, PatsIn pn ks qs → (∀ q ∈ qs, PP q) → ∀ k rs ov fl nl oc tl, rs ++ qs.flatMap Pat.subs = al → PartsIn pn ((D1, oD1) :: (D0, oD0) :: tl) d fl rs → (∀ p ∈ tl, S < p.1) → (∃ v, oc.data = .cell v) →
      TurnsOf prog w A E h₀ env target body Q s [e, i] (S, oS) (enumItems k ks) (kidMap ov m0) ((S, oS) :: (l, listOf fl.toArray nl) :: (D1, oD1) :: (D0, oD0) :: (c, oc) :: (news ++ tl)) := by
  intro ks qs H
  induction H with
  | nil =>
    intro hq k rs ov fl nl oc tl hal hP hS hc
    simp only [List.flatMap_nil, List.append_nil] at hal
    subst hal
    exact TurnsOf.nil fun h tk F N => fin ov fl nl oc tl h tk F N hP hS
  | @cons x q ks qs hx H ih =>
    intro hq k rs ov fl nl oc tl hal hP hS hc
    refine TurnsOf.enum fun T u h tk oe oi hT F N off => ?_
    have offM := off.mem
    rw [List.flatMap_cons, ← List.append_assoc] at hal
    refine wpAny_mono (turn k x q _ rs ov fl nl oc tl T u h tk oe oi hx (hq _ (.head _)) hal hP hS (fun p hp => (List.mem_append.mp hp).elim (hcn p) fun h => Nat.ne_of_gt (Nat.lt_trans hcS (hS p h))) (fun p hp => (List.mem_append.mp hp).elim (hln p) fun h => Nat.ne_of_gt (Nat.lt_trans hlS (hS p h))) hc hT F N offM) (fun _ s₂ h₂ => wpAny_mono h₂ (fun f s₃ h₃ => ?_) fun _ _ e => e) fun _ _ e => e
    obtain ⟨rfl, h', tk', ov', fl', nl', oc', tn, rfl, F', N', hc', hn, hP'⟩ := h₃
    refine TurnEnd.intro2 ((S, oS) :: (l, listOf fl'.toArray nl') :: (D1, oD1) :: (D0, oD0) :: (c, oc') :: (news ++ (tl ++ tn))) F' N' (fun p hp => hp) (fun p hp => ?_) (.head _) (ih (fun q h => hq q (.tail _ h)) (k + 1) _ ov' fl' nl' oc' (tl ++ tn) hal hP' (fun p hp => (List.mem_append.mp hp).elim (hS p) fun h => (hn p h).1) hc')
    simp only [List.mem_cons, List.mem_append] at hp
    rcases hp with rfl | rfl | rfl | rfl | rfl | hp | hp | hp
    · have := offM (S, oS) (.head _); exact ⟨this.1, this.2.1⟩
    · have := offM (l, listOf fl.toArray nl) (.tail _ (.head _)); exact ⟨this.1, this.2.1⟩
    · have := offM (D1, oD1) (.tail _ (.tail _ (.head _))); exact ⟨this.1, this.2.1⟩
    · have := offM (D0, oD0) (.tail _ (.tail _ (.tail _ (.head _)))); exact ⟨this.1, this.2.1⟩
    · have := offM (c, oc) (.tail _ (.tail _ (.tail _ (.tail _ (.head _))))); exact ⟨this.1, this.2.1⟩
    · have := offM p (.tail _ (.tail _ (.tail _ (.tail _ (.tail _ (List.mem_append_left _ hp)))))); exact ⟨this.1, this.2.1⟩
    · have := offM p (.tail _ (.tail _ (.tail _ (.tail _ (.tail _ (List.mem_append_right _ hp)))))); exact ⟨this.1, this.2.1⟩
    · have := hn p hp; exact ⟨Nat.ne_of_gt this.2.1, Nat.ne_of_gt this.2.2⟩
theorem parts_start {e i S l D1 D0 c : Addr} {oS oD1 oD0 oc : Obj} {m0 : Str → Option Value} {news pn : List (Addr × Obj)} {d nl : Nat} {al : List Pat} {PP : Pat → Prop} {ks : List Value} {qs : List Pat} {p : Pat} {x1 : Value}
    (hks : PatsIn pn ks qs) (hq : ∀ q ∈ qs, PP q) (hal : p :: qs.flatMap Pat.subs = al) (hP : PartsIn pn [(D1, oD1), (D0, oD0)] d [x1] [p]) (hc : ∃ v, oc.data = .cell v) (hcS : @LT.lt Nat _ c S) (hlS : @LT.lt Nat _ l S) (hcn : ∀ p ∈ news, p.1 ≠ c) (hln : ∀ p ∈ news, p.1 ≠ l)
    (turn : ∀ k x q r rs ov fl nl oc tl T u h tk oe oi, PatIn pn x q → PP q → rs ++ q.subs ++ r = al → PartsIn pn ((D1, oD1) :: (D0, oD0) :: tl) d fl rs → (∀ p ∈ tl, S < p.1) → (∀ p ∈ news ++ tl, p.1 ≠ c) → (∀ p ∈ news ++ tl, p.1 ≠ l) → (∃ v, oc.data = .cell v) →
      IsTup h T #[.int ((k : Nat) : Int) u, x] → Fr h₀ env.locals h (kidMap ov m0) → News h₀ env.locals h ((e, oe) :: (i, oi) :: (S, oS) :: (l, listOf fl.toArray nl) :: (D1, oD1) :: (D0, oD0) :: (c, oc) :: (news ++ tl)) →
      (∀ p ∈ (S, oS) :: (l, listOf fl.toArray nl) :: (D1, oD1) :: (D0, oD0) :: (c, oc) :: (news ++ tl), p.1 ≠ e ∧ p.1 ≠ i ∧ p.1 ≠ i) →
      wpAny (model prog w) A (assign target env (.ref T)) (fun _ s₂ => wpAny (model prog w) A (execs body env) (TurnP h₀ env.locals m0 { s with heap := h, toks := tk } e i S l D1 D0 c oe oi oS oD1 oD0 news tl pn d (rs ++ q.subs)) E s₂) E { s with heap := h, toks := tk })
    (fin : ∀ ov fl nl oc tl h tk, Fr h₀ env.locals h (kidMap ov m0) → News h₀ env.locals h ((S, oS) :: (l, listOf fl.toArray nl) :: (D1, oD1) :: (D0, oD0) :: (c, oc) :: (news ++ tl)) → PartsIn pn ((D1, oD1) :: (D0, oD0) :: tl) d fl al → (∀ p ∈ tl, S < p.1) → Q .next { s with heap := h, toks := tk }) :
    TurnsOf prog w A E h₀ env target body Q s [e, i] (S, oS) (enumItems 0 ks) m0 ((S, oS) :: (l, listOf [x1].toArray nl) :: (D1, oD1) :: (D0, oD0) :: (c, oc) :: news) := by
  have := parts_loop (l := l) (c := c) hcS hlS hcn hln turn fin hks hq 0 [p] (m0 (Str.ofString "kid")) [x1] nl oc [] hal hP (fun _ h => nomatch h) hc
  have e : kidMap (m0 (Str.ofString "kid")) m0 = m0 := by
    funext y
    by_cases hy : y = Str.ofString "kid"
    · subst hy; exact if_pos rfl
    · exact if_neg hy
  rw [e, List.append_nil] at this
  exact this
theorem TurnP.intro {L e i S l D1 D0 c : Addr} {oe oi oS oD1 oD0 oc : Obj} {m0 : Str → Option Value} {ov : Option Value} {m : Str → Option Value} {news tl tlk tl2 pn all : List (Addr × Obj)} {d : Nat} {rs rq : List Pat} {fl fl' ys : List Value} {nl : Nat} {h' : Heap} {tk' : Nat} {v : Option Value}
    (F : Fr h₀ L h' m) (hm : m = kidMap ov m0) (N : News h₀ L h' all) (hP2 : PartsIn pn tl2 d ys rq) (hP : PartsIn pn ((D1, oD1) :: (D0, oD0) :: tl) d fl rs) (hfl : fl' = fl ++ ys) (_ : (l, listOf fl'.toArray nl) ∈ all) (_ : (c, oc) ∈ all) (hc : oc.data = .cell v)
    (h1 : ∀ p ∈ tlk, S < p.1 ∧ e < p.1 ∧ i < p.1) (h2 : ∀ p ∈ tl2, S < p.1 ∧ e < p.1 ∧ i < p.1) (hs : ∀ p ∈ (e, oe) :: (i, oi) :: (S, oS) :: (l, listOf fl'.toArray nl) :: (D1, oD1) :: (D0, oD0) :: (c, oc) :: (news ++ (tl ++ (tlk ++ tl2))), p ∈ all) :
    TurnP h₀ L m0 s e i S l D1 D0 c oe oi oS oD1 oD0 news tl pn d (rs ++ rq) .next { s with heap := h', toks := tk' } := by
  subst hm hfl
  refine ⟨rfl, h', tk', ov, fl ++ ys, nl, oc, tlk ++ tl2, rfl, F, fun p hp => N p (hs p hp), ⟨v, hc⟩, fun p hp => (List.mem_append.mp hp).elim (h1 p) (h2 p), ?_⟩
  refine PartsIn.append (hP.mono (Nat.le_refl _) fun p hp => ?_) (hP2.mono (Nat.le_refl _) fun p hp => ?_)
  · simp only [List.mem_cons, List.mem_append] at hp ⊢
    rcases hp with h | h | h <;> simp [h]
  · simp [hp]
theorem three_of {l tl : List (Addr × Obj)} {e i S : Addr} {oe oi oS : Obj} (h : ∀ q ∈ l, ∀ p ∈ tl, q.1 < p.1) (hS : (S, oS) ∈ l) (he : (e, oe) ∈ l) (hi : (i, oi) ∈ l) : ∀ p ∈ tl, S < p.1 ∧ e < p.1 ∧ i < p.1 := fun p hp => ⟨h _ hS p hp, h _ he p hp, h _ hi p hp⟩
theorem three_of' {x : Addr × Obj} {l tl : List (Addr × Obj)} {e i S : Addr} {oe oi oS : Obj} (h : ∀ q ∈ l, ∀ p ∈ x :: tl, q.1 < p.1) (hS : (S, oS) ∈ l) (he : (e, oe) ∈ l) (hi : (i, oi) ∈ l) : ∀ p ∈ tl, S < p.1 ∧ e < p.1 ∧ i < p.1 := fun p hp => ⟨h _ hS p (.tail _ hp), h _ he p (.tail _ hp), h _ hi p (.tail _ hp)⟩
end
theorem cons_sub {x : Addr × Obj} {l all : List (Addr × Obj)} (hx : x ∈ all) (h : ∀ p ∈ l, p ∈ all) : ∀ p ∈ x :: l, p ∈ all := fun p hp => by
  rcases List.mem_cons.mp hp with rfl | hp
  · exact hx
  · exact h p hp
theorem app_sub {l r all : List (Addr × Obj)} (h : ∀ p ∈ l, p ∈ all) (h2 : ∀ p ∈ r, p ∈ all) : ∀ p ∈ l ++ r, p ∈ all := fun p hp => (List.mem_append.mp hp).elim (h p) (h2 p)
theorem w77a : True := by
  k_with "my subs" => (first | (refine app_sub ?_ ?_ <;> k_extra "my subs") | (refine cons_sub (by k_mem) ?_; k_extra "my subs") | exact List.forall_mem_nil _ | k_extra "my sub")
  trivial
def PathAt (l : List (Addr × Obj)) (b : Addr) (its : Array Value) (e : Nat) : Prop := (b, tupObj its e) ∈ l
theorem PathAt.use {l : List (Addr × Obj)} {b : Addr} {its : Array Value} {e : Nat} (h : PathAt l b its e) : (b, tupObj its e) ∈ l := h
theorem PathAt.mem {l all : List (Addr × Obj)} {b : Addr} {its : Array Value} {e : Nat} (h : PathAt l b its e) (hs : ∀ p ∈ l, p ∈ all) : (b, tupObj its e) ∈ all := hs _ h
theorem PathAt.of {l : List (Addr × Obj)} {b : Addr} {its : Array Value} {e : Nat} (h : (b, tupObj its e) ∈ l) : PathAt l b its e := h
def PartsFor (w : World) (p : Pat) : Prop := ∀ {q}, q ∈ p.kids → PartsSpec w q
theorem w77b : True := by
  k_with "newTuple" => ((k_here; k_dflt (refine' kup_newTuple ?FEJ ?NEJ ?_ ?zEJ; (case FEJ => k_asm); (case NEJ => k_asm); (case zEJ => kmk_size)); intro D' h' F' N' l1; have l1a := l1; (try k_lt l1); (try k_sweep)))
  trivial
theorem ne_of_lt_all' {x : Addr × Obj} {l tl : List (Addr × Obj)} {b : Addr} {o : Obj} (h : ∀ q ∈ l, ∀ p ∈ x :: tl, q.1 < p.1) (hm : (b, o) ∈ l) : ∀ p ∈ tl, p.1 ≠ b := fun p hp => Nat.ne_of_gt (h _ hm p (.tail _ hp))
theorem ne_of_lt_hd {x : Addr × Obj} {l tl : List (Addr × Obj)} {b : Addr} {o : Obj} (h : ∀ q ∈ l, ∀ p ∈ x :: tl, q.1 < p.1) (hm : (b, o) ∈ l) : @Ne Nat x.1 b := Nat.ne_of_gt (h _ hm x (.head _))
theorem off1_at {D b : Addr} {o : Obj} {l : List (Addr × Obj)} (h : LCg.Off1 D l) (hm : (b, o) ∈ l) : @Ne Nat D b := fun e => (off1_mem h _ hm) e.symm
theorem w77c : True := by
  k_with "my k_ne" => (first | exact off1_at (by assumption) (by k_mem) | exact ne_of_lt_hd (by assumption) (by k_mem))
  k_with "my k_all" => (first | exact ne_of_lt_all (by assumption) (by k_mem) | exact ne_of_lt_all' (by assumption) (by k_mem))
  k_with "my k_all" => ((tbn_letter; refine tbn_neAll (tbn_up (Nat.lt_succ_self _) ?_); first | tbn_find | exact allLt_of (by assumption)))
  k_with "my sub2" => ((intro p9 hp9; have hq9 := SubOf.use (by assumption) hp9; simp only [List.mem_cons, List.mem_append, hq9, true_or, or_true]; done))
  k_with "eval ListComp" => ((k_here; (with_reducible show wpAny _ _ (eval (Expr.ListComp _ [⟨Expr.Tuple [Expr.Name _ _, Expr.Name _ _] _ _, Expr.Call _ _ _ _, [], 0⟩] _ _) _) _ _ _); k_dflt (refine LCp.ListComp_P (F₀ := by k_asm) (by with_unfolding_all rfl) (by decide) (by rfl) (by decide) (by rfl) (by rfl) (by decide) ?_)))
  k_with "subscriptTail Name Slice ref ref" => ((k_here; (with_reducible show wpAny _ _ (subscriptTail _ (PySem.Expr.Slice (some _) none none _) (Value.ref _) (Value.ref _)) _ _ _); k_dflt (refine' slice_any ?FEP ?NEP ?TEP ?pEP ?eEP ?_ ?sEP ?tEP ?zEP; (case FEP => k_asm); (case NEP => k_asm); (case TEP => exact PatAt.tup (by assumption) (by k_asm) (by k_asm) (by k_asm) (by k_extra "my sub2")); (case pEP => (simp only [List.size_toArray, List.length_cons]; omega)); (case eEP => exact rfl); (case sEP => with_unfolding_all rfl); (case tEP => kmk_pure); (case zEP => (rw [sizeLine_eq]; simp only [List.size_toArray, List.length_cons]; omega))); intro D' h' F' N' l1; (try k_lt l1); (try k_sweep)))
  k_with "exec For Tuple Call cons nil" => ((k_here; (rename Fr _ _ _ _ => lF'EQ); (refine' For_turns lF'EQ ?_ ?hsEQ ?hEEQ; (case hsEQ => intro _; rfl); (case hEEQ => exact PassesOwn.leaving))))
  k_with "call type:enumerate" => ((k_here; (refine' enum_turns ?hER ?FER ?NER ?mER ?_; (case hER => exact rfl); (case FER => k_asm); (case NER => k_asm); (case mER => k_mem); k_whole); intro i' e' l1 l2; (try k_lt l1); (try k_lt2 l2)))
  k_with "TurnsOf" => ((k_here; refine Stop.use ?_))
  k_with "my call" => ((k_here; (with_reducible show wpAny _ _ (call (Value.ref 91) [_]) _ _ _); (with_reducible rename PartsFor _ _ => ih9ET); k_dflt (refine' ih9ET ?ktET ?k1ET ?k2ET ?k3ET ?k4ET ?k5ET ?kKET ?k6ET ?k7ET ?k8ET ?k13ET ?k14ET ?_; (case k1ET => k_asm); (case k2ET => k_asm); (case k3ET => k_asm); (case k4ET => k_asm); (case k5ET => k_asm); (case kKET => first | exact rfl | assumption); (case k6ET => assumption); (case ktET => assumption); (case k7ET => k_extra "my sub2"); (case k8ET => assumption); (case k13ET => ktr_room); (case k14ET => ktr_units); k_whole); intro D' vs' n' tl' h' tk' F' N' htl' hp'; have hvl' := hp'.length; (try dsimp only [List.cons_append, List.nil_append] at N'); (try simp only [List.append_assoc, List.cons_append, List.nil_append] at N'); (try k_sweep)))
  k_with "my nocall" => (first | (with_reducible show wpAny _ _ (call (Value.ref 91) _) _ _ _))
  k_with "SrcLP" => ((k_here; k_dflt (refine LCp.SrcLP.ledger (by rfl) (by k_asm) (by k_asm) (by k_mem) (by (rw [sizeLine_eq]; simp only [List.size_toArray]; omega)) ?_; intro g'; refine restP_parts (by assumption) (by k_extra "my sub") (by k_mem) ?_ ?_); (all_goals (try clear g')); (intro pth' v' its' e' ys' tl2' I' oI' C' oC' D' m' h' tk' E' hsz' hpm' hC' hx' hy' F' N' off' ne'; have hpa' := PathAt.of hpm'; clear hpm'; (try dsimp only [List.cons_append, List.nil_append] at N'); (try simp only [List.append_assoc, List.cons_append, List.nil_append] at N'); (try simp only [List.cons_append, List.append_assoc, List.nil_append])); rotate_left; (intro ys' tl2' hlt' hps'; have hyl' := hps'.length; intro D' h' tk' F' N' off'; (try dsimp only [List.cons_append, List.nil_append] at N'); (try simp only [List.append_assoc, List.cons_append, List.nil_append] at N')); rotate_left))
  trivial
theorem kid_again {v ov : Option Value} {m0 : Str → Option Value} : (fun y => if y = Str.ofString "kid" then v else kidMap ov m0 y) = kidMap v m0 := by
  funext y
  by_cases hy : y = Str.ofString "kid"
  · simp only [kidMap, if_pos hy]
  · simp only [kidMap, if_neg hy]
theorem w77d : True := by
  k_with "binaryOp Add ref ref" => ((k_here; k_dflt (refine' add_path ?FEW ?NEW ?lEW ?bEW ?zEW ?_; (case FEW => k_asm); (case NEW => k_asm); (case lEW => assumption); (case bEW => exact PathAt.mem (by assumption) (by k_extra "my sub")); (case zEW => omega)); intro D' h' its' e' hsz' F' N' l1a; (try k_sweep)))
  k_with "call builtin:list.extend" => ((k_here; k_dflt (refine' ext_any ?FEX ?NEX ?bEX ?UEX ?zEX ?_; (case FEX => k_asm); (case NEX => k_asm); (case bEX => k_mem); (case UEX => k_updF); (case zEX => omega)); intro h' n' F' N'; (try dsimp only at N'); (try k_sweep)))
  k_with "my omega" => (with_reducible exact r3 ‹_› ‹_› ‹_›)
  k_with "EndP" => ((k_here; k_dflt (refine EndP.intro (by assumption) (by assumption) (by k_mem) (by k_mem) (by k_extra "my subs") (by omega) (by assumption) (by k_extra "my subs") (by assumption) (by k_extra "my subs"))))
  k_with "TurnP" => ((k_here; k_dflt (refine TurnP.intro (by assumption) kid_again (by assumption) (PartsIn.mono (by assumption) (by assumption) (fun _ h => h)) (by assumption) rfl (by k_mem) (by k_mem) (by assumption) (three_of' (by assumption) (by k_mem) (by k_mem) (by k_mem)) (three_of (by assumption) (by k_mem) (by k_mem) (by k_mem)) (by k_extra "my sub"))))
  trivial
theorem parts_fin {Q : Value → Shared → Prop} {s : Shared} {h₀ h : Heap} {L L' S l D1 D0 : Addr} {oD1 oD0 : Obj} {m : Str → Option Value} {news pn tl all : List (Addr × Obj)} {d n : Nat} {fl : List Value} {qs : List Pat} {tk : Nat}
    (ret : ∀ D vs n tl h' tk', Fr h₀ L h' m → News h₀ L h' ((D, listOf vs.toArray n) :: (news ++ tl)) → (∀ q ∈ news, ∀ p ∈ (D, listOf vs.toArray n) :: tl, q.1 < p.1) → PartsIn pn tl d vs qs → Q (.ref D) { s with heap := h', toks := tk' })
    (F : Fr h₀ L h m) (N : News h₀ L h all) (hP : PartsIn pn ((D1, oD1) :: (D0, oD0) :: tl) d fl qs) (hS : ∀ p ∈ tl, S < p.1) (hn : ∀ p ∈ news, p.1 < L') (o0 : @LT.lt Nat _ L' D0) (o1 : @LT.lt Nat _ D0 D1) (o2 : @LT.lt Nat _ D1 l) (o3 : @LT.lt Nat _ l S)
    (hs : ∀ p ∈ (l, listOf fl.toArray n) :: (news ++ ((D1, oD1) :: (D0, oD0) :: tl)), p ∈ all) : Ret Q (.ref l) { s with heap := h, toks := tk } := by
  refine ret l fl n _ h tk F (fun p hp => N p (hs p hp)) (fun q hq p hp => ?_) hP
  have h1 : @LT.lt Nat _ q.1 L' := hn q hq
  simp only [List.mem_cons] at hp
  rcases hp with rfl | rfl | rfl | hp
  · exact Nat.lt_trans h1 (Nat.lt_trans o0 (Nat.lt_trans o1 o2))
  · exact Nat.lt_trans h1 (Nat.lt_trans o0 o1)
  · exact Nat.lt_trans h1 o0
  · exact Nat.lt_trans h1 (Nat.lt_trans o0 (Nat.lt_trans o1 (Nat.lt_trans o2 (Nat.lt_trans o3 (hS p hp)))))
theorem parts_node {w : World} {p : Pat} (IH : PartsFor w p) : PartsSpec w p := by
  intro mean mg mb dp un gd cn cs a ccd cl outer A₀ base h₀ L m news s Q E v pn B F X N T hk hin hpn hlen hd hu ret
  obtain ⟨at', tk, ks, rfl, hat, hks⟩ := hin.open (w := w)
  have hkl : ks.length ≤ 2 := hks.length ▸ p.kids_len
  have hpnS : SubOf pn news := hpn
  clear hpn
  refine ret_of (α := Unit) ?_
  refine wpAny_call ?_
  w_strict (k_dflt (k_extra "my enterC"))
  k_extra "my steps"
  refine parts_start (d := p.depth) (al := p.subs) (p := p) (PP := fun q => q ∈ p.kids) hks (fun _ h => h) p.subs_eq.symm (.cons (.head _) (.tail _ (.head _)) (Nat.zero_le _) hin .nil) ⟨_, by assumption⟩ (by k_extra "my ord") (by k_extra "my ord") (by k_all) (by k_all) ?turn ?fin
  case turn =>
    intro k x q r rs ov fl nl oc tl T' u h tk oe oi hx hqk hal hP hS hnc hnl hc hT F' N' offM
    obtain ⟨cv, hcv⟩ := hc
    obtain ⟨hnc1, hnc2⟩ := List.forall_mem_append.mp hnc
    obtain ⟨hnl1, hnl2⟩ := List.forall_mem_append.mp hnl
    have hfl := hP.length
    have hqd := Pat.kid_depth hqk
    have hqf : fl.length + q.subs.length ≤ 1000 := by have := congrArg List.length hal; simp only [List.length_append] at this; rw [hfl]; exact Nat.le_trans (Nat.le_trans (Nat.le_add_right _ _) (Nat.le_of_eq this)) (by assumption)
    have hql : q.subs.length ≤ 1000 := r0 hqf rfl
    k_extra "my steps"
  case fin =>
    intro ov fl nl oc tl h tk F' N' hP hS
    k_extra "my steps"
    (rename Fr h₀ L _ m => fX); (rename News h₀ L _ _ => nX)
    exact parts_fin ret fX nX hP hS (by assumption) (by k_extra "my ord") (by k_extra "my ord") (by k_extra "my ord") (by k_extra "my ord") (by k_extra "my subs")
theorem parts_upto {w : World} (n : Nat) : ∀ p : Pat, p.depth < n → PartsSpec w p := by
  induction n with
  | zero => exact fun p h => absurd h (Nat.not_lt_zero _)
  | succ n ih => exact fun p h => parts_node (fun {q} hq => ih q (Nat.lt_of_lt_of_le (Pat.kid_depth hq) (Nat.le_of_lt_succ h)))
theorem parts_all {w : World} (p : Pat) : PartsSpec w p := parts_upto (p.depth + 1) p (Nat.lt_succ_self _)
theorem w78 : True := by
  w_top off
  k_with_none
  k_with "my k_all" => (k_dflt (first | assumption | exact all_ne_sub9 (by assumption) (by k_extra "my sub") | exact all_ne_u0 (by assumption) (by k_extra "my sub") | exact all_ne_u1 (by assumption) (by k_extra "my sub") | exact all_ne_u2 (by assumption) (by k_extra "my sub") | exact all_ne_u3 (by assumption) (by k_extra "my sub") | exact all_ne_u4 (by assumption) (by k_extra "my sub") | (refine List.forall_mem_append.mpr ⟨?_, ?_⟩ <;> k_all)))
  k_with "my ktr_room" => (((try simp only [depth_under_make, depth_under_kw, depth_in1, depth_deeper, depth_caller]); (try dsimp only [ktrTop]); (try simp only [recursionLimit]); k_extra "my room"))
  k_with "my room" => (first | exact Nat.le_of_ble_eq_true rfl | exact rm0 hd rfl | exact rm1 hd rfl | exact rm5 hd rfl | exact rm6 hd rfl | exact rm4 hd rfl | exact rm2 hd rfl | exact rm3 hd rfl | exact rm7 hd rfl | exact rm8 (by assumption) rfl | omega)
  k_with "my units" => (first | exact Nat.le_of_ble_eq_true rfl | exact rm0 hu rfl | exact rm1 hu rfl | exact rm5 hu rfl | exact rm6 hu rfl | exact rm4 hu rfl | exact rm2 hu rfl | exact rm3 hu rfl | exact rm7 hu rfl | exact rm8 (by assumption) rfl | exact um1 hu rfl | exact um2 hu rfl | exact um3 hu rfl | exact um4 hu rfl | exact um5 hu rfl | (have hcL9 := cLine_is; omega))
  k_with "my dep" => (first | assumption | exact dm1 hdp | exact dm2 hdp | exact dm0 hdp | omega)
  k_with "my ktr_units" => (((try simp only [units_in1, units_deeper, Around.mark_units, units_caller]); (try dsimp only [ktrTop]); k_extra "my units"))
  k_with "my k_room" => (ktr_room)
  k_with "my k_units" => (ktr_units)
  k_with "my units_room" => (ktr_units)
  k_with "compareOp Eq ref ref" => ((k_here; (with_reducible show wpAny _ _ (compareOp CmpOp.Eq (Value.ref _) (Value.ref _)) _ _ _); first
      | refine' eq_zero_f (by assumption) (by assumption) (by k_extra "my sub") (by k_mem) (by first | rfl | exact mkOf_zero) (by omega) (by ktr_units) ?_
      | refine' eq_zero_t (by assumption) (by assumption) (by k_extra "my sub") (by k_mem) rfl (by omega) (by ktr_units) ?_))
  k_with "my k_ne" => (k_dflt (first | exact off_I (by assumption) (by k_mem) | exact off_C (by assumption) (by k_mem) | exact off_D (by assumption) (by k_mem) | assumption | exact ne_gt9 (by assumption) (by k_mem) | exact ne_lt9 (by assumption) (by k_mem) | exact ne_all9 (by assumption) (by k_mem) | exact ne_all9s (by assumption) (by k_mem) | exact ne_gt_u1 (by assumption) (by k_mem) | exact ne_lt_u1 (by assumption) (by k_mem) | exact ne_gt_u2 (by assumption) (by k_mem) | exact ne_lt_u2 (by assumption) (by k_mem) | exact ne_gt_u3 (by assumption) (by k_mem) | exact ne_lt_u3 (by assumption) (by k_mem) | exact ne_gt_u4 (by assumption) (by k_mem) | exact ne_lt_u4 (by assumption) (by k_mem)))
  k_with "my off" => (first | exact True.intro | (refine And.intro (off_at (by assumption) (by k_mem)) ?_; k_extra "my off") | (refine Off3.append ?_ ?_ <;> k_extra "my off") | (refine Off3.of_sub (by assumption) (fun p hp => ?_); simp only [List.mem_cons, List.mem_append, hp, true_or, or_true]; done) | (refine Off3.of_lt (by assumption) (by k_mem) (by k_mem) (by k_mem)))
  k_with "CompSrc" => ((k_here; k_dflt (refine LCg.CompSrc.range (by rfl) (by k_asm) (by k_asm) (by with_reducible assumption) (by first | decide | rfl) (by first | rfl | decide) (by first | size_fits | exact Nat.le_of_ble_eq_true rfl) ?_; intro g'; lcg_lit)))
  k_with "CompRest" => ((with_unfolding_all first
      | (refine CompRest_at (fun v9 h9 => (Option.some.inj h9).symm) ?_; intro I' oI' C' oC' D' m' h' tk' E' hC' hx' F' N' off' ne'; have offM := off'.mem; clear off')
      | (refine CompRest_ex (fun v9 h9 => h9) ?_; intro t9' I' oI' C' oC' D' m' h' tk' E' hC' hx' F' N' off' ne'; have offM := off'.mem; clear off')
      | (refine LCg.CompRest.succ ?_; intro v' I' oI' C' oC' D' m' h' tk' E' hv' hC' hx' F' N' off' ne'; have offM := off'.mem; (first | lcg_open hv' | (obtain ⟨t9', hv9'⟩ := hv'; subst hv9')); clear off')
      | refine LCg.CompRest.zero ?_))
  k_with "CompEnd" => ((k_here; (refine LCg.CompEnd.intro (by assumption) (by assumption) _ (fun p hp => hp) ?offAO ?srcAO ?_; (case offAO => k_extra "my off"); (case srcAO => first | lcg_src | ((try dsimp only); k_mem)))))
  k_with "my enter" => ((refine' code_def ?k1AP ?k2AP ?k3AP ?k4AP ?k5AP ?kAAP ?kFAP ?kKAP ?k6AP ?k7AP ?k8AP ?k9AP ?kBAP ?_ ?c2AP ?c3AP ?c4AP ?c5AP; (case kAAP => exact rfl); (case kFAP => exact rfl); (case kKAP => first | exact rfl | assumption); (case k1AP => k_asm); (case k2AP => k_asm); (case k3AP => k_asm); (case k4AP => k_asm); (case k5AP => k_asm); (case k6AP => k_is); (case k7AP => k_is); (case k8AP => ktr_room); (case k9AP => exact BindsTo.of_eq rfl); (case c5AP => decide); (case kBAP => exact locs rfl); (case c2AP => exact rfl); (case c3AP => exact rfl); (case c4AP => exact rfl); k_whole; intro g' L' h' FG' F' N' B' X' T'; (try dsimp only); (try k_fold)))
  k_with "my enterC" => ((refine' code_defC ?k1AQ ?k2AQ ?k3AQ ?k4AQ ?k5AQ ?kAAQ ?kFAQ ?kKAQ ?k6AQ ?k7AQ ?k8AQ ?k9AQ ?kBAQ ?kDAQ ?_ ?c2AQ ?c3AQ ?c4AQ; (case kAAQ => exact rfl); (case kFAQ => exact rfl); (case kKAQ => first | exact rfl | assumption); (case k1AQ => k_asm); (case k2AQ => k_asm); (case k3AQ => k_asm); (case k4AQ => k_asm); (case k5AQ => k_asm); (case k6AQ => k_is); (case k7AQ => k_is); (case k8AQ => ktr_room); (case k9AQ => exact BindsTo.of_eq rfl); (case kBAQ => exact rfl); (case kDAQ => decide +kernel); (case c2AQ => exact rfl); (case c3AQ => exact rfl); (case c4AQ => exact rfl); k_whole; intro g' L' h' tk' cells' FG' F'; (first | (refine cells_in1 ?_; intro o' d1' N') | (refine cells_in2 ?_; intro o' o2' d1' d2' N') | (refine cells_in3 ?_; intro o' o2' o3' d1' d2' d3' N') | (refine cells_in4 ?_; intro o' o2' o3' o4' d1' d2' d3' d4' N')); intro B' X' T' l1; (try k_lt l1); (try dsimp only); (try k_fold)))
  k_with "eval ListComp" => ((k_here; (with_reducible show wpAny _ _ (eval (Expr.ListComp _ [⟨Expr.Name _ _, Expr.Subscript _ (Expr.Slice (some _) _ _ _) _, [], 0⟩] _ _) _) _ _ _); k_dflt (refine comp_tup (by k_asm) (by with_unfolding_all rfl) (by decide) (by rfl) (by decide) (by rfl) ?_)))
  k_with "exec Assign cons ListComp" => ((k_here; (with_reducible show wpAny _ _ (exec (Stmt.Assign [Expr.Name _ _] (Expr.ListComp _ [⟨Expr.Name _ _, Expr.Subscript _ (Expr.Slice (some _) _ _ _) _, [], 0⟩] _ _) _) _) _ _ _); k_dflt (refine comp_tup_assign (by k_asm) (by rfl) (by with_unfolding_all rfl) (by with_unfolding_all rfl) (by decide) (by rfl) (by decide) (by rfl) (by rfl) (by rfl) ?_)))
  k_with "subscriptTail Name Slice ref ref" => ((k_here; (with_reducible show wpAny _ _ (subscriptTail _ (PySem.Expr.Slice (some _) none none _) (Value.ref _) (Value.ref _)) _ _ _); k_dflt (refine' slice_tup1 ?FAT ?NAT ?lAT ?pAT ?eAT ?_ ?sAT ?tAT ?zAT; (case FAT => k_asm); (case NAT => k_asm); (case lAT => k_mem); (case pAT => exact Nat.le_of_ble_eq_true rfl); (case eAT => kl_lit); (case sAT => with_unfolding_all rfl); (case tAT => kmk_pure); (case zAT => kmk_size)); intro D' h' F' N' l1; (try k_lt l1); (try k_sweep)))
  k_with "TupSrc" => ((k_here; k_dflt (refine TupSrc.of (by rfl) (by k_asm) (by k_asm) (by k_mem) (by first | size_fits | exact Nat.le_of_ble_eq_true rfl) ?_; intro g'; lcg_lit)))
  k_with "my steps" => (repeat' ((fail_if_success (with_reducible show Ret _ _ _)); first | ((with_reducible show wpAny _ _ (call (Value.ref _) _ _) _ _ _); k_extra "my call") | ((fail_if_success ((with_reducible show wpAny _ _ (call (Value.ref _) _ _) _ _ _); k_extra "my nocall")); first | (k_unfold; (try dsimp only)) | walk1 | (dsimp only; walk1) | (leave1; walk_say "STEP leave1"; try dsimp only))))
  k_with "my sub" => (first | (with_reducible exact sub_self _) | (with_reducible refine sub_cons ?_; k_extra "my sub") | (with_reducible refine sub_left ?_; k_extra "my sub") | (with_reducible refine sub_right ?_; k_extra "my sub") | (intro p hp; simp only [List.mem_cons, List.mem_append, hp, true_or, or_true]; done))
  k_with "my ord" => (k_dflt (first | assumption | exact lt_all (by assumption) (by k_mem) | exact lt_all_u1 (by assumption) (by k_mem) | exact lt_all_u2 (by assumption) (by k_mem) | omega))
  k_with "my allLt" => (first | exact allLt_of (by assumption) | exact allLt_sub (by assumption) (by k_extra "my sub") | tbn_find)
  k_with "FinE" => (((unfold LCg.FinE); intro D' h' tk' F' N' o1'; replace o1' := off1_mem o1'; (try dsimp only [List.nil_append, List.cons_append] at N'); (try dsimp only [List.nil_append, List.cons_append] at o1'); (try dsimp only)))
  k_with "FinA" => (((unfold LCg.FinA); intro D' h' tk' F' N' o1'; replace o1' := off1_mem o1'; (try dsimp only [List.nil_append, List.cons_append] at N'); (try dsimp only [List.nil_append, List.cons_append] at o1'); (try dsimp only)))
  k_with "my omega" => (first
      | ((with_reducible show @LE.le Nat _ _ _); first | exact Nat.le_of_ble_eq_true rfl | with_reducible (first | exact o1 ‹_› (by decide) | exact o4 ‹_› (by decide) | exact o7 ‹_› (by decide) | exact o8 ‹_› (by decide) | exact o9 ‹_› (by decide) | exact q6 ‹_› (by decide) | exact q0 ‹_› (by decide) | exact r0 ‹_› (by decide) | exact q1 ‹_› ‹_› (by decide) | exact q3 ‹_› ‹_› (by decide) | exact q7 ‹_› ‹_› (by decide) | exact q8 ‹_› ‹_› (by decide) | exact q9 ‹_› ‹_› | exact r1 ‹_› ‹_› (by decide) | exact r2 ‹_› ‹_› | exact r4 ‹_› ‹_› | exact r8 ‹_› ‹_› (by decide) | exact o0 ‹_› (by decide) | exact Nat.add_le_add ‹_› ‹_› | exact Nat.le_add_left _ _ | exact Nat.le_of_lt ‹_›))
      | ((with_reducible show @LT.lt Nat _ _ _); first | exact Nat.le_of_ble_eq_true rfl | with_reducible (first | exact o2 ‹_› (by decide) | exact o3 ‹_› (by decide) | exact o5 ‹_› (by decide) | exact o6 ‹_› (by decide) | exact p5 ‹_› (by decide) | exact j6 ‹_› (by decide) | exact q2 ‹_› ‹_› (by decide) | exact q4 ‹_› ‹_› (by decide) | exact q5 ‹_› ‹_› (by decide) | exact p1 ‹_› ‹_› (by decide) | exact p2 ‹_› ‹_› (by decide) | exact p3 ‹_› ‹_› (by decide) | exact p4 ‹_› ‹_› (by decide) | exact p6 ‹_› ‹_› (by decide)))
      | ((with_reducible show @LE.le Int _ _ _); first | decide +kernel | with_reducible (first | exact i1 ‹_› | exact i2 ‹_› | exact i6 | exact i7 | exact j7 ‹_› | exact j4 ‹_› (by decide +kernel) | exact i8 ‹_› (by decide +kernel) | exact i9 ‹_› (by decide +kernel) | exact i3 ‹_› ‹_› | exact i4 ‹_› ‹_› | exact i5 ‹_› ‹_›))
      | ((with_reducible show @LT.lt Int _ _ _); first | decide +kernel | with_reducible (first | exact j1 ‹_› | exact j5 (by decide +kernel) | exact j3 ‹_› (by decide +kernel) | exact j8 ‹_› (by decide +kernel) | exact j9 ‹_› (by decide +kernel) | exact l1 ‹_› (by decide +kernel) | exact l2 ‹_› (by decide +kernel) | exact l3 ‹_› (by decide +kernel) | exact j0 ‹_› ‹_› (by decide +kernel)))
      | ((with_reducible show @Ne Nat _ _); with_reducible (first | exact Nat.ne_of_gt ‹_› | exact Nat.ne_of_lt ‹_› | exact Nat.succ_ne_self _ | exact (Nat.succ_ne_self _).symm))
      | with_reducible (first | exact j2 ‹_› | exact z4 ‹_› ‹_› | exact z6 ‹_› ‹_› | exact z3 ‹_› | exact z2 ‹_› ‹_›))
  trivial
theorem layNew_marks (t : SetTable) (es : Array (Int × Value)) (h : Int) (x : Value) : (layNew t es h x).2.1.led = t.led ∧ ((layNew t es h x).2.1.plain = true → t.plain = true) := by
  unfold layNew
  split
  · rename_i slot wasDummy _
    show ((t.put slot).1.orStandIn _).led = t.led ∧ (((t.put slot).1.orStandIn _).plain = true → t.plain = true)
    unfold SetTable.orStandIn
    split
    · exact ⟨rfl, fun h => h⟩
    · exact ⟨rfl, fun h => nomatch h⟩
  · exact ⟨rfl, fun h => nomatch h⟩
theorem laid_marks {mask finger moves : Nat} {led plain : Bool} {hs : Array Int} {r : SetTable × Array Nat} (h : SetTable.laid mask finger moves led plain hs = some r) : r.1.led = led ∧ r.1.plain = plain := by
  unfold SetTable.laid at h
  cases q : SetTable.layClean mask hs with
  | none => rw [q] at h; cases h
  | some owner =>
    rw [q] at h
    obtain rfl := Option.some.inj h
    exact ⟨rfl, rfl⟩
theorem relayAll_marks (t : SetTable) (es : Array (Int × Value)) (wanted : Nat) : (relayAll t es wanted).2.1.led = t.led ∧ ((relayAll t es wanted).2.1.plain = true → t.plain = true) := by
  unfold relayAll
  split
  · rename_i t' order q
    have hm := laid_marks q
    dsimp only
    split
    · exact ⟨hm.1, fun h => hm.2 ▸ h⟩
    · exact ⟨rfl, fun h => nomatch h⟩
  · exact ⟨rfl, fun h => nomatch h⟩
def Led (w : World) : Bool := !w.params.followText "set-order"
def StrSet (prog : Program) (w : World) (o : Obj) (S : Str → Prop) (n : Nat) : Prop :=
  ∃ es ep t, o = { cls := .type "set", dict := none, data := .set es ep t } ∧ ElemsOf (PySem.strKind prog w) es.toList ∧ (∀ k, S k ↔ ∃ e ∈ es.toList, Value.isStrOf k e.2 = true) ∧ es.size ≤ n ∧ t.fits es.size = true ∧ t.led = Led w ∧ (es.size ≠ 0 → t.plain = false)
section
variable {prog : Program} {w : World} {A : Around} {E : Value → Shared → Prop} {s : Shared}
theorem upd_set {h : Heap} {a : Addr} {es es' : Array (Int × Value)} {ep : Nat} {t t' : SetTable} (ho : h.get? a = some { cls := .type "set", dict := none, data := .set es ep t }) :
    (h.update a (Obj.putSet es' t')).get? a = some { cls := .type "set", dict := none, data := .set es' (ep + 1) t' } := by
  have := Heap.get?_update_self (Obj.putSet es' t') ho (by rw [putSet_of es' t' rfl]; rfl)
  rw [putSet_of es' t' rfl] at this
  exact this
theorem set_add_tail {g : Bool → Sem Unit} (hg : ∀ (b : Bool) (s₁ : Shared) (Q' : Unit → Shared → Prop), Q' () s₁ → wpAny (model prog w) A (g b) Q' E s₁)
    {a : Addr} {es es1 : Array (Int × Value)} {ep n : Nat} {t t1 : SetTable} {S : Str → Prop} {wasDummy : Bool} {R : Option Bool → Shared → Prop} (ho : s.heap.get? a = some { cls := .type "set", dict := none, data := .set es ep t })
    (hel : ElemsOf (PySem.strKind prog w) es1.toList) (hmem : ∀ k, S k ↔ ∃ e ∈ es1.toList, Value.isStrOf k e.2 = true) (hn : es1.size ≤ n) (hb : es1.size < scanBound) (hf : t1.fits es1.size = true) (hl : t1.led = Led w) (hp : t1.plain = false)
    (h : ∀ h' o', Heap.SameBut a s.heap h' → h'.get? a = some o' → StrSet prog w o' S n → R (some true) { s with heap := h' }) :
    wpAny (model prog w) A (do
        storeSet a es1 t1
        if (!wasDummy && t1.tooFull) = true then do
            g (relayAll t1 es1 (SetTable.grown es1.size)).2.2
            storeSet a (relayAll t1 es1 (SetTable.grown es1.size)).1 (relayAll t1 es1 (SetTable.grown es1.size)).2.1
            pure (some true)
          else pure (some true)) R E s := by
  refine wpAny_bind (wpAny_storeSet_of ho rfl ?_ (fits_of_scanBound hb))
  have ho1 := upd_set (es' := es1) (t' := t1) ho
  have hs1 := Heap.SameBut.update s.heap a (Obj.putSet es1 t1)
  split
  · have hperm := relayAll_perm t1 es1 (SetTable.grown es1.size)
    have hfits := relayAll_fits t1 es1 (SetTable.grown es1.size)
    have hmk := relayAll_marks t1 es1 (SetTable.grown es1.size)
    generalize relayAll t1 es1 (SetTable.grown es1.size) = Rl at hperm hfits hmk ⊢
    obtain ⟨es2, t2, gave⟩ := Rl
    dsimp only at hperm hfits hmk ⊢
    have hsz : es2.size = es1.size := by rw [← Array.length_toList, hperm.length_eq, Array.length_toList]
    refine wpAny_bind (hg _ _ _ ?_)
    refine wpAny_bind (wpAny_storeSet_of ho1 rfl ?_ (fits_of_scanBound (hsz ▸ hb)))
    refine wpAny_pure (h _ _ (hs1.trans (Heap.SameBut.update _ a _)) (upd_set ho1) ⟨es2, _, t2, rfl, hel.perm hperm, fun k => (hmem k).trans ⟨fun ⟨e, he, q⟩ => ⟨e, hperm.mem_iff.mpr he, q⟩, fun ⟨e, he, q⟩ => ⟨e, hperm.mem_iff.mp he, q⟩⟩, hsz ▸ hn, hfits, hmk.1.trans hl, fun _ => ?_⟩)
    cases q : t2.plain with
    | false => rfl
    | true => rw [hmk.2 q] at hp; cases hp
  · exact wpAny_pure (h _ _ hs1 ho1 ⟨es1, _, t1, rfl, hel, hmem, hn, hf, hl, fun _ => hp⟩)
theorem set_add {a : Addr} {o : Obj} {S : Str → Prop} {n : Nat} {x : Str} {tk : Tok} {Q : Bool → Shared → Prop} (ho : s.heap.get? a = some o) (hS : StrSet prog w o S n) (hn : n < 1000)
    (h : ∀ b h' o', Heap.SameBut a s.heap h' → h'.get? a = some o' → StrSet prog w o' (fun k => S k ∨ k = x) (n + 1) → Q b { s with heap := h' }) :
    wpAny (model prog w) A (setAddHashed a (.str x tk) (hashStr w x)) Q E s := by
  obtain ⟨es, ep, t, rfl, hel, hmem, hsz, hf, hl, hp⟩ := hS
  have hkey : (PySem.strKind prog w).is x (.str x tk) = true := strKind_is _ _ _ _
  have hb0 : es.size < scanBound := by unfold scanBound; omega
  have hb1 : es.size + 1 < scanBound := by unfold scanBound; omega
  have hsc : Value.scannable (.str x tk) = true := rfl
  unfold setAddHashed setAddHashedIn
  refine wpAny_holding (wpAny_bind (wpAny_setState_of ho rfl hf ?_))
  dsimp only
  rw [byScan_of hsc hb0 hel]
  simp only [↓reduceIte]
  unfold setAddByScan
  refine wpAny_bind ?_
  refine wpAny_bind (wpAny_rule ?_)
  refine wpAny_bind (wpAny_setScan_of (knd := PySem.strKind prog w) hkey ho rfl hf hel ?_)
  cases hr : List.findIdx? (fun e => (PySem.strKind prog w).is x e.2) es.toList with
  | some j =>
    dsimp only
    obtain ⟨hj, hpj, _⟩ := List.findIdx?_eq_some_iff_getElem.mp hr
    refine wpAny_pure (wpAny_pure ?_)
    refine h false s.heap _ (Heap.SameBut.refl a s.heap) ho ⟨es, ep, t, rfl, hel, fun k => ?_, Nat.le_succ_of_le hsz, hf, hl, hp⟩
    constructor
    · rintro (hk | rfl)
      · exact (hmem k).mp hk
      · exact ⟨es.toList[j], List.getElem_mem hj, hpj⟩
    · exact fun hk => .inl ((hmem k).mpr hk)
  | none =>
    dsimp only
    have hgw : ∀ (b : Bool) {s₁ : Shared} {Q' : Unit → Shared → Prop}, Q' () s₁ → wpAny (model prog w) A (match b with | true => rule "set.scan.the-table-gave-way" | false => pure ()) Q' E s₁ :=
      fun b s₁ Q' hq => by cases b <;> first | exact wpAny_pure hq | exact wpAny_rule hq
    have hperm := layNew_perm t es (hashStr w x) (.str x tk)
    have hfits := layNew_fits t es (hashStr w x) (.str x tk)
    have hmk := layNew_marks t es (hashStr w x) (.str x tk)
    show wpAny _ _ (match layNew t es (hashStr w x) (.str x tk) with | (es1, t1, wasDummy, gave) => _) _ _ _
    generalize layNew t es (hashStr w x) (.str x tk) = Ly at hperm hfits hmk ⊢
    obtain ⟨es1, t1, wasDummy, gave⟩ := Ly
    dsimp only at hperm hfits hmk ⊢
    rw [Array.toList_push] at hperm
    have hel1 : ElemsOf (PySem.strKind prog w) es1.toList := (hel.push (knd := PySem.strKind prog w) hkey hsc).perm hperm
    have hsz1 : es1.size = es.size + 1 := by rw [← Array.length_toList, hperm.length_eq, List.length_append, Array.length_toList]; rfl
    have hmem1 : ∀ k, (S k ∨ k = x) ↔ ∃ e ∈ es1.toList, Value.isStrOf k e.2 = true := fun k => by
      constructor
      · rintro (hk | rfl)
        · obtain ⟨e, he, q⟩ := (hmem k).mp hk
          exact ⟨e, hperm.mem_iff.mpr (List.mem_append_left _ he), q⟩
        · exact ⟨_, hperm.mem_iff.mpr (List.mem_append_right _ (List.mem_singleton.mpr rfl)), hkey⟩
      · rintro ⟨e, he, q⟩
        rcases List.mem_append.mp (hperm.mem_iff.mp he) with he | he
        · exact .inl ((hmem k).mpr ⟨e, he, q⟩)
        · obtain rfl := List.mem_singleton.mp he
          exact .inr ((PySem.strKind prog w).inj (.str x tk) k x q hkey)
    refine wpAny_bind (hgw _ ?_)
    have hend : ∀ h' o', Heap.SameBut a s.heap h' → h'.get? a = some o' → StrSet prog w o' (fun k => S k ∨ k = x) (n + 1) → Q true { s with heap := h' } := fun h' o' a1 a2 a3 => h true h' o' a1 a2 a3
    split
    · refine wpAny_bind ?_
      rw [hashByValue_scannable 8 hsc]
      refine wpAny_pure ?_
      show wpAny _ _ (do storeSet a es1 { t1 with plain := false }; _) _ _ _
      refine set_add_tail (n := n + 1) ?_ ho hel1 hmem1 (by first | exact r4 ‹_› ‹_› | omega) (by unfold scanBound; first | exact r5 ‹_› ‹_› ‹_› rfl | omega) (SetTable.fits_plain_off hfits) (hmk.1.trans hl) rfl ?_
      · intro b s₁ Q' hq; cases b <;> first | exact wpAny_pure hq | exact wpAny_rule hq
      · intro h' o' a1 a2 a3; exact wpAny_pure (hend h' o' a1 a2 a3)
    · rename_i hpl
      refine wpAny_bind (wpAny_pure ?_)
      simp only [↓reduceIte]
      refine set_add_tail (n := n + 1) ?_ ho hel1 hmem1 (by first | exact r4 ‹_› ‹_› | omega) (by unfold scanBound; first | exact r5 ‹_› ‹_› ‹_› rfl | omega) hfits (hmk.1.trans hl) (by simpa using hpl) ?_
      · intro b s₁ Q' hq; cases b <;> first | exact wpAny_pure hq | exact wpAny_rule hq
      · intro h' o' a1 a2 a3; exact wpAny_pure (hend h' o' a1 a2 a3)
theorem strs_at : ∀ {vs : List Value} {ss : List Str}, StrsAre vs ss → ∀ (i : Nat) (v : Value), vs[i]? = some v → ∃ x t, v = .str x t ∧ ss[i]? = some x
  | _, _, .nil, i, v, h => by simp at h
  | _, _, .cons x t _, 0, v, h => by simp at h; exact ⟨x, t, h.symm, rfl⟩
  | _, _, .cons x t r, i + 1, v, h => by
    simp only [List.getElem?_cons_succ] at h
    obtain ⟨y, u, e, q⟩ := strs_at r i v h
    exact ⟨y, u, e, by simpa using q⟩
theorem StrSet.congr {o : Obj} {S S' : Str → Prop} {n : Nat} (h : StrSet prog w o S n) (e : ∀ k, S k ↔ S' k) : StrSet prog w o S' n := by
  obtain ⟨es, ep, t, a, b, c, r⟩ := h
  exact ⟨es, ep, t, a, b, fun k => (e k).symm.trans (c k), r⟩
theorem set_loop {I : Addr} {fp : List Addr} {n : Nat} {P : Nat → Value → Prop} {St : Nat → Heap → Prop} {R : Result → Shared → Prop} (W : Walks prog w A.in1 I fp [I] n P St) (S : Addr) (hSf : S ∉ fp) {ss : List Str}
    (hP : ∀ i v, P i v → ∃ x t, v = .str x t ∧ ss[i]? = some x) (hss : ss.length = n) (hn : n < 1000) :
    ∀ (k i : Nat) (s : Shared), n - i = k → i ≤ n → St i s.heap → (∃ o, s.heap.get? S = some o ∧ StrSet prog w o (fun k => k ∈ ss.take i) i) →
      (∀ h' tk o, (∀ b o, b ≠ S → b ≠ I → s.heap.get? b = some o → h'.get? b = some o) → h'.get? S = some o → StrSet prog w o (fun k => k ∈ ss) n → R (.ok (.ret .none)) { s with heap := h', toks := tk }) →
      codeAny (model prog w) A (.builtin "set.update.loop" ⟨[.ref S, .ref I], []⟩) R s := by
  have hSI : S ≠ I := fun e => hSf (e ▸ W.sub I (List.mem_singleton.mpr rfl))
  intro k
  induction k with
  | zero =>
    intro i s hk hi hst hS hR
    obtain rfl : i = n := Nat.le_antisymm hi (Nat.le_of_sub_eq_zero hk)
    obtain ⟨o, ho, hSo⟩ := hS
    refine codeAny_builtin F.entry_set_update_loop ?_
    rw [Around.under_plainId F.plain_set_update_loop _]
    show wpAny _ A.in1 (pyNext (.ref I) >>= _) _ _ s
    refine wpAny_bind (W.done s _ _ hst fun h' tk hk' => ?_)
    show wpAny _ A.in1 (ret Value.none) _ _ _
    refine wpAny_pure (hR h' tk o (fun b ob _ hb e => hk' b ob (by simpa using hb) e) (hk' S o (by simpa using hSI) ho) (hSo.congr fun k => ?_))
    rw [List.take_of_length_le (Nat.le_of_eq hss)]
  | succ k ih =>
    intro i s hk hi hst hS hR
    have hlt : i < n := Nat.lt_of_sub_eq_succ hk
    obtain ⟨o, ho, hSo⟩ := hS
    refine codeAny_builtin F.entry_set_update_loop ?_
    rw [Around.under_plainId F.plain_set_update_loop _]
    show wpAny _ A.in1 (pyNext (.ref I) >>= _) _ _ s
    refine wpAny_bind (W.item i s _ _ hlt hst fun v h' tk hPv hst' hk' => ?_)
    obtain ⟨x, t, rfl, hx⟩ := hP i v hPv
    show wpAny _ A.in1 (holding [Value.str x t] (setAdd S (.str x t)) >>= _) _ _ _
    refine wpAny_bind (wpAny_holding ?_)
    unfold setAdd
    refine wpAny_holding ?_
    refine wpAny_bind ((PySem.strKind prog w).pyHash (k := x) (strKind_is _ _ _ _) ?_)
    refine set_add (x := x) (o := o) (n := i) (hk' S o (by simpa using hSI) ho) hSo (Nat.lt_trans hlt hn) fun b h2 o' hsb ho' hSo' => ?_
    refine wpAny_pure ⟨plainId_quiet F.plain_set_update_loop _, ih (i + 1) _ (sub_eq3 hk) hlt (W.frame _ _ _ hst' fun b hb o e => hsb.extBut b o (fun q => hSf (q ▸ hb)) e) ⟨o', ho', hSo'.congr fun k => ?_⟩ fun h3 tk3 o3 hk3 ho3 hS3 => ?_⟩
    · rw [List.take_add_one, hx]
      simp
    · exact hR h3 tk3 o3 (fun b ob h1 h2' e => hk3 b ob h1 h2' (hsb.extBut b ob h1 (hk' b ob (by simpa using h2') e))) ho3 hS3
theorem code_set_made (a : Value) {Q₁ : Value → Shared → Prop}
    (h : Q₁ (.ref s.heap.objs.size) { s with heap := s.heap.push { cls := .type "set", dict := none, data := .set #[] 0 (.fresh 0 0 (Led w)) } }) :
    codeAny (model prog w) A (.call (.builtin "set.__new__") ⟨[.type "set", a], []⟩) (wants Q₁ E) s := by
  refine codeAny_of_tree ?_
  show wpAny _ A.in1 (do checkBuiltinCall "set.__new__" ⟨[.type "set", a], []⟩; again (.builtin "set.__new__" ⟨[.type "set", a], []⟩)) _ _ s
  refine wpAny_bind (wpAny_of_eq (F.newCall_set_1 a) (wpAny_pure ⟨plainId_quiet F.plain_set_new _, codeAny_builtin F.entry_set_new ?_⟩))
  rw [Around.under_plainId F.plain_set_new _]
  unfold Builtin.«set.__new__» Builtin.Frozenset.newClass
  have hsub := sub_set_self
  obtain ⟨hp, g, d, tk, os⟩ := s
  dsimp only
  wp_walk
  refine wpAny_askSetting (wpAny_pure ?_)
  dsimp only
  simp only [newObj]
  refine wpAny_bind (wpAny_alloc (wpAny_pure ?_))
  exact wpAny_pure h
theorem freshSet : StrSet prog w { cls := .type "set", dict := none, data := .set #[] 0 (.fresh 0 0 (Led w)) } (fun _ => False) 0 :=
  ⟨#[], 0, _, rfl, fun e he => by simp at he, fun k => by simp, Nat.le_refl _, rfl, rfl, fun h => (h rfl).elim⟩
theorem set_of_strs {l : Addr} {items : Array Value} {ss : List Str} {Q : Value → Shared → Prop} (hh : A.handled = none) (hl : s.heap.IsList l items) (hi : StrsAre items.toList ss) (hb : items.size < 1000)
    (h : ∀ h' tk o, h'.get? s.heap.objs.size = some o → StrSet prog w o (fun k => k ∈ ss) items.size → (∀ b o, b < s.heap.objs.size → s.heap.get? b = some o → h'.get? b = some o) → Q (.ref s.heap.objs.size) { s with heap := h', toks := tk }) :
    wpAny (model prog w) A (call (.type "set") [.ref l]) Q E s := by
  obtain ⟨c, tl, hmro⟩ := F.called_set.mro
  have hmade := F.called_set.made
  have hsub := F.called_set.sub
  refine wpAny_call (codeAny_of_tree ?_)
  show wpAny _ _ (callAny (.type "set") _) _ _ _
  refine wpAny_pure ⟨Code.quiet_builtin _ (by decide +kernel), codeAny_builtin F.entry_type_call ?_⟩
  rw [Around.under_plain (weight_type_call_type "set" [.ref l] []) rfl]
  have h1 := F.called_set.notType
  have h2 := F.called_set.canCreate
  have hct := F.typeCall_set_1 (.ref l)
  repeat (any_goals (first | assumption | wp_step))
  have hfr : StrSet prog w { cls := .type "set", dict := none, data := .set #[] 0 (.fresh 0 0 (Led w)) } (fun _ => False) 0 := freshSet
  have hmk := @code_set_made prog w (A.in1) E s (.ref l)
  generalize Led w = ld at hfr hmk
  refine codeAny_mono (hmk (Q₁ := fun obj s₁ => obj = .ref s.heap.objs.size ∧ s₁ = { s with heap := s.heap.push { cls := .type "set", dict := none, data := .set #[] 0 (.fresh 0 0 ld) } }) ⟨rfl, rfl⟩) fun r s₁ hr => ?_
  cases r with
  | error e => exact hr
  | ok fl =>
    cases fl with
    | ret obj =>
      obtain ⟨rfl, rfl⟩ := hr
      have hS : (s.heap.push ({ cls := .type "set", dict := none, data := .set #[] 0 (.fresh 0 0 ld) } : Obj)).get? s.heap.objs.size = some ({ cls := .type "set", dict := none, data := .set #[] 0 (.fresh 0 0 ld) } : Obj) := Heap.get?_push_size _ rfl
      have hT : Shared.TypeIs { s with heap := s.heap.push ({ cls := .type "set", dict := none, data := .set #[] 0 (.fresh 0 0 ld) } : Obj) } (.ref s.heap.objs.size) "set" := ⟨_, hS, rfl⟩
      have hli := F.called_set.init.lookup
      have hbi := F.called_set.init.bind (.ref s.heap.objs.size)
      repeat (any_goals (first | assumption | wp_step))
      refine codeAny_mono (codeAny_call_builtin (R := wants (fun r s₂ => r = .none ∧ ∃ h' tk o, s₂ = { s with heap := h', toks := tk } ∧ h'.get? s.heap.objs.size = some o ∧ StrSet prog w o (fun k => k ∈ ss) items.size ∧
          (∀ b o, b < s.heap.objs.size → s.heap.get? b = some o → h'.get? b = some o)) E) F.called_set.init.plain F.entry_set_init (check_set_init_1 hT ?_)) fun r₂ s₂ hr₂ => ?_
      · obtain ⟨⟨ocls, odict, odata, oslots⟩, hol, hcl', nl, hdl⟩ := hl
        simp only at hcl' hdl
        subst hcl' hdl
        have hol' : (s.heap.push ({ cls := .type "set", dict := none, data := .set #[] 0 (.fresh 0 0 ld) } : Obj)).get? l = some { cls := .type "list", dict := odict, data := .seq items nl, slots := oslots } := Heap.get?_push_of_some _ hol
        have hsls := F.sub_list_set
        have hslf := F.sub_list_frozenset
        have hne : (Value.type "list" == Value.type "dict") = false := by decide
        have hl1 : (s.heap.push ({ cls := .type "set", dict := none, data := .set #[] 0 (.fresh 0 0 ld) } : Obj)).IsList l items := ⟨_, hol', rfl, nl, rfl⟩
        unfold Builtin.«set.__init__» noKeywords Builtin.Frozenset.updateFrom
        generalize hPI : pyIter = PI
        wp_walk
        subst hPI
        refine wpAny_pyIter_list (s := { s with heap := s.heap.push ({ cls := .type "set", dict := none, data := .set #[] 0 (.fresh 0 0 ld) } : Obj) }) hl1 ?_
        refine wpAny_bind (wpAny_runValue ?_)
        have hlS : l < s.heap.objs.size := Heap.lt_size hol
        have hsz : (s.heap.push ({ cls := .type "set", dict := none, data := .set #[] 0 (.fresh 0 0 ld) } : Obj)).objs.size = s.heap.objs.size + 1 := Heap.size_push ..
        have hh3 : A.in1.in1.in1.handled = none := by simp [hh]
        have hneI : l ≠ (s.heap.push ({ cls := .type "set", dict := none, data := .set #[] 0 (.fresh 0 0 ld) } : Obj)).objs.size := by rw [hsz]; exact Nat.ne_of_lt (Nat.lt_succ_of_lt hlS)
        have hSf : s.heap.objs.size ∉ [(s.heap.push ({ cls := .type "set", dict := none, data := .set #[] 0 (.fresh 0 0 ld) } : Obj)).objs.size, l] := by
          rw [hsz]; simp only [List.mem_cons, List.not_mem_nil, or_false, not_or]
          exact ⟨Nat.ne_of_lt (Nat.lt_succ_self _), Nat.ne_of_gt hlS⟩
        refine set_loop (Walks.list hh3 _ l hneI items) s.heap.objs.size hSf (ss := ss) (fun i v hv => strs_at hi i v (by rw [Array.getElem?_toList]; exact hv)) (by rw [← StrsAre.length hi, Array.length_toList]) hb (items.size - 0) 0 _ rfl (Nat.zero_le _)
          ⟨⟨_, Heap.get?_push_size _ rfl, rfl, rfl⟩, hl1.push _⟩ ⟨_, Heap.get?_push_of_some _ hS, hfr.congr fun k => by simp⟩ fun h' tk o hk ho hSo => ?_
        show wpAny _ _ _ _ _ _
        refine wpAny_pure ?_
        show wpAny _ _ (ret Value.none) _ _ _
        refine wpAny_pure ⟨rfl, h', tk, o, rfl, ho, hSo, fun b ob hb e => ?_⟩
        exact hk b ob (Nat.ne_of_lt hb) (by rw [hsz]; exact Nat.ne_of_lt (Nat.lt_succ_of_lt hb)) (Heap.get?_push_of_some _ (Heap.get?_push_of_some _ e))
      · cases r₂ with
        | error e => exact hr₂
        | ok fl₂ =>
          cases fl₂ with
          | ret r =>
            obtain ⟨rfl, h', tk, o, rfl, ho, hSo, hk'⟩ := hr₂
            repeat (any_goals (first | assumption | wp_step))
            exact h _ _ _ ho hSo hk'
          | _ => exact hr₂.elim
    | _ => exact hr.elim
end
theorem w79 : True := by
  w_top off
  trivial
theorem slot_setit_next : Slot "set_iterator" "__next__" "set_iterator.__next__" :=
  .of (owner := "set_iterator") (n := "__next__") (by rw [typeLookup_type, builtinLookup_eq_fast]; kernel_rfl) (by decide +kernel) (by decide +kernel) (by decide +kernel)
    (by first | exact .inl (by decide +kernel) | exact .inr (by decide +kernel)) (by rw [isSubtype_type]; kernel_rfl)
theorem slot_setit_iter : Slot "set_iterator" "__iter__" "set_iterator.__iter__" :=
  .of (owner := "set_iterator") (n := "__iter__") (by rw [typeLookup_type, builtinLookup_eq_fast]; kernel_rfl) (by decide +kernel) (by decide +kernel) (by decide +kernel)
    (by first | exact .inl (by decide +kernel) | exact .inr (by decide +kernel)) (by rw [isSubtype_type]; kernel_rfl)
theorem entry_setit_next : entryFor table "set_iterator.__next__" = some Builtin.«set_iterator.__next__» := entryFor_of_fast (by kernel_rfl)
theorem entry_setit_iter : entryFor table "set_iterator.__iter__" = some Builtin.«dict_keyiterator.__iter__» := entryFor_alias (id' := "dict_keyiterator.__iter__") (by kernel_rfl) rfl (by decide +kernel) (by kernel_rfl)
theorem args_setit_next (a : Value) : argsOk "set_iterator.__next__" ⟨[a], []⟩ := by unfold argsOk; kernel_rfl
theorem args_setit_iter (a : Value) : argsOk "set_iterator.__iter__" ⟨[a], []⟩ := by unfold argsOk; kernel_rfl
theorem entry_set_iter : entryFor table "set.__iter__" = some Builtin.«frozenset.__iter__» := entryFor_alias (id' := "frozenset.__iter__") (by kernel_rfl) rfl (by decide +kernel) (by kernel_rfl)
theorem erase_perm {α : Type} : ∀ (l : List α) (i : Nat) (h : i < l.length), (l[i] :: l.eraseIdx i).Perm l
  | [], _, h => absurd h (Nat.not_lt_zero _)
  | _ :: _, 0, _ => List.Perm.refl _
  | x :: l, i + 1, h => by
    show (l[i]'(Nat.lt_of_succ_lt_succ h) :: x :: l.eraseIdx i).Perm (x :: l)
    exact (List.Perm.swap x _ _).trans ((erase_perm l i (Nat.lt_of_succ_lt_succ h)).cons x)
def IsSetIt (h : Heap) (it : Addr) (first : Value) (i : Nat) (a : Addr) (n ep : Nat) : Prop := ∃ o, h.get? it = some o ∧ o.cls = .type "set_iterator" ∧ o.data = .fields #[first, .int i 0, .ref a, .int n 0, .int ep 0]
theorem IsSetIt.typeIs {s : Shared} {it a : Addr} {first : Value} {i n ep : Nat} (h : IsSetIt s.heap it first i a n ep) : s.TypeIs (.ref it) "set_iterator" := by
  obtain ⟨o, ho, hc, _⟩ := h; exact ⟨o, ho, hc⟩
abbrev setObj (es : Array (Int × Value)) (ep : Nat) (t : SetTable) : Obj := { cls := .type "set", dict := none, data := .set es ep t }
section
variable {prog : Program} {w : World} {A : Around} {E : Value → Shared → Prop} {s : Shared}
theorem wpAny_choose {src : Source} {n : Nat} {Q : Nat → Shared → Prop} (hn : n ≠ 0) (h : ∀ i d, i < n → Q i { s with drawn := d }) : wpAny (model prog w) A (choose src n) Q E s :=
  fun Γ p _ => ⟨hn, h _ _ (Nat.mod_lt _ (Nat.pos_of_ne_zero hn))⟩
theorem wpAny_drawOrder {α : Type} : ∀ (n : Nat) (xs : List α) (s : Shared) {Q : List α → Shared → Prop}, xs.length ≤ n → (∀ ys d, ys.Perm xs → Q ys { s with drawn := d }) → wpAny (model prog w) A (drawOrder n xs) Q E s
  | 0, [], s, Q, _, h => wpAny_pure (h [] s.drawn (List.Perm.refl _))
  | 0, _ :: _, _, _, hn, _ => absurd hn (Nat.not_succ_le_zero _)
  | n + 1, [], s, Q, _, h => wpAny_pure (h [] s.drawn (List.Perm.refl _))
  | n + 1, x :: xs, s, Q, hn, h => by
    show wpAny _ _ (choose .order (x :: xs).length >>= _) _ _ _
    refine wpAny_bind (wpAny_choose (Nat.succ_ne_zero _) fun i d hi => ?_)
    rw [List.getElem?_eq_getElem hi]
    show wpAny _ _ (drawOrder n ((x :: xs).eraseIdx i) >>= _) _ _ _
    refine wpAny_bind (wpAny_drawOrder n _ _ (by rw [List.length_eraseIdx, if_pos hi]; simp only [List.length_cons] at hn ⊢; exact Nat.le_of_succ_le_succ hn) fun ys d' hp => ?_)
    exact wpAny_pure (h _ d' ((hp.cons _).trans (erase_perm _ _ hi)))
end
theorem pick_go {α : Type} (next : Nat → Nat) : ∀ (fuel k : Nat) (left : List α) (out : Array α), left.length ≤ fuel → (pickOrder.go next fuel k left out).toList.Perm (out.toList ++ left)
  | 0, k, [], out, _ => by simp [pickOrder.go]
  | 0, _, _ :: _, _, h => absurd h (Nat.not_succ_le_zero _)
  | fuel + 1, k, [], out, _ => by simp [pickOrder.go]
  | fuel + 1, k, x :: xs, out, h => by
    have hi : next k % (x :: xs).length < (x :: xs).length := Nat.mod_lt _ (Nat.succ_pos _)
    unfold pickOrder.go
    rw [List.getElem?_eq_getElem hi]
    dsimp only
    refine (pick_go next fuel (k + 1) _ _ (by rw [List.length_eraseIdx, if_pos hi]; simp only [List.length_cons] at h ⊢; exact Nat.le_of_succ_le_succ h)).trans ?_
    rw [Array.toList_push, List.append_assoc]
    exact List.Perm.append_left _ (erase_perm _ _ hi)
theorem pick_perm {α : Type} (next : Nat → Nat) (xs : Array α) : (pickOrder next xs).toList.Perm xs.toList := by
  have := pick_go next xs.size 0 xs.toList #[] (by simp)
  simpa [pickOrder] using this
section
variable {prog : Program} {w : World} {A : Around} {E : Value → Shared → Prop} {s : Shared}
theorem setit_open {it a : Addr} {first : Value} {i ep : Nat} {es : Array (Int × Value)} {t : SetTable} {Q : Option Value → Shared → Prop} (hit : IsSetIt s.heap it first i a es.size ep) (hs : s.heap.get? a = some (setObj es ep t)) (hf : t.fits es.size = true)
    (h : wpAny (model prog w) A.in1 (do
        if let .int slot _ := first then
          match ← setNext a slot.toNat (i : Int).toNat (ep : Int).toNat with
          | some (x, next) =>
            setField (.ref it) 0 (rawInt next)
            setField (.ref it) 1 (rawInt ((i : Int) + 1))
            ret x
          | none => setField (.ref it) 2 .none; raiseNew (← newExc (.type "StopIteration") [])
        else
          let some places ← seqItems? first | unsupported "internal:set_iterator"
          match places[(i : Int).toNat]? with
          | some (.int place _) =>
            let x ← setNextDrawn a place.toNat (ep : Int).toNat
            setField (.ref it) 1 (rawInt ((i : Int) + 1))
            ret x
          | some _ => unsupported "internal:set_iterator"
          | none => setField (.ref it) 0 (rawInt 0); setField (.ref it) 2 .none; raiseNew (← newExc (.type "StopIteration") []))
      (fun fin s' => match fin with | .done (.ret v) => Q (some v) s' | _ => False) (fun e s' => s'.TypeIs e "StopIteration" ∧ Q none s') s) :
    wpAny (model prog w) A (pyNext (.ref it)) Q E s := by
  obtain ⟨o, ho, hc, hd⟩ := id hit
  unfold pyNext
  refine wpAny_bind (wpAny_attempt (wpAny_callSpecial?_slot (name := Str.ofString "__next__") hit.typeIs slot_setit_next
    (wpAny_call_entry slot_setit_next hit.typeIs entry_setit_next ?_ (args_setit_next _))))
  show wpAny _ _ (fieldsOf (.ref it) >>= _) _ _ s
  refine wpAny_bind (wpAny_fieldsOf ho hd ?_)
  show wpAny _ _ (setEntries a >>= _) _ _ s
  refine wpAny_bind (wpAny_setEntries_of hs rfl hf ?_)
  show wpAny _ _ (if ((es.size : Int) != (es.size : Int)) = true then _ else _) _ _ _
  rw [if_neg (by simp)]
  refine wpAny_mono h (fun fin s' hq => ?_) fun e s' he => ?_
  · cases fin with
    | again c => exact hq.elim
    | done f =>
      cases f with
      | ret v => exact ⟨v, rfl, wpAny_pure hq⟩
      | next => exact hq.elim
      | brk => exact hq.elim
      | cont => exact hq.elim
  · exact wpAny_bind (wpAny_isInstance (T := "StopIteration") (b := true) he.1 isSubtype_stop (wpAny_pure he.2))
theorem stop_raise {α : Type} {Q' : α → Shared → Prop} {E' : Value → Shared → Prop} (hh : A.handled = none)
    (h : ∀ h' e, (∀ b o, s.heap.get? b = some o → h'.get? b = some o) → (∃ o, h'.get? e = some o ∧ o.cls = .type "StopIteration") → E' (.ref e) { s with heap := h' }) :
    wpAny (model prog w) A (do raiseNew (← newExc (.type "StopIteration") [])) Q' E' s := by
  refine wpAny_bind ?_
  simp only [newExc, newTuple]
  refine wpAny_bind (wpAny_newObj_type ?_ (by size_fits))
  refine wpAny_bind (m := firstArgMember _ _) (wpAny_of_eq (a := Value.none) (by first | rfl | (simp only [firstArgMember]; rfl)) ?_)
  refine wpAny_newObj_type ?_ (by size_fits)
  simp only [raiseNew]
  refine wpAny_bind (wpAny_handled ?_)
  rw [hh]
  exact wpAny_bind (wpAny_pure (wpAny_throw (h _ _ (fun b o e => Heap.get?_push_of_some _ (Heap.get?_push_of_some _ e)) ⟨_, Heap.get?_push_size _ rfl, rfl⟩)))
theorem setit_self {it a : Addr} {first : Value} {i n ep : Nat} {Q : Value → Shared → Prop} (hit : IsSetIt s.heap it first i a n ep) (h : Q (.ref it) s) : wpAny (model prog w) A (pyIter (.ref it)) Q E s := by
  refine wpAny_pyIter_slot hit.typeIs slot_setit_iter (wpAny_call_entry slot_setit_iter hit.typeIs entry_setit_iter ?_ (args_setit_iter _))
  show wpAny _ _ (ret (.ref it)) _ _ s
  exact wpAny_pure ⟨_, rfl, "set_iterator", _, hit.typeIs, slot_setit_next.lookup, h⟩
theorem IsSetIt.put {h : Heap} {it a : Addr} {first : Value} {i n ep : Nat} (hit : IsSetIt h it first i a n ep) (first' : Value) (i' : Nat) :
    IsSetIt ((h.update it (Obj.mapFields (·.setIfInBounds 0 first'))).update it (Obj.mapFields (·.setIfInBounds 1 (.int i' 0)))) it first' i' a n ep := by
  obtain ⟨o, ho, hc, hd⟩ := hit
  have h1 : (h.update it (Obj.mapFields (·.setIfInBounds 0 first'))).get? it = some (Obj.mapFields (·.setIfInBounds 0 first') o) := Heap.get?_update_self _ ho (Obj.isFreed_of_fields (Obj.data_mapFields hd _))
  have hd1 := Obj.data_mapFields hd (·.setIfInBounds 0 first')
  exact ⟨_, Heap.get?_update_self _ h1 (Obj.isFreed_of_fields (Obj.data_mapFields hd1 _)), (Obj.cls_mapFields ..).trans ((Obj.cls_mapFields ..).trans hc), by rw [Obj.data_mapFields hd1]; simp⟩
theorem IsSetIt.put1 {h : Heap} {it a : Addr} {first : Value} {i n ep : Nat} (hit : IsSetIt h it first i a n ep) (i' : Nat) : IsSetIt (h.update it (Obj.mapFields (·.setIfInBounds 1 (.int i' 0)))) it first i' a n ep := by
  obtain ⟨o, ho, hc, hd⟩ := hit
  exact ⟨_, Heap.get?_update_self _ ho (Obj.isFreed_of_fields (Obj.data_mapFields hd _)), (Obj.cls_mapFields ..).trans hc, by rw [Obj.data_mapFields hd]; simp⟩
theorem IsSetIt.at {h h' : Heap} {it a : Addr} {first : Value} {i n ep : Nat} (hit : IsSetIt h it first i a n ep) (e : ∀ o, h.get? it = some o → h'.get? it = some o) : IsSetIt h' it first i a n ep := by
  obtain ⟨o, ho, r⟩ := hit; exact ⟨o, e o ho, r⟩
theorem walks_slots {it a : Addr} (hne : a ≠ it) (hh : A.handled = none) {es : Array (Int × Value)} {ep : Nat} {t : SetTable} (hf : t.fits es.size = true) (items : List Value) (sl : Nat → Nat) (nx : Nat → Nat → Option (Value × Nat))
    (hnx : ∀ (i : Nat) (s : Shared) (Q : Option (Value × Nat) → Shared → Prop) (E : Value → Shared → Prop), s.heap.get? a = some (setObj es ep t) → Q (nx (sl i) i) s → wpAny (model prog w) A.in1 (setNext a (sl i) i ep) Q E s)
    (h1 : ∀ i (hi : i < items.length), nx (sl i) i = some (items[i], sl (i + 1))) (h2 : nx (sl items.length) items.length = none) :
    Walks prog w A it [it, a] [it] items.length (fun i v => items[i]? = some v) (fun i h => IsSetIt h it (.int (sl i) 0) i a es.size ep ∧ h.get? a = some (setObj es ep t)) where
  sub := fun b hb => by simp at hb; simp [hb]
  frame := fun _ _ _ st hk => ⟨st.1.at fun o e => hk it (by simp) o e, hk a (by simp) _ st.2⟩
  item := fun i s Q E hi st hQ => by
    refine setit_open st.1 st.2 hf ?_
    show wpAny _ _ (setNext a (sl i) i ep >>= _) _ _ s
    refine wpAny_bind (hnx i s _ _ st.2 ?_)
    rw [h1 i hi]
    obtain ⟨o, ho, hc, hd⟩ := id st.1
    refine wpAny_bind (wpAny_setField ho hd (by simp) ?_)
    have ho1 : (s.heap.update it (Obj.mapFields (·.setIfInBounds 0 (rawInt (sl (i + 1)))))).get? it = some (Obj.mapFields (·.setIfInBounds 0 (rawInt (sl (i + 1)))) o) := Heap.get?_update_self _ ho (Obj.isFreed_of_fields (Obj.data_mapFields hd _))
    refine wpAny_bind (wpAny_setField ho1 (Obj.data_mapFields hd _) (by simp) (wpAny_pure ?_))
    have hsb : ∀ b ob, b ≠ it → s.heap.get? b = some ob → ((s.heap.update it (Obj.mapFields (·.setIfInBounds 0 (rawInt (sl (i + 1)))))).update it (Obj.mapFields (·.setIfInBounds 1 (rawInt ((i : Int) + 1))))).get? b = some ob := fun b ob hb e => ((Heap.SameBut.update ..).trans (Heap.SameBut.update ..)).extBut b ob hb e
    exact hQ _ _ s.toks (List.getElem?_eq_getElem hi) ⟨st.1.put _ _, hsb a _ hne st.2⟩ fun b ob hb e => hsb b ob (by simpa using hb) e
  done := fun s Q E st hQ => by
    refine setit_open st.1 st.2 hf ?_
    show wpAny _ _ (setNext a (sl items.length) items.length ep >>= _) _ _ s
    refine wpAny_bind (hnx _ s _ _ st.2 ?_)
    rw [h2]
    obtain ⟨o, ho, hc, hd⟩ := id st.1
    refine wpAny_bind (wpAny_setField ho hd (by simp) ?_)
    refine stop_raise (A := A.in1) hh fun h' e hk he => ⟨he, hQ h' s.toks fun b ob hb eb => hk b ob ((Heap.SameBut.update ..).extBut b ob (by simpa using hb) eb)⟩
  self := fun _ _ _ _ st hQ => setit_self st.1 hQ
theorem walks_drawn {it a T : Addr} (hne : a ≠ it) (hTi : T ≠ it) (hh : A.handled = none) {es : Array (Int × Value)} {ep : Nat} {t : SetTable} (hf : t.fits es.size = true) (places : List Nat) (items : List Value) (hl : items.length = places.length)
    (hp : ∀ i (hi : i < places.length), (es[places[i]]?).map (·.2) = items[i]?) :
    Walks prog w A it [it, a, T] [it] items.length (fun i v => items[i]? = some v) (fun i h => IsSetIt h it (.ref T) i a es.size ep ∧ h.get? a = some (setObj es ep t) ∧ h.IsTuple T (places.map fun (p : Nat) => rawInt p).toArray) where
  sub := fun b hb => by simp at hb; simp [hb]
  frame := fun _ _ _ st hk => ⟨st.1.at fun o e => hk it (by simp) o e, hk a (by simp) _ st.2.1, st.2.2.at fun o e => hk T (by simp) o e⟩
  item := fun i s Q E hi st hQ => by
    refine setit_open st.1 st.2.1 hf ?_
    obtain ⟨ot, hot, _, nt, hdt⟩ := id st.2.2
    show wpAny _ _ (seqItems? (.ref T) >>= _) _ _ s
    refine wpAny_bind (wpAny_seqItems hot hdt ?_)
    have hi' : i < places.length := hl ▸ hi
    have hpl : (places.map fun (p : Nat) => rawInt p).toArray[i]? = some (rawInt (places[i] : Nat)) := by simp [hi']
    have hq := hp i hi'
    rw [List.getElem?_eq_getElem hi] at hq
    obtain ⟨e, he, hev⟩ := Option.map_eq_some_iff.mp hq
    show wpAny _ _ (match (places.map fun (p : Nat) => rawInt p).toArray[i]? with | some (.int place _) => _ | some _ => _ | none => _) _ _ s
    rw [hpl]
    show wpAny _ _ (setNextDrawn a places[i] ep >>= _) _ _ s
    refine wpAny_bind ?_
    unfold setNextDrawn
    refine wpAny_bind (wpAny_setState_of st.2.1 rfl hf ?_)
    dsimp only
    show wpAny _ _ (if (ep != ep) = true then _ else _) _ _ s
    rw [if_neg (by simp)]
    show wpAny _ _ (match es[places[i]]? with | some (_, x) => _ | _ => _) _ _ s
    rw [he]
    obtain ⟨h1, x⟩ := e
    refine wpAny_pure ?_
    obtain ⟨o, ho, hc, hd⟩ := id st.1
    refine wpAny_bind (wpAny_setField ho hd (by simp) (wpAny_pure ?_))
    have hsb : ∀ b ob, b ≠ it → s.heap.get? b = some ob → (s.heap.update it (Obj.mapFields (·.setIfInBounds 1 (rawInt ((i : Int) + 1))))).get? b = some ob := fun b ob hb e => (Heap.SameBut.update ..).extBut b ob hb e
    exact hQ _ _ s.toks ((List.getElem?_eq_getElem hi).trans (congrArg some hev.symm)) ⟨st.1.put1 _, hsb a _ hne st.2.1, st.2.2.extBut (fun b ob hb e => hsb b ob hb e) hTi⟩ fun b ob hb e => hsb b ob (by simpa using hb) e
  done := fun s Q E st hQ => by
    refine setit_open st.1 st.2.1 hf ?_
    obtain ⟨ot, hot, _, nt, hdt⟩ := id st.2.2
    show wpAny _ _ (seqItems? (.ref T) >>= _) _ _ s
    refine wpAny_bind (wpAny_seqItems hot hdt ?_)
    have hpl : (places.map fun (p : Nat) => rawInt p).toArray[items.length]? = none := by simp [hl]
    show wpAny _ _ (match (places.map fun (p : Nat) => rawInt p).toArray[items.length]? with | some (.int place _) => _ | some _ => _ | none => _) _ _ s
    rw [hpl]
    obtain ⟨o, ho, hc, hd⟩ := id st.1
    refine wpAny_bind (wpAny_setField ho hd (by simp) ?_)
    have ho1 : (s.heap.update it (Obj.mapFields (·.setIfInBounds 0 (rawInt 0)))).get? it = some (Obj.mapFields (·.setIfInBounds 0 (rawInt 0)) o) := Heap.get?_update_self _ ho (Obj.isFreed_of_fields (Obj.data_mapFields hd _))
    refine wpAny_bind (wpAny_setField ho1 (Obj.data_mapFields hd _) (by simp) ?_)
    refine stop_raise (A := A.in1) hh fun h' e hk he => ⟨he, hQ h' s.toks fun b ob hb eb => hk b ob (((Heap.SameBut.update ..).trans (Heap.SameBut.update ..)).extBut b ob (by simpa using hb) eb)⟩
  self := fun _ _ _ _ st hQ => setit_self st.1 hQ
end
theorem w80 : True := by
  w_top off
  trivial
theorem below_none (j : Nat) : SetTable.below #[] j = 0 := rfl
theorem below_one (p j : Nat) : SetTable.below #[p] j = if p < j then 1 else 0 := by
  by_cases h : p < j
  · simp [SetTable.below, SetTable.below.go, h]
  · simp [SetTable.below, SetTable.below.go, h]
section
variable {prog : Program} {w : World} {A : Around} {E : Value → Shared → Prop} {s : Shared}
theorem two_arr {α β : Type} {el : List α} {pl : List β} (h1 : el.length ≤ 1) (h2 : pl.length = el.length) : (el = [] ∧ pl = []) ∨ ∃ e p, el = [e] ∧ pl = [p] := by
  cases el with
  | nil => exact .inl ⟨rfl, List.eq_nil_of_length_eq_zero h2⟩
  | cons e r =>
    obtain rfl := List.eq_nil_of_length_eq_zero (Nat.le_zero.mp (Nat.le_of_succ_le_succ h1))
    obtain ⟨p, rfl⟩ := List.length_eq_one_iff.mp h2
    exact .inr ⟨e, p, rfl, rfl⟩
theorem iter_set {a : Addr} {es : Array (Int × Value)} {ep : Nat} {t : SetTable} {Q : Value → Shared → Prop} (hh : A.handled = none) (ho : s.heap.get? a = some (setObj es ep t)) (hf : t.fits es.size = true) (hl : t.led = Led w) (hpl : es.size ≠ 0 → t.plain = false) (hsz : es.size ≤ 1000)
    (h : ∀ (it : Addr) (fp : List Addr) (St : Nat → Heap → Prop) (h' : Heap) (d : Drawn) (items : List Value), (∀ b o, s.heap.get? b = some o → h'.get? b = some o) → s.heap.objs.size ≤ it → (∀ b ∈ fp, b = a ∨ s.heap.objs.size ≤ b) →
      Walks prog w A it fp [it] items.length (fun i v => items[i]? = some v) St → St 0 h' → items.Perm (es.toList.map (·.2)) → Q (.ref it) { s with heap := h', drawn := d }) :
    wpAny (model prog w) A (pyIter (.ref a)) Q E s := by
  have hT : s.TypeIs (.ref a) "set" := ⟨_, ho, rfl⟩
  have hlt : a < s.heap.objs.size := Heap.lt_size ho
  refine wpAny_pyIter_slot hT PySem.F.slot_set_iter (wpAny_call_entry PySem.F.slot_set_iter hT entry_set_iter ?_ (PySem.F.args_set_iter_1 _))
  show wpAny _ _ (Builtin.Frozenset.sizeOf a >>= _) _ _ s
  unfold Builtin.Frozenset.sizeOf
  refine wpAny_bind (wpAny_bind (wpAny_setEntries_of ho rfl hf (wpAny_pure ?_)))
  show wpAny _ _ (setDrawn a >>= _) _ _ s
  refine wpAny_bind ?_
  unfold setDrawn setsByText
  refine wpAny_bind (wpAny_setState_of ho rfl hf ?_)
  dsimp only
  refine wpAny_bind (wpAny_bind (wpAny_askSetting (wpAny_pure ?_)))
  refine wpAny_pure ?_
  refine wpAny_ite_split (fun hd => ?_) (fun hd => ?_)
  · refine wpAny_bind (wpAny_drawOrder es.size (List.range es.size) s (by simp) fun ys d hp => ?_)
    refine wpAny_bind (wpAny_newTuple ?_ (by rw [List.length_map, hp.length_eq, List.length_range, sizeLine_eq]; omega))
    refine wpAny_bind (wpAny_setEpoch_of (Heap.get?_push_of_some _ ho) rfl hf ?_)
    refine wpAny_bind (wpAny_newObj_type (wpAny_pure ⟨_, rfl, "set_iterator", _, ⟨_, Heap.get?_push_size _ rfl, rfl⟩, slot_setit_next.lookup, ?_⟩))
    have hsz1 : (s.heap.push { cls := .type "tuple", data := .seq (ys.map fun (p : Nat) => rawInt p).toArray }).objs.size = s.heap.objs.size + 1 := Heap.size_push ..
    have hin : ∀ p ∈ ys, p < es.size := fun p hm => List.mem_range.mp (hp.mem_iff.mp hm)
    have hit : IsSetIt ((s.heap.push { cls := .type "tuple", data := .seq (ys.map fun (p : Nat) => rawInt p).toArray }).push { cls := .type "set_iterator", data := .fields #[.ref s.heap.objs.size, rawInt 0, .ref a, rawInt es.size, rawInt ep] }) (s.heap.push { cls := .type "tuple", data := .seq (ys.map fun (p : Nat) => rawInt p).toArray }).objs.size (.ref s.heap.objs.size) 0 a es.size ep := ⟨_, Heap.get?_push_size _ rfl, rfl, rfl⟩
    have W := walks_drawn (prog := prog) (w := w) (A := A) (it := (s.heap.push { cls := .type "tuple", data := .seq (ys.map fun (p : Nat) => rawInt p).toArray }).objs.size) (T := s.heap.objs.size) (a := a) (ep := ep) (by rw [hsz1]; exact Nat.ne_of_lt (Nat.lt_succ_of_lt hlt)) (by rw [hsz1]; exact Nat.ne_of_lt (Nat.lt_succ_self _)) hh hf ys (ys.map fun p => ((es[p]?).map (·.2)).getD .none) (by simp) (fun i hi => by
      have hlt2 := hin _ (List.getElem_mem hi)
      rw [List.getElem?_map, List.getElem?_eq_getElem hi]
      simp [hlt2])
    refine h _ _ _ _ d _ (fun b o e => Heap.get?_push_of_some _ (Heap.get?_push_of_some _ e)) ?_ ?_ W ⟨hit, Heap.get?_push_of_some _ (Heap.get?_push_of_some _ ho), ⟨_, Heap.get?_push_of_some _ (Heap.get?_push_size _ rfl), rfl, _, rfl⟩⟩ ?_
    · rw [hsz1]; exact Nat.le_succ _
    · intro b hb
      simp only [List.mem_cons, List.not_mem_nil, or_false] at hb
      rcases hb with rfl | rfl | rfl
      · right; rw [hsz1]; exact Nat.le_succ _
      · left; rfl
      · right; exact Nat.le_refl _
    · refine (hp.map _).trans ?_
      have e : (List.range es.size).map (fun p => ((es[p]?).map (·.2)).getD Value.none) = es.toList.map (·.2) := by
        apply List.ext_getElem
        · simp
        · intro i h1 h2
          simp at h1 h2
          simp [h1]
      rw [e]
  · refine wpAny_bind (wpAny_pure ?_)
    refine wpAny_bind (wpAny_setEpoch_of ho rfl hf ?_)
    refine wpAny_bind (wpAny_newObj_type (wpAny_pure ⟨_, rfl, "set_iterator", _, ⟨_, Heap.get?_push_size _ rfl, rfl⟩, slot_setit_next.lookup, ?_⟩))
    have hne : a ≠ s.heap.objs.size := Nat.ne_of_lt hlt
    have fin : ∀ (items : List Value) (sl : Nat → Nat) (nx : Nat → Nat → Option (Value × Nat)), sl 0 = 0 →
        (∀ (i : Nat) (s : Shared) (Q : Option (Value × Nat) → Shared → Prop) (E : Value → Shared → Prop), s.heap.get? a = some (setObj es ep t) → Q (nx (sl i) i) s → wpAny (model prog w) A.in1 (setNext a (sl i) i ep) Q E s) →
        (∀ i (hi : i < items.length), nx (sl i) i = some (items[i], sl (i + 1))) → nx (sl items.length) items.length = none → items.Perm (es.toList.map (·.2)) →
        Q (.ref s.heap.objs.size) { s with heap := s.heap.push { cls := .type "set_iterator", data := .fields #[rawInt 0, rawInt 0, .ref a, rawInt es.size, rawInt ep] } } := by
      intro items sl nx h0 hnx h1 h2 hp
      refine h _ _ _ _ s.drawn items (fun b o e => Heap.get?_push_of_some _ e) (Nat.le_refl _) ?_ (walks_slots hne hh hf items sl nx hnx h1 h2) ⟨⟨_, Heap.get?_push_size _ rfl, rfl, ?_⟩, Heap.get?_push_of_some _ ho⟩ hp
      · intro b hb
        simp only [List.mem_cons, List.not_mem_nil, or_false] at hb
        rcases hb with rfl | rfl
        · right; exact Nat.le_refl _
        · left; rfl
      · rw [h0]; rfl
    cases hft : w.params.followText "set-order" with
    | true =>
      refine fin ((pickOrder (w.params.setOrder a ep) es).toList.map (·.2)) (fun _ => 0) (fun sl i => ((pickOrder (w.params.setOrder a ep) es)[i]?).map fun e => (e.2, sl)) rfl ?_ ?_ ?_ ((pick_perm _ _).map _)
      · intro i s Q E hs hq
        unfold setNext setsByText
        refine wpAny_bind (wpAny_setState_of hs rfl hf ?_)
        dsimp only
        refine wpAny_bind (wpAny_bind (wpAny_askSetting (wpAny_pure ?_)))
        show wpAny _ _ (if w.params.followText "set-order" = true then _ else _) _ _ _
        rw [if_pos hft]
        show wpAny _ _ (if (ep != ep) = true then _ else _) _ _ s
        rw [if_neg (by simp)]
        show wpAny _ _ (setWalk a >>= _) _ _ s
        refine wpAny_bind ?_
        unfold setWalk setsByText
        refine wpAny_bind (wpAny_setState_of hs rfl hf ?_)
        dsimp only
        refine wpAny_bind (wpAny_bind (wpAny_askSetting (wpAny_pure ?_)))
        show wpAny _ _ (if w.params.followText "set-order" = true then _ else _) _ _ _
        rw [if_pos hft]
        refine wpAny_bind (wpAny_askSetting (wpAny_pure ?_))
        exact wpAny_pure hq
      · intro i hi
        simp only [List.length_map, Array.length_toList] at hi
        simp [hi]
      · simp
    | false =>
      have hled : t.led = true := by rw [hl]; unfold Led; rw [hft]; rfl
      have hs1 : es.size ≤ 1 := by
        by_cases hq : es.size ≤ 1
        · exact hq
        · refine absurd ?_ hd
          show (!w.params.followText "set-order" && (!t.plain && decide (es.size > 1))) = true
          rw [hft, hpl fun h0 => hq (h0 ▸ Nat.zero_le 1)]
          simp; first | exact Nat.lt_of_not_le hq | omega
      have hnext : ∀ (i sl : Nat) (s : Shared) (Q : Option (Value × Nat) → Shared → Prop) (E : Value → Shared → Prop), s.heap.get? a = some (setObj es ep t) → Q (match es[SetTable.below t.place sl]?, t.place[SetTable.below t.place sl]? with | some (_, x), some j => some (x, j + 1) | _, _ => none) s → wpAny (model prog w) A.in1 (setNext a sl i ep) Q E s := by
        intro i sl s Q E hs hq
        unfold setNext setsByText
        refine wpAny_bind (wpAny_setState_of hs rfl hf ?_)
        dsimp only
        refine wpAny_bind (wpAny_bind (wpAny_askSetting (wpAny_pure ?_)))
        show wpAny _ _ (if w.params.followText "set-order" = true then _ else _) _ _ _
        rw [if_neg (by rw [hft]; exact Bool.false_ne_true)]
        refine wpAny_ite_split (fun hc => ?_) (fun _ => ?_)
        · have hc' : (!t.plain && decide (es.size > 1)) = true := hc
          rw [Bool.and_eq_true, decide_eq_true_eq] at hc'
          exact absurd hc'.2 (Nat.not_lt.mpr hs1)
        · refine wpAny_bind ?_
          show wpAny _ _ (if (!t.led && !es.isEmpty) = true then _ else _) _ _ _
          rw [hled]
          exact wpAny_pure (wpAny_pure hq)
      obtain ⟨place, hplace⟩ : ∃ place, t.place = place := ⟨_, rfl⟩
      have hpsz : place.size = es.size := by
        simp only [SetTable.fits, Bool.and_eq_true, beq_iff_eq] at hf
        rw [← hplace]; exact hf.1
      rw [hplace] at hnext
      have hs1' : es.toList.length ≤ 1 := hs1
      have hpsz' : place.toList.length = es.toList.length := hpsz
      clear hs1 hpsz
      obtain ⟨el⟩ := es
      obtain ⟨pl⟩ := place
      rcases two_arr (el := el) (pl := pl) hs1' hpsz' with ⟨rfl, rfl⟩ | ⟨e, p, rfl, rfl⟩
      · refine fin [] (fun _ => 0) (fun _ _ => none) rfl (fun i s Q E hs hq => hnext i 0 s Q E hs (by rw [below_none]; exact hq)) (fun i hi => absurd hi (Nat.not_lt_zero _)) rfl (List.Perm.refl _)
      · refine fin [e.2] (fun i => if i = 0 then 0 else p + 1) (fun sl _ => if p < sl then none else some (e.2, p + 1)) rfl (fun i s Q E hs hq => hnext i _ s Q E hs ?_) (fun i hi => ?_) (by simp) (List.Perm.refl _)
        · rw [below_one]
          by_cases hc : p < if i = 0 then 0 else p + 1
          · rw [if_pos hc] at hq ⊢; exact hq
          · rw [if_neg hc] at hq ⊢; exact hq
        · obtain rfl : i = 0 := by simpa using hi
          simp
theorem hint_set {r : Addr} {Q : Bool → Shared → Prop} (hT : s.TypeIs (.ref r) "set") (h : Q false s) : wpAny (model prog w) A (Builtin.List.listLengthHint (.ref r)) Q E s := by
  unfold Builtin.List.listLengthHint
  refine wpAny_bind (wpAny_specialOf hT PySem.F.slot_set_len.lookup ?_)
  generalize hid : ("set.__len__" : String) = id0
  wp_delta
  rw [show splitId id0 = some ("set", "__len__") from by subst hid; decide +kernel]
  subst hid
  refine wpAny_bind (wpAny_isInstance (T := "set") (b := true) hT sub_set_self ?_)
  refine wpAny_ite_split (fun hab => absurd hab (by decide)) (fun _ => ?_)
  refine wpAny_ite_split (fun _ => ?_) (fun hab => absurd (by decide +kernel) hab)
  refine wpAny_bind (wpAny_typeOf hT ?_)
  exact wpAny_pure h
theorem items_eq {items : List Value} {acc : Array Value} (h : ItemsOf (fun i v => items[i]? = some v) acc items.length) : acc.toList = items := by
  apply List.ext_getElem?
  intro i
  cases q : acc.toList[i]? with
  | some v => exact (h.2 i v (by rw [← Array.getElem?_toList]; exact q)).symm
  | none =>
    rw [List.getElem?_eq_none_iff, Array.length_toList, h.1] at q
    rw [List.getElem?_eq_none_iff.mpr q]
theorem collect_set {a : Addr} {es : Array (Int × Value)} {ep : Nat} {t : SetTable} {R : List Value → Shared → Prop} (hh : A.handled = none) (ho : s.heap.get? a = some (setObj es ep t)) (hf : t.fits es.size = true) (hl : t.led = Led w) (hpl : es.size ≠ 0 → t.plain = false) (hsz : es.size ≤ 1000)
    (h : ∀ (h' : Heap) (tk : Nat) (d : Drawn) (vs : List Value), (∀ b o, s.heap.get? b = some o → h'.get? b = some o) → s.heap.objs.size < h'.objs.size → vs.Perm (es.toList.map (·.2)) → R vs { s with heap := h', toks := tk, drawn := d }) :
    wpAny (model prog w) A (collect (.ref a)) R E s := by
  have hlt : a < s.heap.objs.size := Heap.lt_size ho
  unfold collect
  refine wpAny_bind (wpAny_runValue (codeAny_builtin entry_proto_collect' ?_))
  rw [Around.under_plainId PySem.F.plain_proto_collect _]
  show wpAny _ A.in1 (newList [] >>= fun l => again (.builtin "list.__iadd__" ⟨[l, .ref a], []⟩)) _ _ s
  refine wpAny_bind (wpAny_newObj_type ?_)
  refine wpAny_pure ⟨plainId_quiet PySem.F.plain_list_iadd _, codeAny_builtin entry_list_iadd' ?_⟩
  rw [Around.under_plainId PySem.F.plain_list_iadd _]
  have hS₁ : (s.heap.push { cls := .type "list", data := .seq ([] : List Value).toArray }).get? s.heap.objs.size = some { cls := .type "list", data := .seq #[] } := Heap.get?_push_size _ rfl
  have ho₁ : (s.heap.push { cls := .type "list", data := .seq ([] : List Value).toArray }).get? a = some (setObj es ep t) := Heap.get?_push_of_some _ ho
  have hsz₁ : (s.heap.push { cls := .type "list", data := .seq ([] : List Value).toArray }).objs.size = s.heap.objs.size + 1 := Heap.size_push ..
  have hup : ∀ b o, s.heap.get? b = some o → (s.heap.push { cls := .type "list", data := .seq ([] : List Value).toArray }).get? b = some o := fun b o e => Heap.get?_push_of_some _ e
  show wpAny _ A.in1 (Builtin.List.listExtendWith (.ref s.heap.objs.size) (.ref a) (.ref s.heap.objs.size)) _ _ _
  generalize s.heap.push { cls := .type "list", data := .seq ([] : List Value).toArray } = H₁ at hS₁ ho₁ hsz₁ hup ⊢
  have hSa : s.heap.objs.size ≠ a := Nat.ne_of_gt hlt
  let RR : Result → Shared → Prop := fun q s' => ∃ (h' : Heap) (tk : Nat) (d : Drawn) (acc : Array Value) (c : Nat), q = .ok (.ret (.ref s.heap.objs.size)) ∧ s' = { s with heap := h', toks := tk, drawn := d } ∧
    (∀ b o, s.heap.get? b = some o → h'.get? b = some o) ∧ h'.get? s.heap.objs.size = some { cls := .type "list", dict := none, data := .seq acc c, slots := #[] } ∧ acc.toList.Perm (es.toList.map (·.2))
  have key : wpAny (model prog w) A.in1 (Builtin.List.listExtendWith (.ref s.heap.objs.size) (.ref a) (.ref s.heap.objs.size))
      (fun fin s' => match fin with | .done f => RR (.ok f) s' | .again c' => c'.quiet = true ∧ codeAny (model prog w) A c' RR s') (fun e s' => RR (.error e) s') { s with heap := H₁ } := by
    unfold Builtin.List.listExtendWith
    refine wpAny_bind (wpAny_typeOf (T := "set") ⟨_, ho₁, rfl⟩ ?_)
    have h1 : Builtin.List.listSameRef (.ref s.heap.objs.size) (.ref a) = false := by simp [Builtin.List.listSameRef, hSa]
    have h2 : (Value.type "set" == Value.type "list") = false := by decide
    have h3 : (Value.type "set" == Value.type "tuple") = false := by decide
    simp only [h1, h2, h3, Bool.or_false, Bool.false_eq_true, if_false]
    refine wpAny_bind (iter_set (s := { s with heap := H₁ }) (A := A.in1) hh ho₁ hf hl hpl hsz fun it fp St h₂ d items hk₂ hit hfp W st hp => ?_)
    have hit' : s.heap.objs.size + 1 ≤ it := hsz₁ ▸ hit
    have hSf : s.heap.objs.size ∉ fp := fun hm => by
      rcases hfp _ hm with e | e
      · exact hSa e
      · have e' : H₁.objs.size ≤ s.heap.objs.size := e
        rw [hsz₁] at e'; exact Nat.lt_irrefl _ e'
    have hlen : items.length ≤ sizeLine := by
      rw [hp.length_eq, List.length_map, Array.length_toList, sizeLine_eq]; omega
    have loop : ∀ (h₃ : Heap) (c₁ : Nat), St 0 h₃ → (∀ b o, s.heap.get? b = some o → h₃.get? b = some o) → h₃.get? s.heap.objs.size = some { cls := .type "list", data := .seq #[] c₁ } →
        codeAny (model prog w) A (.builtin "list.extend.loop" ⟨[.ref s.heap.objs.size, .ref it, .ref s.heap.objs.size], []⟩) RR { s with heap := h₃, drawn := d } := by
      intro h₃ c₁ hst hk hS
      refine codeAny_extend_loopS W.toS hlen s.heap.objs.size hSf _ items.length 0 _ #[] c₁ rfl (Nat.zero_le _) hst hS (ItemsOf.nil _) fun s' acc' c' hm hS' hacc => ?_
      refine ⟨s'.heap, s'.toks, d, acc', c', rfl, ?_, fun b o e => ?_, hS', by rw [items_eq hacc]; exact hp⟩
      · rw [Moved.eq_with hm]
      · refine hm.heap b o (fun hmem => ?_) (hk b o e)
        have hb := Heap.lt_size e
        rcases List.mem_cons.mp hmem with e' | hmem
        · exact Nat.lt_irrefl _ (e' ▸ hb)
        · rw [List.mem_singleton.mp hmem] at hb
          exact absurd hb (Nat.not_lt.mpr (Nat.le_of_succ_le hit'))
    have hS₂ := hk₂ _ _ hS₁
    refine wpAny_bind (wpAny_holding (hint_set ⟨_, hk₂ _ _ ho₁, rfl⟩ ?_))
    refine wpAny_ite_split (fun _ => ?_) (fun _ => wpAny_pure ⟨plainId_quiet PySem.F.plain_extend_loop _, loop _ _ st (fun b o e => hk₂ _ _ (hup b o e)) hS₂⟩)
    refine wpAny_bind (wpAny_rule ?_)
    refine wpAny_bind ?_
    show wpAny _ _ (updateSeq s.heap.objs.size (·.push .none) >>= fun _ => updateSeq s.heap.objs.size (·.pop)) _ _ _
    refine wpAny_bind (wpAny_updateSeq hS₂ rfl ?_)
    have hS₃ := Heap.get?_update_self (Obj.mapSeq (·.push Value.none)) hS₂ rfl
    refine wpAny_updateSeq (hz := by seq_fits) hS₃ rfl ?_
    have hS₄ := Heap.get?_update_self (Obj.mapSeq (·.pop)) hS₃ rfl
    have oth : ∀ b o, b ≠ s.heap.objs.size → h₂.get? b = some o → ((h₂.update s.heap.objs.size (Obj.mapSeq (·.push Value.none))).update s.heap.objs.size (Obj.mapSeq (·.pop))).get? b = some o :=
      fun b o hb e => (Heap.get?_update_other _ _ (Ne.symm hb)).trans ((Heap.get?_update_other _ _ (Ne.symm hb)).trans e)
    refine wpAny_pure ⟨plainId_quiet PySem.F.plain_extend_loop _, loop _ _ (W.frame 0 _ _ st fun b hb o e => oth b o (fun q => hSf (q ▸ hb)) e) (fun b o e => oth b o (Nat.ne_of_lt (Heap.lt_size e)) (hk₂ _ _ (hup b o e))) hS₄⟩
  refine wpAny_mono key (fun fin s' x => ?_) fun e s' x => ?_
  · cases fin with
    | done f =>
      obtain ⟨h', tk, d, acc, c, e, rfl, hk, hS', hacc⟩ := x
      cases e
      show wpAny _ A (load s.heap.objs.size >>= _) _ _ _
      refine wpAny_bind (wpAny_load hS' ?_)
      exact wpAny_pure (h h' tk d _ hk (Heap.lt_size hS') hacc)
    | again c₁ =>
      refine ⟨x.1, codeAny_mono x.2 fun q s₂ y => ?_⟩
      obtain ⟨h', tk, d, acc, c, rfl, rfl, hk, hS', hacc⟩ := y
      show wpAny _ A (load s.heap.objs.size >>= _) _ _ _
      refine wpAny_bind (wpAny_load hS' ?_)
      exact wpAny_pure (h h' tk d _ hk (Heap.lt_size hS') hacc)
  · obtain ⟨_, _, _, _, _, e', _⟩ := x
    cases e'
theorem strsAre_of : ∀ (vs : List Value), (∀ v ∈ vs, ∃ x t, v = .str x t) → ∃ ss, StrsAre vs ss
  | [], _ => ⟨[], .nil⟩
  | v :: r, h => by
    obtain ⟨x, t, rfl⟩ := h v (.head _)
    obtain ⟨ss, hs⟩ := strsAre_of r fun u hu => h u (.tail _ hu)
    exact ⟨x :: ss, .cons x t hs⟩
theorem strs_mem {vs : List Value} {ss : List Str} (h : StrsAre vs ss) (x : Str) : x ∈ ss ↔ ∃ v ∈ vs, Value.isStrOf x v = true := by
  induction h with
  | nil => simp
  | cons y t r ih =>
    rw [List.mem_cons, ih]
    constructor
    · rintro (rfl | ⟨v, hv, q⟩)
      · exact ⟨_, .head _, by simp [Value.isStrOf]⟩
      · exact ⟨v, .tail _ hv, q⟩
    · rintro ⟨v, hv, q⟩
      rcases List.mem_cons.mp hv with rfl | hv
      · exact .inl (Value.isStrOf_inj _ _ _ q (by simp [Value.isStrOf]))
      · exact .inr ⟨v, hv, q⟩
theorem sorted_N_set {h₀ : Heap} {L a : Addr} {m : Str → Option Value} {news : List (Addr × Obj)} {o : Obj} {S : Str → Prop} {n : Nat} {Q : Value → Shared → Prop} (hh : A.handled = none)
    (F : Fr h₀ L s.heap m) (N : News h₀ L s.heap news) (hm : (a, o) ∈ news) (hS : StrSet prog w o S n) (hn : n < 64)
    (h : ∀ (D : Addr) (h' : Heap) (tk : Nat) (d : Drawn) (vs' : List Value) (ss' : List Str) (e : Nat), Fr h₀ L h' m → News h₀ L h' ((D, listOf vs'.toArray e) :: news) → (∀ p ∈ news, p.1 < D) → StrsAre vs' ss' → (∀ x, x ∈ ss' ↔ S x) → vs'.length ≤ n →
      Q (.ref D) { s with heap := h', toks := tk, drawn := d }) :
    wpAny (model prog w) A (call (.builtin "sorted") [.ref a]) Q E s := by
  obtain ⟨es, ep, t, rfl, hel, hmem, hsz, hf, hl, hp⟩ := hS
  refine Calls.call_function_entry kind_sorted plain_sorted entry_sorted (args_sorted1 _) ?_
  unfold Builtin.«sorted»
  refine wpAny_bind (m := checkCount "sorted" 1 1 _) (wpAny_pure ?_)
  refine wpAny_bind (collect_set (A := A.in1) hh (N _ hm).1 hf hl hp (by omega) fun h₁ tk d vs hk hle0 hperm => ?_)
  have hlen : vs.length ≤ n := by rw [hperm.length_eq, List.length_map, Array.length_toList]; exact hsz
  have hstr : ∀ v ∈ vs, ∃ x t, v = .str x t := fun v hv => by
    obtain ⟨e, he, rfl⟩ := List.mem_map.mp (hperm.mem_iff.mp hv)
    obtain ⟨⟨k, hk, _⟩, _⟩ := hel e he
    obtain ⟨t, ht⟩ := Value.isStrOf_shape hk
    exact ⟨k, t, ht⟩
  obtain ⟨ss, hss⟩ := strsAre_of vs hstr
  refine wpAny_bind (wpAny_newList ?_ (by rw [sizeLine_eq]; omega))
  have hoL : (h₁.push (seqObj "list" vs.toArray 0)).get? h₁.objs.size = some (seqObj "list" vs.toArray 0) := Heap.get?_push_size _ rfl
  refine wpAny_bind (wpAny_holding (wpAny_call_entry slot_list_sort ⟨_, hoL, rfl⟩ entry_list_sort (list_sort_treeK (s := { s with heap := h₁.push (seqObj "list" vs.toArray 0), toks := tk, drawn := d }) strKind_oneLt hoL hss.keysOf (fun v₁ v₂ rest e => keyKind_strs (by rw [← e]; exact hss)) (by omega) fun st' a1 a2 => ⟨_, rfl, ?_⟩) (args_list_sort _)))
  obtain ⟨ss', b1, b2, _⟩ := sorted_out_str hss a1 a2
  obtain ⟨e, he⟩ := sortedHeap_at (vs := vs) (out := (arrOf st').map (·.2)) hoL
  have old : ∀ b o, s.heap.get? b = some o → (sortedHeap (h₁.push (seqObj "list" vs.toArray 0)) h₁.objs.size vs ((arrOf st').map (·.2))).get? b = some o := fun b o eb => by
    have e1 := hk b o eb
    have l1 := Heap.lt_size e1
    rw [sortedHeap_old (Nat.ne_of_lt l1) (by rw [size_push']; exact Nat.lt_succ_of_lt l1)]
    exact Heap.get?_push_of_some _ e1
  have hle : s.heap.objs.size ≤ h₁.objs.size := Nat.le_of_lt hle0
  refine wpAny_pure ⟨_, rfl, ?_⟩
  refine h _ _ tk d ((arrOf st').map (·.2)).toList ss' e (F.kept old) (N.kept_cons F old hle (by rw [Array.toArray_toList]; exact he)) (fun p hp => Nat.lt_of_lt_of_le (Heap.lt_size (N p hp).1) hle) b1 (fun x => ?_) ?_
  · rw [b2.mem_iff, strs_mem hss, hmem]
    constructor
    · rintro ⟨v, hv, q⟩
      obtain ⟨e, he, rfl⟩ := List.mem_map.mp (hperm.mem_iff.mp hv)
      exact ⟨e, he, q⟩
    · rintro ⟨e, he, q⟩
      exact ⟨e.2, hperm.mem_iff.mpr (List.mem_map_of_mem he), q⟩
  · rw [StrsAre.length b1, b2.length_eq, ← StrsAre.length hss]; exact hlen
end
section
variable {prog : Program} {w : World} {A : Around} {E : Value → Shared → Prop} {s : Shared} {h₀ : Heap} {L : Addr} {m : Str → Option Value} {env : Env}
def RestPT (prog : Program) (w : World) (A : Around) (h₀ : Heap) (L : Addr) (m : Str → Option Value) (env : Env) (c elt : PySem.Expr) (x x₂ : Str) (scope : Scope) (cl : List (Str × Addr)) (s : Shared) (S : List (Addr × Obj) → Prop) (P : Nat → Value → Prop)
    (Fin : List Value → List (Addr × Obj) → Prop) : Nat → Nat → List Value → List (Addr × Obj) → Prop
  | 0, _, ys, news => Fin ys news
  | k + 1, i, ys, news => ∀ v, P i v → ∃ (t : Addr) (ot : Obj) (v₁ v₂ : Value) (nt : Nat), v = .ref t ∧ (t, ot) ∈ news ∧ ot.cls = .type "tuple" ∧ ot.data = .seq #[v₁, v₂] nt ∧
      ∀ I oI C oC D m₂ h tk (E' : Value → Shared → Prop), LCg.NsObj oC m₂ → m₂ x = some v₁ → m₂ x₂ = some v₂ → Fr h₀ L h m → News h₀ L h ((I, oI) :: (C, oC) :: (D, LCg.lst ys) :: news) → LCg.Off3 I C D news → ((@Ne Nat I C) ∧ (@Ne Nat I D) ∧ (@Ne Nat C D)) →
      wpAny (model prog w) A (isTrue c (compEnvC scope cl C env) (eval c (compEnvC scope cl C env))) (fun ok s₃ => if ok = true then
        wpAny (model prog w) A (eval elt (compEnvC scope cl C env)) (LCg.CompEnd h₀ L m { s with heap := h, toks := tk } I oI C oC D (LCg.lst ys) S (fun y news' => RestPT prog w A h₀ L m env c elt x x₂ scope cl s S P Fin k (i + 1) (ys ++ [y]) news')) E' s₃
        else LCg.CompEnd h₀ L m { s with heap := h, toks := tk } I oI C oC D (LCg.lst ys) S (fun _ news' => RestPT prog w A h₀ L m env c elt x x₂ scope cl s S P Fin k (i + 1) ys news') .none s₃) E' { s with heap := h, toks := tk }
theorem block_PT {c elt iter : PySem.Expr} {x x₂ : Str} {px px₂ tp : Pos} {tk} {scope : Scope} {cl : List (Str × Addr)} {pos : Pos} {s₂ : Shared} {I : Addr} {fp : List Addr} {n : Nat} {P : Nat → Value → Prop} {St : Nat → Heap → Prop} {S : List (Addr × Obj) → Prop} {news : List (Addr × Obj)}
    {Fin : List Value → List (Addr × Obj) → Prop} {RR : Value → Addr → Result → Shared → Prop}
    (W : Walks prog w A I fp [I] n P St) (hsz : n ≤ sizeLine) (hIo : ∀ i h, St i h → ∃ o, h.get? I = some o)
    (hSt : ∀ i h h' o nw, St i h → h.get? I = some o → h'.get? I = some o → (∀ b o, h₀.get? b = some o → h'.get? b = some o) → News h₀ L h' nw → S nw → St i h')
    (hcell : ∀ y ∈ scope.names, y.2 ≠ .cell) (hkind : scope.kind = .function) (hx : scope.names.lookup x = some .local) (hx₂ : scope.names.lookup x₂ = some .local) (hxx : x ≠ x₂) (hh : A.handled = none) (hLI : ∀ i h, St i h → ∃ l j, h.IsListIter I l j) (hst : St 0 s₂.heap) (hfp : ∀ b ∈ fp, b < s₂.heap.objs.size)
    (F : Fr h₀ L s₂.heap m) (N : News h₀ L s₂.heap news) (hIL : L ≠ I) (hI₀ : h₀.get? I = none) (off : ∀ p ∈ news, p.1 ≠ I) (hS : S news)
    (R : RestPT prog w A h₀ L m env c elt x x₂ scope cl s₂ S P Fin n 0 [] news)
    (hRR : ∀ D C h tk m' ys news', Fr h₀ L h m → News h₀ L h ((D, LCg.lst ys) :: news') → LCg.Off1 D news' → h.Ns C m' → h₀.get? C = none → h₀.get? D = none → C ≠ L → D ≠ L → C ≠ D → (∀ p ∈ news', p.1 ≠ C) → Fin ys news' → RR (.ref D) C (.ok .next) { s₂ with heap := h, toks := tk }) :
    wpAny (model prog w) A (newList []) (fun acc s₃ => wpAny (model prog w) A (newFunctionEnv scope env.globals cl [] env.qual none .none (some env)) (fun cenv s₄ =>
      codeAny (model prog w) A (.compStart (.ListComp elt [⟨.Tuple [.Name x px, .Name x₂ px₂] tk tp, iter, [c], 0⟩] scope pos) 0 (.ref I) acc { cenv with scope := relabel scope env }) (RR acc cenv.locals) s₄) E s₃) E s₂ := by
  refine wpAny_newObj_type (wpAny_newFunctionEnv hcell (by intro y hy; simp at hy) (fun h₁ hns₁ hsb₁ => ?_) hkind)
  dsimp only at hns₁ hsb₁ ⊢
  generalize hH2 : s₂.heap.push { cls := .type "list", dict := none, data := .seq ([] : List Value).toArray } = H2 at hns₁ hsb₁ ⊢
  have hC : H2.objs.size = s₂.heap.objs.size + 1 := by rw [← hH2, Heap.size_push]
  have hDC : s₂.heap.objs.size ≠ H2.objs.size := by rw [hC]; exact Nat.ne_of_lt (Nat.lt_succ_self _)
  have below : ∀ b, b < s₂.heap.objs.size → b ≠ H2.objs.size ∧ b ≠ s₂.heap.objs.size := fun b hb => ⟨by rw [hC]; exact Nat.ne_of_lt (Nat.lt_succ_of_lt hb), Nat.ne_of_lt hb⟩
  have hDf : s₂.heap.objs.size ∉ fp := fun hm => Nat.lt_irrefl _ (hfp _ hm)
  have hCf : H2.objs.size ∉ fp := fun hm => by have := hfp _ hm; rw [hC] at this; exact Nat.lt_irrefl _ (Nat.lt_of_succ_lt this)
  have hIlt : I < s₂.heap.objs.size := hfp I (W.sub I (List.mem_singleton.mpr rfl))
  have old : ∀ b o, s₂.heap.get? b = some o → h₁.get? b = some o := fun b o e => hsb₁.extBut b o (below b (Heap.lt_size e)).1 (Heap.get?_push_of_some _ (hH2 ▸ Heap.get?_push_of_some _ e))
  have hacc : h₁.get? s₂.heap.objs.size = some (LCg.lst []) := hsb₁.extBut _ _ hDC (Heap.get?_push_of_some _ (hH2 ▸ Heap.get?_push_size _ rfl))
  have hst₁ : St 0 h₁ := W.frame _ _ _ hst fun b _ o e => old b o e
  have fresh₀ : ∀ a, s₂.heap.objs.size ≤ a → h₀.get? a = none := fun a ha => by
    cases e : h₀.get? a with
    | none => rfl
    | some o' => exact absurd (Heap.lt_size (F.keep a o' e)) (Nat.not_lt.mpr ha)
  have hD₀ : h₀.get? s₂.heap.objs.size = none := fresh₀ _ (Nat.le_refl _)
  have hC₀ : h₀.get? H2.objs.size = none := fresh₀ _ (by rw [hC]; exact Nat.le_succ _)
  have hLlt : L < s₂.heap.objs.size := F.ns.lt
  have hDL : s₂.heap.objs.size ≠ L := Ne.symm (below L hLlt).2
  have hCL : H2.objs.size ≠ L := Ne.symm (below L hLlt).1
  have hCI : I ≠ H2.objs.size := (below I hIlt).1
  have hDI : I ≠ s₂.heap.objs.size := (below I hIlt).2
  have off₀ : LCg.Off3 I H2.objs.size s₂.heap.objs.size news := LCg.Off3.of fun p hp => ⟨off p hp, (below _ (Heap.lt_size (N p hp).1)).1, (below _ (Heap.lt_size (N p hp).1)).2⟩
  have loop : ∀ s₃ : Shared, s₃ = { s₂ with heap := h₁, toks := s₂.toks + ([] : List (Str × Value)).length } →
      codeAny (model prog w) A (.compLoop (.ListComp elt [⟨.Tuple [.Name x px, .Name x₂ px₂] tk tp, iter, [c], 0⟩] scope pos) 0 (.ref I) (.ref s₂.heap.objs.size) (compEnvC scope cl H2.objs.size env))
        (RR (.ref s₂.heap.objs.size) H2.objs.size) s₃ := by
    rintro s₃ rfl
    obtain ⟨PP, hPP⟩ : ∃ PP : Nat → Shared → Prop, ∀ k s', PP k s' ↔ (∃ h' tk i ys m' news', s' = { s₂ with heap := h', toks := tk } ∧ i ≤ n ∧ k = n + 1 - i ∧ ys.length ≤ i ∧ St i h' ∧ Fr h₀ L h' m ∧ h'.Ns H2.objs.size m' ∧ News h₀ L h' ((s₂.heap.objs.size, LCg.lst ys) :: news') ∧
        LCg.Off3 I H2.objs.size s₂.heap.objs.size news' ∧ S news' ∧ RestPT prog w A h₀ L m env c elt x x₂ scope cl s₂ S P Fin (n - i) i ys news') := ⟨_, fun _ _ => Iff.rfl⟩
    refine kct_loop PP ?_ (n + 1)
      ((hPP _ _).mpr ⟨h₁, _, 0, [], _, news, rfl, Nat.zero_le _, rfl, Nat.le_refl _, hst₁, F.keeps old, hns₁, fun p hp => ?_, off₀, hS, R⟩)
    · intro k s' h9
      obtain ⟨h', tk, i, ys, m', news', h9⟩ := (hPP _ _).mp h9
      obtain rfl := h9.1
      have hi := h9.2.1; obtain rfl := h9.2.2.1
      have hyl := h9.2.2.2.1; have hst' := h9.2.2.2.2.1; have F' := h9.2.2.2.2.2.1; have hn' := h9.2.2.2.2.2.2.1; have N' := h9.2.2.2.2.2.2.2.1; have off' := h9.2.2.2.2.2.2.2.2.1; have hS' := h9.2.2.2.2.2.2.2.2.2.1; have R' := h9.2.2.2.2.2.2.2.2.2.2
      clear h9
      by_cases hlt : i < n
      · obtain ⟨j, hj⟩ := sub_ex hlt
        rw [hj] at R'
        refine W.item i _ _ _ hlt hst' fun v h₂ tk₂ hPv hst₂ hk₂ => ?_
        obtain ⟨t, ot, v₁, v₂, nt, rfl, hmt, hct, hdt, R''⟩ := R' v hPv
        have off3 := off'.mem
        have N₂ : News h₀ L h₂ ((s₂.heap.objs.size, LCg.lst ys) :: news') := LCg.news_but N' hk₂ fun p hp => by
          rcases List.mem_cons.mp hp with rfl | hp
          · exact Ne.symm hDI
          · exact (off3 p hp).1
        have ht : IsTup h₂ t #[v₁, v₂] := ⟨ot, (N₂ _ (List.mem_cons_of_mem _ hmt)).1, hct, nt, hdt⟩
        obtain ⟨lI, jI, hLi⟩ := hLI _ _ hst₂
        refine wpAny_letOwnedTupleGo_listiter hLi ?_
        refine assign_Tuple_tuple hh ht rfl rfl fun h₅ he => ?_
        have he' : ∀ b o, h₂.get? b = some o → h₅.get? b = some o := fun b o e => he b o (Nat.ne_of_lt (Heap.lt_size e)) e
        refine assignInOrder_cons (wpAny_assign_Name (wpAny_storeName_local (lookup_relabel_local hx) ((hn'.at' fun o e => hk₂ _ o (by simpa using Ne.symm hCI) e).at' fun o e => he' _ o e) (fun h₆ hn₆ hs₆ => ?_) (by simp [compEnvC, relabel, hkind])))
        refine assignInOrder_cons (wpAny_assign_Name (wpAny_storeName_local (lookup_relabel_local hx₂) hn₆ (fun h₃ hn₃ hs₃ => ?_) (by simp [compEnvC, relabel, hkind])))
        refine assignInOrder_nil ?_
        have old3 : ∀ b o, b ≠ H2.objs.size → h₂.get? b = some o → h₃.get? b = some o := fun b o hb e => hs₃.extBut b o hb (hs₆.extBut b o hb (he' b o e))
        have hst₃ : St (i + 1) h₃ := W.frame _ _ _ hst₂ fun b hb o e => old3 b o (fun q => hCf (by rw [← q]; exact hb)) e
        obtain ⟨oI, heI⟩ := hIo _ _ hst₃
        obtain ⟨oC, heC, hoC⟩ := LCg.ns_obj hn₃
        have F₃ : Fr h₀ L h₃ m := (((LCg.fr_but F' hk₂ hIL hI₀).keeps he').change hs₆ hCL hC₀).change hs₃ hCL hC₀
        have N₃ : News h₀ L h₃ ((I, oI) :: (H2.objs.size, oC) :: (s₂.heap.objs.size, LCg.lst ys) :: news') := fun p hp => by
          rcases List.mem_cons.mp hp with rfl | hp
          · exact ⟨heI, Ne.symm hIL, hI₀⟩
          · rcases List.mem_cons.mp hp with rfl | hp
            · exact ⟨heC, hCL, hC₀⟩
            · have z := N₂ p hp
              refine ⟨old3 _ _ ?_ z.1, z.2⟩
              rcases List.mem_cons.mp hp with rfl | hp
              · exact hDC
              · exact (off3 p hp).2.1
        have fin : ∀ (ys' : List Value) (h₄ : Heap) (tk₄ : Nat) (news₄ : List (Addr × Obj)), ys'.length ≤ i + 1 → Fr h₀ L h₄ m → News h₀ L h₄ ((I, oI) :: (H2.objs.size, oC) :: (s₂.heap.objs.size, LCg.lst ys') :: news₄) → LCg.Off3 I H2.objs.size s₂.heap.objs.size news₄ → S news₄ →
            RestPT prog w A h₀ L m env c elt x x₂ scope cl s₂ S P Fin j (i + 1) ys' news₄ →
            ∃ q', q' < n + 1 - i ∧ PP q' ({ s₂ with heap := h₄, toks := tk₄ } : Shared) := by
          intro ys' h₄ tk₄ news₄ hl F₄ N₄ off₄ hS₄ R₄
          have zI := (N₄ (I, oI) List.mem_cons_self).1
          have zC := (N₄ (H2.objs.size, oC) (List.mem_cons_of_mem _ List.mem_cons_self)).1
          have N₄' : News h₀ L h₄ news₄ := fun p hp => N₄ p (List.mem_cons_of_mem _ (List.mem_cons_of_mem _ (List.mem_cons_of_mem _ hp)))
          refine ⟨n + 1 - (i + 1), sub_lt3 hlt, (hPP _ _).mpr ⟨h₄, tk₄, i + 1, ys', _, news₄, rfl, hlt, rfl, hl, hSt _ _ _ _ _ hst₃ heI zI F₄.keep N₄' hS₄, F₄, hoC.ns zC, fun q hq => N₄ q (List.mem_cons_of_mem _ (List.mem_cons_of_mem _ hq)), off₄, hS₄, ?_⟩⟩
          rw [sub_eq3 hj]
          exact R₄
        refine wpAny_mono (R'' I oI H2.objs.size oC s₂.heap.objs.size _ h₃ _ _ hoC (by simp [hxx]) (by simp) F₃ N₃ off' ⟨hCI, hDI, Ne.symm hDC⟩) (fun okb s₅ h₅ => ?_) fun _ _ e => e
        cases okb with
        | false =>
          simp only [Bool.false_eq_true, if_false] at h₅ ⊢
          obtain ⟨h₅, tk₅, news₅, h9⟩ := h₅
          obtain rfl := h9.1
          have F₅ := h9.2.1; have N₅ := h9.2.2.1; have off₅ := h9.2.2.2.1; have hS₅ := h9.2.2.2.2.1; have R₅ := h9.2.2.2.2.2
          clear h9
          exact fin ys h₅ tk₅ news₅ (Nat.le_succ_of_le hyl) F₅ N₅ off₅ hS₅ R₅
        | true =>
          simp only [if_true] at h₅ ⊢
          refine wpAny_mono h₅ (fun y s₆ h₆ => ?_) fun _ _ e => e
          obtain ⟨h₅, tk₅, news₅, h9⟩ := h₆
          obtain rfl := h9.1
          have F₅ := h9.2.1; have N₅ := h9.2.2.1; have off₅ := h9.2.2.2.1; have hS₅ := h9.2.2.2.2.1; have R₅ := h9.2.2.2.2.2
          clear h9
          have zI := (N₅ (I, oI) List.mem_cons_self).1
          have zC := (N₅ (H2.objs.size, oC) (List.mem_cons_of_mem _ List.mem_cons_self)).1
          have zD := (N₅ (s₂.heap.objs.size, LCg.lst ys) (List.mem_cons_of_mem _ (List.mem_cons_of_mem _ List.mem_cons_self))).1
          have N₅' : News h₀ L h₅ news₅ := fun q hq => N₅ q (List.mem_cons_of_mem _ (List.mem_cons_of_mem _ (List.mem_cons_of_mem _ hq)))
          refine append_at (hsz := by show ys.toArray.size ≤ sizeLine; rw [List.size_toArray]; exact Nat.le_trans hyl (Nat.le_trans hi hsz)) zD fun h₆ hs₆ hD₆ => ?_
          have off5 := off₅.mem
          refine fin (ys ++ [y]) h₆ _ news₅ (by rw [List.length_append, List.length_singleton]; exact Nat.succ_le_succ hyl) (F₅.change hs₆ hDL hD₀) (fun q hq => ?_) off₅ hS₅ R₅
          rcases List.mem_cons.mp hq with rfl | hq
          · exact ⟨hs₆.extBut I oI hDI zI, Ne.symm hIL, hI₀⟩
          rcases List.mem_cons.mp hq with rfl | hq
          · exact ⟨hs₆.extBut _ oC (Ne.symm hDC) zC, hCL, hC₀⟩
          rcases List.mem_cons.mp hq with rfl | hq
          · exact ⟨hD₆.trans (congrArg some (LCg.lst_snoc ys y)), hDL, hD₀⟩
          · exact ⟨hs₆.extBut _ _ (off5 q hq).2.2 (N₅' q hq).1, (N₅' q hq).2⟩
      · obtain rfl : i = n := Nat.le_antisymm hi (Nat.not_lt.mp hlt)
        rw [Nat.sub_self] at R'
        refine W.done _ _ _ hst' fun h₂ tk₂ hk₂ => ?_
        have off3 := off'.mem
        exact hRR _ _ h₂ tk₂ _ ys news' (LCg.fr_but F' hk₂ hIL hI₀) (LCg.news_but N' hk₂ fun p hp => by
          rcases List.mem_cons.mp hp with rfl | hp
          · exact Ne.symm hDI
          · exact (off3 p hp).1) off'.one (hn'.at' fun o e => hk₂ _ o (by simpa using Ne.symm hCI) e) hC₀ hD₀ hCL hDL (Ne.symm hDC) (fun p hp => (off3 p hp).2.1) R'
    · rcases List.mem_cons.mp hp with rfl | hp
      · exact ⟨hacc, hDL, hD₀⟩
      · exact ⟨old _ _ (N p hp).1, (N p hp).2⟩
  exact codeAny_compStart_list (loop _ rfl) (W.self 0 _ _ _ hst₁ (loop _ rfl))
def SrcPT (prog : Program) (w : World) (A : Around) (h₀ : Heap) (L : Addr) (m : Str → Option Value) (env : Env) (c elt : PySem.Expr) (x x₂ : Str) (scope : Scope) (cl : List (Str × Addr)) (Fin : Shared → List Value → List (Addr × Obj) → Prop) (xv : Value) (s₁ : Shared) : Prop :=
  ∃ ax its k news, xv = .ref ax ∧ A.handled = none ∧ Fr h₀ L s₁.heap m ∧ News h₀ L s₁.heap news ∧ (ax, ({ cls := .type "list", data := .seq its k } : Obj)) ∈ news ∧ its.size ≤ sizeLine ∧
    ∀ g, RestPT prog w A h₀ L m env c elt x x₂ scope cl { s₁ with heap := g } (fun nw => (ax, ({ cls := .type "list", data := .seq its k } : Obj)) ∈ nw) (fun i v => its[i]? = some v) (Fin { s₁ with heap := g }) its.size 0 [] news
theorem comp_PT {c elt iter : PySem.Expr} {x x₂ : Str} {px px₂ tp : Pos} {tk} {scope : Scope} {cl : List (Str × Addr)} {pos : Pos} {Q : Value → Shared → Prop} (_F₀ : Fr h₀ L s.heap m)
    (hclos : closureFor scope env = pure cl) (hcell : ∀ y ∈ scope.names, y.2 ≠ .cell) (hkind : scope.kind = .function)
    (hnames : ∀ y ∈ scope.names, y.2 = .local → scope.names.lookup y.1 = some .local) (hx : scope.names.lookup x = some .local) (hx₂ : scope.names.lookup x₂ = some .local) (hxx : x ≠ x₂)
    (h : wpAny (model prog w) A (eval iter env) (SrcPT prog w A h₀ L m env c elt x x₂ scope cl (fun s₂ => LCg.FinE h₀ L m s₂ Q)) E s)
    (hs : ∀ x, foldedSetIterable iter env x = pure x := by intro _; rfl) :
    wpAny (model prog w) A (eval (.ListComp elt [⟨.Tuple [.Name x px, .Name x₂ px₂] tk tp, iter, [c], 0⟩] scope pos) env) Q E s := by
  rw [eval_ListComp]
  refine wpAny_comprehension_free (use := none) rfl hs hclos hkind hnames (wpAny_mono h (fun xv s₁ h₁ => ?_) fun _ _ e => e)
  obtain ⟨ax, its, k, news, rfl, hh, F, N, hm, hsz, R⟩ := h₁
  have hl : s₁.heap.IsList ax its := ⟨_, (N _ hm).1, rfl, _, rfl⟩
  have hlt : ax < s₁.heap.objs.size := Heap.lt_size (N _ hm).1
  refine wpAny_pyIter_list hl ?_
  have up : ∀ b o, s₁.heap.get? b = some o → (s₁.heap.push { cls := .type "list_iterator", data := .fields #[.ref ax, .int 0 0] }).get? b = some o := fun b o e => Heap.get?_push_of_some _ e
  refine block_PT (Walks.list hh s₁.heap.objs.size ax (Nat.ne_of_lt hlt) its) hsz (fun i h st => ?_) (fun i h h' o nw st e e' kk NN S => ?_) hcell hkind hx hx₂ hxx hh (fun i h st => ⟨_, _, st.1⟩) ⟨⟨_, Heap.get?_push_size _ rfl, rfl, rfl⟩, hl.push _⟩ (fun b hb => ?_)
    (F.keeps up) (N.grown up) (Nat.ne_of_lt F.ns.lt) (next_is_new F) (fun p hp => Nat.ne_of_lt (Heap.lt_size (N p hp).1)) hm (R _) ?_
  · obtain ⟨o, e, _⟩ := st.1
    exact ⟨o, e⟩
  · refine ⟨?_, ⟨_, (NN _ S).1, rfl, _, rfl⟩⟩
    obtain ⟨o', q, r⟩ := st.1
    rw [e] at q
    cases q
    exact ⟨o, e', r⟩
  · show b < (s₁.heap.push _).objs.size
    rw [Heap.size_push]
    rcases List.mem_cons.mp hb with rfl | hb
    · exact Nat.lt_succ_self _
    · rw [List.mem_singleton.mp hb]; exact Nat.lt_succ_of_lt hlt
  · intro D C h tk m' ys news' F' N' o1 hn hC₀ hD₀ hCL hDL hCD offC fin
    refine ⟨m', hn, fun h'' hs'' => fin D h'' tk (F'.change hs'' hCL hC₀) (fun p hp => ?_) o1⟩
    refine ⟨hs''.extBut _ _ ?_ (N' p hp).1, (N' p hp).2⟩
    rcases List.mem_cons.mp hp with rfl | hp
    · exact Ne.symm hCD
    · exact offC p hp
end
theorem w82 : True := by
  w_top off
  k_with_none
  k_with "my k_all" => (k_dflt (first | assumption | exact all_ne_sub9 (by assumption) (by k_extra "my sub") | exact all_ne_u0 (by assumption) (by k_extra "my sub") | exact all_ne_u1 (by assumption) (by k_extra "my sub") | exact all_ne_u2 (by assumption) (by k_extra "my sub") | exact all_ne_u3 (by assumption) (by k_extra "my sub") | exact all_ne_u4 (by assumption) (by k_extra "my sub") | (refine List.forall_mem_append.mpr ⟨?_, ?_⟩ <;> k_all)))
  k_with "my ktr_room" => (((try simp only [depth_under_make, depth_under_kw, depth_in1, depth_deeper, depth_caller]); (try dsimp only [ktrTop]); (try simp only [recursionLimit]); k_extra "my room"))
  k_with "my room" => (first | exact Nat.le_of_ble_eq_true rfl | exact rm0 hd rfl | exact rm1 hd rfl | exact rm5 hd rfl | exact rm6 hd rfl | exact rm4 hd rfl | exact rm2 hd rfl | exact rm3 hd rfl | exact rm7 hd rfl | exact rm8 (by assumption) rfl | omega)
  k_with "my units" => (first | exact Nat.le_of_ble_eq_true rfl | exact rm0 hu rfl | exact rm1 hu rfl | exact rm5 hu rfl | exact rm6 hu rfl | exact rm4 hu rfl | exact rm2 hu rfl | exact rm3 hu rfl | exact rm7 hu rfl | exact rm8 (by assumption) rfl | exact um1 hu rfl | exact um2 hu rfl | exact um3 hu rfl | exact um4 hu rfl | exact um5 hu rfl | (have hcL9 := cLine_is; omega))
  k_with "my dep" => (first | assumption | exact dm1 hdp | exact dm2 hdp | exact dm0 hdp | omega)
  k_with "my ktr_units" => (((try simp only [units_in1, units_deeper, Around.mark_units, units_caller]); (try dsimp only [ktrTop]); k_extra "my units"))
  k_with "my k_room" => (ktr_room)
  k_with "my k_units" => (ktr_units)
  k_with "my units_room" => (ktr_units)
  k_with "compareOp Eq ref ref" => ((k_here; (with_reducible show wpAny _ _ (compareOp CmpOp.Eq (Value.ref _) (Value.ref _)) _ _ _); first
      | refine' eq_zero_f (by assumption) (by assumption) (by k_extra "my sub") (by k_mem) (by first | rfl | exact mkOf_zero) (by omega) (by ktr_units) ?_
      | refine' eq_zero_t (by assumption) (by assumption) (by k_extra "my sub") (by k_mem) rfl (by omega) (by ktr_units) ?_))
  k_with "my k_ne" => (k_dflt (first | exact off_I (by assumption) (by k_mem) | exact off_C (by assumption) (by k_mem) | exact off_D (by assumption) (by k_mem) | assumption | exact ne_gt9 (by assumption) (by k_mem) | exact ne_lt9 (by assumption) (by k_mem) | exact ne_all9 (by assumption) (by k_mem) | exact ne_all9s (by assumption) (by k_mem) | exact ne_gt_u1 (by assumption) (by k_mem) | exact ne_lt_u1 (by assumption) (by k_mem) | exact ne_gt_u2 (by assumption) (by k_mem) | exact ne_lt_u2 (by assumption) (by k_mem) | exact ne_gt_u3 (by assumption) (by k_mem) | exact ne_lt_u3 (by assumption) (by k_mem) | exact ne_gt_u4 (by assumption) (by k_mem) | exact ne_lt_u4 (by assumption) (by k_mem)))
  k_with "my off" => (first | exact True.intro | (refine And.intro (off_at (by assumption) (by k_mem)) ?_; k_extra "my off") | (refine Off3.append ?_ ?_ <;> k_extra "my off") | (refine Off3.of_sub (by assumption) (fun p hp => ?_); simp only [List.mem_cons, List.mem_append, hp, true_or, or_true]; done) | (refine Off3.of_lt (by assumption) (by k_mem) (by k_mem) (by k_mem)))
  k_with "CompSrc" => ((k_here; k_dflt (refine LCg.CompSrc.range (by rfl) (by k_asm) (by k_asm) (by with_reducible assumption) (by first | decide | rfl) (by first | rfl | decide) (by first | size_fits | exact Nat.le_of_ble_eq_true rfl) ?_; intro g'; lcg_lit)))
  k_with "CompRest" => ((with_unfolding_all first
      | (refine CompRest_at (fun v9 h9 => (Option.some.inj h9).symm) ?_; intro I' oI' C' oC' D' m' h' tk' E' hC' hx' F' N' off' ne'; have offM := off'.mem; clear off')
      | (refine CompRest_ex (fun v9 h9 => h9) ?_; intro t9' I' oI' C' oC' D' m' h' tk' E' hC' hx' F' N' off' ne'; have offM := off'.mem; clear off')
      | (refine LCg.CompRest.succ ?_; intro v' I' oI' C' oC' D' m' h' tk' E' hv' hC' hx' F' N' off' ne'; have offM := off'.mem; (first | lcg_open hv' | (obtain ⟨t9', hv9'⟩ := hv'; subst hv9')); clear off')
      | refine LCg.CompRest.zero ?_))
  k_with "CompEnd" => ((k_here; (refine LCg.CompEnd.intro (by assumption) (by assumption) _ (fun p hp => hp) ?offAO ?srcAO ?_; (case offAO => k_extra "my off"); (case srcAO => first | lcg_src | ((try dsimp only); k_mem)))))
  k_with "my enter" => ((refine' code_def ?k1AP ?k2AP ?k3AP ?k4AP ?k5AP ?kAAP ?kFAP ?kKAP ?k6AP ?k7AP ?k8AP ?k9AP ?kBAP ?_ ?c2AP ?c3AP ?c4AP ?c5AP; (case kAAP => exact rfl); (case kFAP => exact rfl); (case kKAP => first | exact rfl | assumption); (case k1AP => k_asm); (case k2AP => k_asm); (case k3AP => k_asm); (case k4AP => k_asm); (case k5AP => k_asm); (case k6AP => k_is); (case k7AP => k_is); (case k8AP => ktr_room); (case k9AP => exact BindsTo.of_eq rfl); (case c5AP => decide); (case kBAP => exact locs rfl); (case c2AP => exact rfl); (case c3AP => exact rfl); (case c4AP => exact rfl); k_whole; intro g' L' h' FG' F' N' B' X' T'; (try dsimp only); (try k_fold)))
  k_with "my enterC" => ((refine' code_defC ?k1AQ ?k2AQ ?k3AQ ?k4AQ ?k5AQ ?kAAQ ?kFAQ ?kKAQ ?k6AQ ?k7AQ ?k8AQ ?k9AQ ?kBAQ ?kDAQ ?_ ?c2AQ ?c3AQ ?c4AQ; (case kAAQ => exact rfl); (case kFAQ => exact rfl); (case kKAQ => first | exact rfl | assumption); (case k1AQ => k_asm); (case k2AQ => k_asm); (case k3AQ => k_asm); (case k4AQ => k_asm); (case k5AQ => k_asm); (case k6AQ => k_is); (case k7AQ => k_is); (case k8AQ => ktr_room); (case k9AQ => exact BindsTo.of_eq rfl); (case kBAQ => exact rfl); (case kDAQ => decide +kernel); (case c2AQ => exact rfl); (case c3AQ => exact rfl); (case c4AQ => exact rfl); k_whole; intro g' L' h' tk' cells' FG' F'; (first | (refine cells_in1 ?_; intro o' d1' N') | (refine cells_in2 ?_; intro o' o2' d1' d2' N') | (refine cells_in3 ?_; intro o' o2' o3' d1' d2' d3' N') | (refine cells_in4 ?_; intro o' o2' o3' o4' d1' d2' d3' d4' N')); intro B' X' T' l1; (try k_lt l1); (try dsimp only); (try k_fold)))
  k_with "eval ListComp" => ((k_here; (with_reducible show wpAny _ _ (eval (Expr.ListComp _ [⟨Expr.Name _ _, Expr.Subscript _ (Expr.Slice (some _) _ _ _) _, [], 0⟩] _ _) _) _ _ _); k_dflt (refine comp_tup (by k_asm) (by with_unfolding_all rfl) (by decide) (by rfl) (by decide) (by rfl) ?_)))
  k_with "exec Assign cons ListComp" => ((k_here; (with_reducible show wpAny _ _ (exec (Stmt.Assign [Expr.Name _ _] (Expr.ListComp _ [⟨Expr.Name _ _, Expr.Subscript _ (Expr.Slice (some _) _ _ _) _, [], 0⟩] _ _) _) _) _ _ _); k_dflt (refine comp_tup_assign (by k_asm) (by rfl) (by with_unfolding_all rfl) (by with_unfolding_all rfl) (by decide) (by rfl) (by decide) (by rfl) (by rfl) (by rfl) ?_)))
  k_with "subscriptTail Name Slice ref ref" => ((k_here; (with_reducible show wpAny _ _ (subscriptTail _ (PySem.Expr.Slice (some _) none none _) (Value.ref _) (Value.ref _)) _ _ _); k_dflt (refine' slice_tup1 ?FAT ?NAT ?lAT ?pAT ?eAT ?_ ?sAT ?tAT ?zAT; (case FAT => k_asm); (case NAT => k_asm); (case lAT => k_mem); (case pAT => exact Nat.le_of_ble_eq_true rfl); (case eAT => kl_lit); (case sAT => with_unfolding_all rfl); (case tAT => kmk_pure); (case zAT => kmk_size)); intro D' h' F' N' l1; (try k_lt l1); (try k_sweep)))
  k_with "TupSrc" => ((k_here; k_dflt (refine TupSrc.of (by rfl) (by k_asm) (by k_asm) (by k_mem) (by first | size_fits | exact Nat.le_of_ble_eq_true rfl) ?_; intro g'; lcg_lit)))
  k_with "my steps" => (repeat' ((fail_if_success (with_reducible show Ret _ _ _)); first | ((with_reducible show wpAny _ _ (call (Value.ref _) _ _) _ _ _); k_extra "my call") | ((fail_if_success ((with_reducible show wpAny _ _ (call (Value.ref _) _ _) _ _ _); k_extra "my nocall")); first | (k_unfold; (try dsimp only)) | walk1 | (dsimp only; walk1) | (leave1; walk_say "STEP leave1"; try dsimp only))))
  k_with "my sub" => (first | (with_reducible exact sub_self _) | (with_reducible refine sub_cons ?_; k_extra "my sub") | (with_reducible refine sub_left ?_; k_extra "my sub") | (with_reducible refine sub_right ?_; k_extra "my sub") | (intro p hp; simp only [List.mem_cons, List.mem_append, hp, true_or, or_true]; done))
  k_with "my ord" => (k_dflt (first | assumption | exact lt_all (by assumption) (by k_mem) | exact lt_all_u1 (by assumption) (by k_mem) | exact lt_all_u2 (by assumption) (by k_mem) | omega))
  k_with "my allLt" => (first | exact allLt_of (by assumption) | exact allLt_sub (by assumption) (by k_extra "my sub") | tbn_find)
  k_with "FinE" => (((unfold LCg.FinE); intro D' h' tk' F' N' o1'; replace o1' := off1_mem o1'; (try dsimp only [List.nil_append, List.cons_append] at N'); (try dsimp only [List.nil_append, List.cons_append] at o1'); (try dsimp only)))
  k_with "FinA" => (((unfold LCg.FinA); intro D' h' tk' F' N' o1'; replace o1' := off1_mem o1'; (try dsimp only [List.nil_append, List.cons_append] at N'); (try dsimp only [List.nil_append, List.cons_append] at o1'); (try dsimp only)))
  k_with "my omega" => (first
      | ((with_reducible show @LE.le Nat _ _ _); first | exact Nat.le_of_ble_eq_true rfl | with_reducible (first | exact o1 ‹_› (by decide) | exact o4 ‹_› (by decide) | exact o7 ‹_› (by decide) | exact o8 ‹_› (by decide) | exact o9 ‹_› (by decide) | exact q6 ‹_› (by decide) | exact q0 ‹_› (by decide) | exact r0 ‹_› (by decide) | exact q1 ‹_› ‹_› (by decide) | exact q3 ‹_› ‹_› (by decide) | exact q7 ‹_› ‹_› (by decide) | exact q8 ‹_› ‹_› (by decide) | exact q9 ‹_› ‹_› | exact r1 ‹_› ‹_› (by decide) | exact r2 ‹_› ‹_› | exact r4 ‹_› ‹_› | exact r8 ‹_› ‹_› (by decide) | exact o0 ‹_› (by decide) | exact Nat.add_le_add ‹_› ‹_› | exact Nat.le_add_left _ _ | exact Nat.le_of_lt ‹_›))
      | ((with_reducible show @LT.lt Nat _ _ _); first | exact Nat.le_of_ble_eq_true rfl | with_reducible (first | exact o2 ‹_› (by decide) | exact o3 ‹_› (by decide) | exact o5 ‹_› (by decide) | exact o6 ‹_› (by decide) | exact p5 ‹_› (by decide) | exact j6 ‹_› (by decide) | exact q2 ‹_› ‹_› (by decide) | exact q4 ‹_› ‹_› (by decide) | exact q5 ‹_› ‹_› (by decide) | exact p1 ‹_› ‹_› (by decide) | exact p2 ‹_› ‹_› (by decide) | exact p3 ‹_› ‹_› (by decide) | exact p4 ‹_› ‹_› (by decide) | exact p6 ‹_› ‹_› (by decide)))
      | ((with_reducible show @LE.le Int _ _ _); first | decide +kernel | with_reducible (first | exact i1 ‹_› | exact i2 ‹_› | exact i6 | exact i7 | exact j7 ‹_› | exact j4 ‹_› (by decide +kernel) | exact i8 ‹_› (by decide +kernel) | exact i9 ‹_› (by decide +kernel) | exact i3 ‹_› ‹_› | exact i4 ‹_› ‹_› | exact i5 ‹_› ‹_›))
      | ((with_reducible show @LT.lt Int _ _ _); first | decide +kernel | with_reducible (first | exact j1 ‹_› | exact j5 (by decide +kernel) | exact j3 ‹_› (by decide +kernel) | exact j8 ‹_› (by decide +kernel) | exact j9 ‹_› (by decide +kernel) | exact l1 ‹_› (by decide +kernel) | exact l2 ‹_› (by decide +kernel) | exact l3 ‹_› (by decide +kernel) | exact j0 ‹_› ‹_› (by decide +kernel)))
      | ((with_reducible show @Ne Nat _ _); with_reducible (first | exact Nat.ne_of_gt ‹_› | exact Nat.ne_of_lt ‹_› | exact Nat.succ_ne_self _ | exact (Nat.succ_ne_self _).symm))
      | with_reducible (first | exact j2 ‹_› | exact z4 ‹_› ‹_› | exact z6 ‹_› ‹_› | exact z3 ‹_› | exact z2 ‹_› ‹_›))
  k_with "my call" => ((k_here; (with_reducible show wpAny _ _ (call (Value.ref 91) [_]) _ _ _); (with_reducible rename PartsFor _ _ => ih9ET); k_dflt (refine' ih9ET ?ktET ?k1ET ?k2ET ?k3ET ?k4ET ?k5ET ?kKET ?k6ET ?k7ET ?k8ET ?k13ET ?k14ET ?_; (case k1ET => k_asm); (case k2ET => k_asm); (case k3ET => k_asm); (case k4ET => k_asm); (case k5ET => k_asm); (case kKET => first | exact rfl | assumption); (case k6ET => assumption); (case ktET => assumption); (case k7ET => k_extra "my sub2"); (case k8ET => assumption); (case k13ET => ktr_room); (case k14ET => ktr_units); k_whole); intro D' vs' n' tl' h' tk' F' N' htl' hp'; have hvl' := hp'.length; (try dsimp only [List.cons_append, List.nil_append] at N'); (try simp only [List.append_assoc, List.cons_append, List.nil_append] at N'); (try k_sweep)))
  k_with "my nocall" => (first | (with_reducible show wpAny _ _ (call (Value.ref 91) _) _ _ _))
  trivial
def varsOf (qs : List Pat) : List Str := (qs.filter Pat.isVar).map Pat.op
section
variable {prog : Program} {w : World} {A : Around} {E : Value → Shared → Prop} {s : Shared} {h₀ : Heap} {L : Addr} {m : Str → Option Value} {news : List (Addr × Obj)}
theorem set_N {l : Addr} {vs : List Value} {ss : List Str} {k : Nat} {Q : Value → Shared → Prop} (hh : A.handled = none) (F : Fr h₀ L s.heap m) (N : News h₀ L s.heap news) (hm : (l, listOf vs.toArray k) ∈ news) (hi : StrsAre vs ss) (hb : vs.length < 1000)
    (h : ∀ D h' tk o, Fr h₀ L h' m → News h₀ L h' ((D, o) :: news) → (∀ p ∈ news, p.1 < D) → StrSet prog w o (fun x => x ∈ ss) vs.length → Q (.ref D) { s with heap := h', toks := tk }) :
    wpAny (model prog w) A (call (.type "set") [.ref l]) Q E s := by
  refine set_of_strs hh ⟨_, (N _ hm).1, rfl, _, rfl⟩ hi (by simpa using hb) fun h' tk o ho hS hk => ?_
  have hk' : ∀ b ob, s.heap.get? b = some ob → h'.get? b = some ob := fun b ob e => hk b ob (Heap.lt_size e) e
  refine h _ h' tk o (F.kept hk') (N.kept_cons F hk' (Nat.le_refl _) ho) (fun p hp => Heap.lt_size (N p hp).1) ?_
  rw [List.size_toArray] at hS
  exact hS
theorem SrcPT.of {env : Env} {c elt : PySem.Expr} {x x₂ : Str} {scope : Scope} {cl : List (Str × Addr)} {Fin : Shared → List Value → List (Addr × Obj) → Prop} {ax : Addr} {its : Array Value} {k : Nat} {s₁ : Shared}
    (hh : A.handled = none) (F : Fr h₀ L s₁.heap m) (N : News h₀ L s₁.heap news) (hm : (ax, listOf its k) ∈ news) (hsz : its.size ≤ sizeLine)
    (h : ∀ g, RestPT prog w A h₀ L m env c elt x x₂ scope cl { s₁ with heap := g } (fun nw => (ax, listOf its k) ∈ nw) (fun i v => its[i]? = some v) (Fin { s₁ with heap := g }) its.size 0 [] news) :
    SrcPT prog w A h₀ L m env c elt x x₂ scope cl Fin (.ref ax) s₁ := ⟨ax, its, k, news, rfl, hh, F, N, hm, hsz, h⟩
def VarE (h₀ : Heap) (L : Addr) (m : Str → Option Value) (s₁ : Shared) (led : List (Addr × Obj)) (q : Pat) (y : Value) (s₂ : Shared) : Prop :=
  ∃ h' tk t, s₂ = { s₁ with heap := h', toks := tk } ∧ y = .str q.op t ∧ Fr h₀ L h' m ∧ News h₀ L h' led
def VarN (h₀ : Heap) (L : Addr) (m : Str → Option Value) (s₁ : Shared) (led : List (Addr × Obj)) (s₂ : Shared) : Prop :=
  ∃ h' tk, s₂ = { s₁ with heap := h', toks := tk } ∧ Fr h₀ L h' m ∧ News h₀ L h' led
theorem VarE.intro {s₁ : Shared} {led all : List (Addr × Obj)} {q : Pat} {t : Tok} {h' : Heap} {tk : Nat} (F : Fr h₀ L h' m) (N : News h₀ L h' all) (hs : ∀ p ∈ led, p ∈ all) : VarE h₀ L m s₁ led q (.str q.op t) { s₁ with heap := h', toks := tk } := ⟨h', tk, t, rfl, rfl, F, fun p hp => N p (hs p hp)⟩
theorem VarN.intro {s₁ : Shared} {led all : List (Addr × Obj)} {h' : Heap} {tk : Nat} (F : Fr h₀ L h' m) (N : News h₀ L h' all) (hs : ∀ p ∈ led, p ∈ all) : VarN h₀ L m s₁ led { s₁ with heap := h', toks := tk } := ⟨h', tk, rfl, F, fun p hp => N p (hs p hp)⟩
def BoolT (b : Bool) (P : Prop) (Q : Prop) : Prop := if b = true then P else Q
theorem BoolT.intro {b : Bool} {P Q : Prop} (h1 : b = true → P) (h2 : b = false → Q) : BoolT b P Q := by
  cases b with
  | true => exact h1 rfl
  | false => exact h2 rfl
def BoolE (b ok : Bool) (P Q : Prop) : Prop := ok = b ∧ BoolT b P Q
theorem BoolE.intro {b : Bool} {P Q : Prop} (h1 : b = true → P) (h2 : b = false → Q) : BoolE b b P Q := ⟨rfl, BoolT.intro h1 h2⟩
theorem restPT_vars {env : Env} {c elt : PySem.Expr} {x x₂ : Str} {scope : Scope} {cl : List (Str × Addr)} {Fin : List Value → List (Addr × Obj) → Prop}
    {ax : Addr} {vs : List Value} {qs : List Pat} {pn tlk base : List (Addr × Obj)} {dk n : Nat} (hP : PartsIn pn tlk dk vs qs) (htl : ∀ p ∈ tlk, p ∈ base) (hax : (ax, listOf vs.toArray n) ∈ base)
    (step : ∀ u q ys I oI C oC D m₂ h tk (E' : Value → Shared → Prop), PatIn pn u q → LCg.NsObj oC m₂ → m₂ x₂ = some u → Fr h₀ L h m → News h₀ L h ((I, oI) :: (C, oC) :: (D, LCg.lst ys) :: base) →
      wpAny (model prog w) A (isTrue c (compEnvC scope cl C env) (eval c (compEnvC scope cl C env))) (fun ok s₃ => BoolE q.isVar ok
        (wpAny (model prog w) A (eval elt (compEnvC scope cl C env)) (VarE h₀ L m { s with heap := h, toks := tk } ((I, oI) :: (C, oC) :: (D, LCg.lst ys) :: base) q) E' s₃)
        (VarN h₀ L m { s with heap := h, toks := tk } ((I, oI) :: (C, oC) :: (D, LCg.lst ys) :: base) s₃)) E' { s with heap := h, toks := tk })
    (fin : ∀ ys, StrsAre ys (varsOf qs) → Fin ys base) : RestPT prog w A h₀ L m env c elt x x₂ scope cl s (fun nw => (ax, listOf vs.toArray n) ∈ nw) (fun i v => vs.toArray[i]? = some v) Fin vs.toArray.size 0 [] base := by
  have snoc : ∀ {ys : List Value} {ss : List Str} (_ : StrsAre ys ss) (y : Str) (t : Tok), StrsAre (ys ++ [.str y t]) (ss ++ [y]) := by
    intro ys ss h y t
    induction h with
    | nil => exact .cons y t .nil
    | cons z u _ ih => exact .cons z u ih
  have main : ∀ k i ys, i + k = vs.length → StrsAre ys (varsOf (qs.take i)) → RestPT prog w A h₀ L m env c elt x x₂ scope cl s (fun nw => (ax, listOf vs.toArray n) ∈ nw) (fun i v => vs.toArray[i]? = some v) Fin k i ys base := by
    intro k
    induction k with
    | zero =>
      intro i ys hi hs
      have hq : qs.take i = qs := List.take_of_length_le (by rw [← hP.length]; exact Nat.le_of_eq hi.symm)
      rw [hq] at hs
      exact fin ys hs
    | succ k ih =>
      intro i ys hi hs v hv
      obtain ⟨a, pth, e, e', its, u, q, rfl, hq, h1, h2, h3, h4⟩ := hP.at (i := i) (v := v) (by simpa using hv)
      refine ⟨a, _, .ref pth, u, e, rfl, htl _ h1, rfl, rfl, ?_⟩
      intro I oI C oC D m₂ h tk E' hC hx hy F N off ne
      have hlt' : i < qs.length := by rw [← hP.length, ← hi]; exact Nat.lt_add_of_pos_right (Nat.succ_pos k)
      have et : qs.take (i + 1) = qs.take i ++ [q] := by rw [List.take_add_one, hq]; rfl
      refine wpAny_mono (step u q ys I oI C oC D m₂ h tk E' h4 hC hy F N) (fun ok s₃ h₃ => ?_) fun _ _ e => e
      obtain ⟨rfl, h₃⟩ := h₃
      cases hb : q.isVar with
      | false =>
        rw [hb] at h₃
        obtain ⟨h', tk', rfl, F', N'⟩ := (show VarN _ _ _ _ _ _ from h₃)
        simp only [Bool.false_eq_true, if_false]
        refine LCg.CompEnd.intro F' N' base (fun p hp => hp) off hax (ih (i + 1) ys ((Nat.succ_add_eq_add_succ i k).trans hi) ?_)
        have : varsOf (qs.take (i + 1)) = varsOf (qs.take i) := by rw [et]; simp [varsOf, hb]
        rw [this]; exact hs
      | true =>
        rw [hb] at h₃
        simp only [if_true]
        refine wpAny_mono (show wpAny _ _ _ _ _ _ from h₃) (fun y s₄ h₄ => ?_) fun _ _ e => e
        obtain ⟨h', tk', t, rfl, rfl, F', N'⟩ := h₄
        refine LCg.CompEnd.intro F' N' base (fun p hp => hp) off hax (ih (i + 1) _ ((Nat.succ_add_eq_add_succ i k).trans hi) ?_)
        have : varsOf (qs.take (i + 1)) = varsOf (qs.take i) ++ [q.op] := by rw [et]; simp [varsOf, hb]
        rw [this]; exact snoc hs _ _
  exact main vs.toArray.size 0 [] (by simp) .nil
end
theorem lt_sub {D : Addr} {l all : List (Addr × Obj)} (h : ∀ p ∈ all, p.1 < D) (hs : ∀ p ∈ l, p ∈ all) : ∀ p ∈ l, p.1 < D := fun p hp => h p (hs p hp)
theorem varsOf_len (qs : List Pat) : (varsOf qs).length ≤ qs.length := by
  unfold varsOf; rw [List.length_map]; exact List.length_filter_le _ _
def VarsSpec (w : World) (p : Pat) : Prop :=
  ∀ {mean : ExcName → Option Value} {mg mb : Str → Option Value}
    {dp un : Nat} {gd : Option (List Code)} {cn : Str} {cs : Scope} {a : Addr} {ccd : Value} {cl : List (Str × Addr)} {outer : List Env} {A₀ : Around} {base h₀ : Heap} {L : Addr} {m : Str → Option Value} {news : List (Addr × Obj)} {s : Shared}
    {Q E : Value → Shared → Prop} {v : Value} {pn : List (Addr × Obj)}
    (_ : Below A₀ base outer h₀) (_ : Fr h₀ L s.heap m) (_ : (hd.heap_1 w.params).In h₀) (_ : News h₀ L s.heap news)
    (_ : Top view LO mean mg mb h₀) (_ : cs.kind = .function) (_ : PatIn pn v p) (_ : ∀ q ∈ pn, q ∈ news) (_ : p.subs.length ≤ 60) (_ : dp + 5 * p.depth < 760) (_ : un + 20 * p.depth < 3800)
    (_ : ∀ D vs ss n h' tk' dr, Fr h₀ L h' m → News h₀ L h' ((D, listOf vs.toArray n) :: news) → (∀ q ∈ news, q.1 < D) → StrsAre vs ss → (∀ x, x ∈ ss ↔ x ∈ varsOf p.subs) → vs.length ≤ 60 → Q (.ref D) { s with heap := h', toks := tk', drawn := dr }),
    wpAny (model PySem.Challenge.rw_pq0002_01.row.prog w) (ktrTop dp un gd cn cs L a ccd cl outer) (call (.ref 86) [v]) Q E s
theorem w82a : True := by
  k_with "eval ListComp" => ((k_here; (with_reducible show wpAny _ _ (eval (Expr.ListComp _ [⟨Expr.Tuple [Expr.Name _ _, Expr.Name _ _] _ _, Expr.Call _ _ _ _, [_], 0⟩] _ _) _) _ _ _); k_dflt (refine comp_PT (by k_asm) (by with_unfolding_all rfl) (by decide) (by rfl) (by decide) (by rfl) (by rfl) (by decide) ?_)))
  k_with "my call" => ((k_here; (with_reducible show wpAny _ _ (call (Value.ref 91) [_]) _ _ _); k_dflt (refine' parts_all _ ?k1FC ?k2FC ?k3FC ?k4FC ?k5FC ?kKFC ?k6FC ?k7FC ?k8FC ?k13FC ?k14FC ?_; (case k1FC => k_asm); (case k2FC => k_asm); (case k3FC => k_asm); (case k4FC => k_asm); (case k5FC => k_asm); (case kKFC => first | exact rfl | assumption); (case k6FC => assumption); (case k7FC => k_extra "my sub2"); (case k8FC => omega); (case k13FC => ktr_room); (case k14FC => ktr_units); k_whole); intro D' vs' n' tl' h' tk' F' N' htl' hp'; have hvl' := hp'.length; (try dsimp only [List.cons_append, List.nil_append] at N'); (try simp only [List.append_assoc, List.cons_append, List.nil_append] at N'); (try k_sweep)))
  k_with "my call" => ((k_here; (with_reducible show wpAny _ _ (call (Value.ref 81) [_]) _ _ _); k_dflt (refine' isvar_all _ ?k1FD ?k2FD ?k3FD ?k4FD ?k5FD ?kKFD ?k6FD ?k13FD ?k14FD ?_; (case k1FD => k_asm); (case k2FD => k_asm); (case k3FD => k_asm); (case k4FD => k_asm); (case k5FD => k_asm); (case kKFD => first | exact rfl | assumption); (case k6FD => exact PatIn.mono (by assumption) (by k_extra "my sub2")); (case k13FD => ktr_room); (case k14FD => ktr_units); k_whole); intro h' tk' F' N'; (try k_sweep)))
  k_with "call type:set cons nil" => ((k_here; k_dflt (refine' set_N ?hFE ?FFE ?NFE ?mFE ?sFE ?zFE ?_; (case hFE => exact rfl); (case FFE => k_asm); (case NFE => k_asm); (case mFE => k_mem); (case sFE => assumption); (case zFE => omega); k_whole); intro D' h' tk' o' F' N' l1 hs'; (try k_sweep)))
  k_with "my omega" => (with_reducible (first | exact r6 ‹_› ‹_› ‹_› (by decide) | exact r7 ‹_› ‹_› ‹_› ‹_› (by decide)))
  k_with "call builtin:sorted" => ((k_here; k_dflt (refine' sorted_N_set ?hFG ?FFG ?NFG ?mFG ?sFG ?zFG ?_; (case hFG => exact rfl); (case FFG => k_asm); (case NFG => k_asm); (case mFG => k_mem); (case sFG => assumption); (case zFG => omega); k_whole); intro D' h' tk' d' vs' ss' e' F' N' l1 hs' hx' hl'))
  k_with "my sub2" => ((intro p9 hp9; have hq9 := SubOf.use (by assumption) hp9; simp only [List.mem_cons, List.mem_append, hq9, true_or, or_true]; done))
  k_with "my nocall" => (first | (with_reducible show wpAny _ _ (call (Value.ref 91) _) _ _ _) | (with_reducible show wpAny _ _ (call (Value.ref 81) _) _ _ _))
  k_with "SrcPT" => ((k_here; refine Stop.use ?_))
  trivial
theorem vars_all {w : World} (p : Pat) : VarsSpec w p := by
  intro mean mg mb dp un gd cn cs a ccd cl outer A₀ base h₀ L m news s Q E v pn B F X N T hk hin hpn hlen hd hu ret
  obtain ⟨sH, sG, sD, sT, sO⟩ := s
  (try dsimp only at F); (try dsimp only at N); (try dsimp only at ret)
  have hpnS : SubOf pn news := hpn
  clear hpn
  refine ret_of (α := Unit) ?_
  refine wpAny_call ?_
  w_strict (k_dflt (k_extra "my enter"))
  k_extra "my steps"
  unfold Stop
  refine SrcPT.of (by rfl) (by k_asm) (by k_asm) (by k_mem) (by rw [sizeLine_eq]; simp only [List.size_toArray]; omega) ?_
  intro g'
  refine restPT_vars (by assumption) (by k_extra "my sub") (by k_mem) ?step ?fin
  case step =>
    intro u q ys I oI C oC D m₂ h tk E' hq hC hy F' N'
    k_extra "my steps"
    refine BoolE.intro (fun hb => ?_) (fun hb => ?_)
    · cases q <;> (first | (exact absurd hb Bool.false_ne_true) | skip)
      all_goals (cases hq; k_extra "my steps")
      all_goals exact VarE.intro (by assumption) (by assumption) (fun _ h => h)
    · exact VarN.intro (by assumption) (by assumption) (fun _ h => h)
  case fin =>
    intro ys hys
    have hyl := StrsAre.length hys
    have hvl := varsOf_len p.subs
    intro D' h' tk' F' N' off'
    k_extra "my steps"
    (rename Fr h₀ L _ m => fX); (rename News h₀ L _ _ => nX); (rename StrsAre _ _ => sX); (rename ∀ x, x ∈ _ ↔ _ => xX);
    exact ret _ _ _ _ _ _ _ fX (fun p hp => nX p (by rcases List.mem_cons.mp hp with rfl | hp; exact .head _; simp only [List.mem_cons, List.mem_append, hp, true_or, or_true])) (lt_sub (by assumption) (by k_extra "my sub")) sX xX (by omega)
section
variable {prog : Program} {w : World} {A : Around} {E : Value → Shared → Prop} {s : Shared} {env : Env} {h₀ : Heap} {elts : List PySem.Expr} {kk : Nat} {tp : Pos} {body : List Stmt} {Q : Flow → Shared → Prop}
def OneEnd (h₀ : Heap) (L : Addr) (s₁ : Shared) (I : Addr) (oI : Obj) (src : Addr × Obj) (Q : Flow → Shared → Prop) (f : Flow) (s₃ : Shared) : Prop :=
  f = .next ∧ ∃ h' tk' d' m' news', s₃ = { s₁ with heap := h', toks := tk', drawn := d' } ∧ Fr h₀ L h' m' ∧ News h₀ L h' ((I, oI) :: news') ∧ src ∈ news' ∧ (∀ p ∈ news', p.1 ≠ I) ∧
    ∀ h'' tk'', Fr h₀ L h'' m' → News h₀ L h'' news' → Q .next { s₁ with heap := h'', toks := tk'', drawn := d' }
theorem OneEnd.intro {L I : Addr} {s₁ : Shared} {oI : Obj} {src : Addr × Obj} {h' : Heap} {tk' : Nat} {d' : Drawn} {m' : Str → Option Value} {news' all : List (Addr × Obj)} (F : Fr h₀ L h' m') (N : News h₀ L h' all) (hs : ∀ p ∈ (I, oI) :: news', p ∈ all) (hsrc : src ∈ news') (off : ∀ p ∈ news', p.1 ≠ I)
    (h : ∀ h'' tk'', Fr h₀ L h'' m' → News h₀ L h'' news' → Q .next { s₁ with heap := h'', toks := tk'', drawn := d' }) : OneEnd h₀ L s₁ I oI src Q .next { s₁ with heap := h', toks := tk', drawn := d' } :=
  ⟨rfl, h', tk', d', m', news', rfl, F, fun p hp => N p (hs p hp), hsrc, off, h⟩
def OneSrc (prog : Program) (w : World) (A : Around) (E : Value → Shared → Prop) (h₀ : Heap) (env : Env) (target : PySem.Expr) (body : List Stmt) (Q : Flow → Shared → Prop) (xv : Value) (s₁ : Shared) : Prop :=
  ∃ (ax t : Addr) (k : Nat) (m : Str → Option Value) (news : List (Addr × Obj)), xv = .ref ax ∧ A.handled = none ∧ Fr h₀ env.locals s₁.heap m ∧ News h₀ env.locals s₁.heap news ∧ (ax, listOf #[.ref t] k) ∈ news ∧
    ∀ I oI h tk, Fr h₀ env.locals h m → News h₀ env.locals h ((I, oI) :: news) → (∀ p ∈ news, p.1 < I) →
      wpAny (model prog w) A (assign target env (.ref t)) (fun _ s₂ => wpAny (model prog w) A (execs body env) (OneEnd h₀ env.locals { s₁ with heap := h, toks := tk } I oI (ax, listOf #[.ref t] k) Q) E s₂) E { s₁ with heap := h, toks := tk }
theorem OneSrc.of {ax t : Addr} {k : Nat} {m : Str → Option Value} {news : List (Addr × Obj)} {s₁ : Shared} (hh : A.handled = none) (F : Fr h₀ env.locals s₁.heap m) (N : News h₀ env.locals s₁.heap news) (hm : (ax, listOf #[.ref t] k) ∈ news)
    (h : ∀ I oI h tk, Fr h₀ env.locals h m → News h₀ env.locals h ((I, oI) :: news) → (∀ p ∈ news, p.1 < I) →
      wpAny (model prog w) A (assign (.Tuple elts kk tp) env (.ref t)) (fun _ s₂ => wpAny (model prog w) A (execs body env) (OneEnd h₀ env.locals { s₁ with heap := h, toks := tk } I oI (ax, listOf #[.ref t] k) Q) E s₂) E { s₁ with heap := h, toks := tk }) :
    OneSrc prog w A E h₀ env (.Tuple elts kk tp) body Q (.ref ax) s₁ := ⟨ax, t, k, m, news, rfl, hh, F, N, hm, h⟩
theorem For_one {iter : PySem.Expr} {pos : Pos} {m : Str → Option Value} (_F : Fr h₀ env.locals s.heap m)
    (h : wpAny (model prog w) A (eval iter env) (OneSrc prog w A E h₀ env (.Tuple elts kk tp) body Q) E s)
    (hs : ∀ x, foldedSetIterable iter env x = pure x) (hE : PassesOwn (model prog w) A env E) :
    wpAny (model prog w) A (exec (.For (.Tuple elts kk tp) iter body [] pos) env) Q E s := by
  refine wpAny_For (wpAny_mono h (fun xv s₁ h₁ => ?_) fun _ _ e => e) hs
  obtain ⟨ax, t, k, m, news, rfl, hh, F, N, hm, step⟩ := h₁
  have hl : s₁.heap.IsList ax #[.ref t] := ⟨_, (N _ hm).1, rfl, _, rfl⟩
  have hlt : ax < s₁.heap.objs.size := Heap.lt_size (N _ hm).1
  refine wpAny_pyIter_list hl ?_
  generalize hH : s₁.heap.push { cls := .type "list_iterator", data := .fields #[.ref ax, .int 0 0] } = H
  have hit : H.IsListIter s₁.heap.objs.size ax 0 := by rw [← hH]; exact ⟨_, Heap.get?_push_size _ rfl, rfl, rfl⟩
  have up : ∀ b o, s₁.heap.get? b = some o → H.get? b = some o := fun b o e => by rw [← hH]; exact Heap.get?_push_of_some _ e
  have hne : ax ≠ s₁.heap.objs.size := Nat.ne_of_lt hlt
  have W := Walks.list (prog := prog) (w := w) (A := A) hh s₁.heap.objs.size ax hne #[.ref t]
  have hI₀ : h₀.get? s₁.heap.objs.size = none := next_is_new F
  have hLI : env.locals ≠ s₁.heap.objs.size := Nat.ne_of_lt F.ns.lt
  obtain ⟨PP, hPP⟩ : ∃ PP : Nat → Shared → Prop, ∀ n s', PP n s' ↔ ((n = 2 ∧ s' = { s₁ with heap := H }) ∨ (n = 1 ∧ ∃ h' tk' d' m' news', s' = { s₁ with heap := h', toks := tk', drawn := d' } ∧ Fr h₀ env.locals h' m' ∧ h'.IsListIter s₁.heap.objs.size ax 1 ∧ h'.IsList ax #[.ref t] ∧ News h₀ env.locals h' news' ∧ (∀ p ∈ news', p.1 ≠ s₁.heap.objs.size) ∧
      ∀ h'' tk'', Fr h₀ env.locals h'' m' → News h₀ env.locals h'' news' → Q .next { s₁ with heap := h'', toks := tk'', drawn := d' })) := ⟨_, fun _ _ => Iff.rfl⟩
  refine codeAny_forLoop_any PP ?_ 2 ((hPP _ _).mpr (.inl ⟨rfl, rfl⟩))
  intro n s' h9
  rcases (hPP _ _).mp h9 with h9 | h9
  · obtain rfl := h9.1; obtain rfl := h9.2
    refine W.item 0 _ _ _ (by simp) ⟨hit, hl.at (up ax)⟩ fun v h₂ tk₂ hPv hst₂ hk₂ => ?_
    obtain rfl : Value.ref t = v := by simpa using hPv
    refine wpAny_letOwnedTupleGo_listiter (s := { s₁ with heap := h₂, toks := tk₂ }) hst₂.1 ?_
    obtain ⟨oI, hoI, rI⟩ := hst₂.1
    have keep : ∀ b o, s₁.heap.get? b = some o → h₂.get? b = some o := fun b o e => hk₂ b o (by simpa using Nat.ne_of_lt (Heap.lt_size e)) (up b o e)
    refine wpAny_mono (step s₁.heap.objs.size oI h₂ tk₂ (F.keeps keep) (fun p hp => ?_) fun p hp => Heap.lt_size (N p hp).1) (fun _ s₂ h₂' => wpAny_mono (wpAny_passesOwn hE h₂') (fun f s₃ h₃ => ?_) fun _ _ e => e) hE
    · rcases List.mem_cons.mp hp with rfl | hp
      · exact ⟨hoI, Ne.symm hLI, hI₀⟩
      · exact ⟨keep _ _ (N p hp).1, (N p hp).2⟩
    · obtain rfl := h₃.1
      obtain ⟨h', tk', d', m', news', h9⟩ := h₃.2
      obtain rfl := h9.1
      have F' := h9.2.1; have N' := h9.2.2.1; have hsrc := h9.2.2.2.1; have off := h9.2.2.2.2.1; have fin := h9.2.2.2.2.2
      clear h9
      exact ⟨1, by omega, (hPP _ _).mpr (.inr ⟨rfl, h', tk', d', m', news', rfl, F', ⟨oI, (N' _ (.head _)).1, rI⟩, ⟨_, (N' _ (.tail _ hsrc)).1, rfl, _, rfl⟩, fun p hp => N' p (.tail _ hp), off, fin⟩)⟩
  · obtain rfl := h9.1
    obtain ⟨h', tk', d', m', news', h9⟩ := h9.2
    obtain rfl := h9.1
    have F' := h9.2.1; have hit' := h9.2.2.1; have hl' := h9.2.2.2.1; have N' := h9.2.2.2.2.1; have off' := h9.2.2.2.2.2.1; have fin := h9.2.2.2.2.2.2
    clear h9
    refine W.done _ _ _ ⟨hit', hl'⟩ fun h₂ tk₂ hk₂ => wpAny_execs_nil ?_
    have keep : ∀ b o, b ≠ s₁.heap.objs.size → h'.get? b = some o → h₂.get? b = some o := fun b o hb e => hk₂ b o (by simpa using hb) e
    exact fin h₂ tk₂ ⟨F'.ns.at' fun o e => keep _ o hLI e, fun b o e => keep b o (fun q => by rw [q, hI₀] at e; cases e) (F'.keep b o e), F'.above⟩ fun p hp => ⟨keep _ _ (off' p hp) (N' p hp).1, (N' p hp).2⟩
end
theorem w84 : True := by
  w_top off
  k_with_none
  k_with "my k_all" => (k_dflt (first | assumption | exact all_ne_sub9 (by assumption) (by k_extra "my sub") | exact all_ne_u0 (by assumption) (by k_extra "my sub") | exact all_ne_u1 (by assumption) (by k_extra "my sub") | exact all_ne_u2 (by assumption) (by k_extra "my sub") | exact all_ne_u3 (by assumption) (by k_extra "my sub") | exact all_ne_u4 (by assumption) (by k_extra "my sub") | (refine List.forall_mem_append.mpr ⟨?_, ?_⟩ <;> k_all)))
  k_with "my ktr_room" => (((try simp only [depth_under_make, depth_under_kw, depth_in1, depth_deeper, depth_caller]); (try dsimp only [ktrTop]); (try simp only [recursionLimit]); k_extra "my room"))
  k_with "my room" => (first | exact Nat.le_of_ble_eq_true rfl | exact rm0 hd rfl | exact rm1 hd rfl | exact rm5 hd rfl | exact rm6 hd rfl | exact rm4 hd rfl | exact rm2 hd rfl | exact rm3 hd rfl | exact rm7 hd rfl | exact rm8 (by assumption) rfl | omega)
  k_with "my units" => (first | exact Nat.le_of_ble_eq_true rfl | exact rm0 hu rfl | exact rm1 hu rfl | exact rm5 hu rfl | exact rm6 hu rfl | exact rm4 hu rfl | exact rm2 hu rfl | exact rm3 hu rfl | exact rm7 hu rfl | exact rm8 (by assumption) rfl | exact um1 hu rfl | exact um2 hu rfl | exact um3 hu rfl | exact um4 hu rfl | exact um5 hu rfl | (have hcL9 := cLine_is; omega))
  k_with "my dep" => (first | assumption | exact dm1 hdp | exact dm2 hdp | exact dm0 hdp | omega)
  k_with "my ktr_units" => (((try simp only [units_in1, units_deeper, Around.mark_units, units_caller]); (try dsimp only [ktrTop]); k_extra "my units"))
  k_with "my k_room" => (ktr_room)
  k_with "my k_units" => (ktr_units)
  k_with "my units_room" => (ktr_units)
  k_with "compareOp Eq ref ref" => ((k_here; (with_reducible show wpAny _ _ (compareOp CmpOp.Eq (Value.ref _) (Value.ref _)) _ _ _); first
      | refine' eq_zero_f (by assumption) (by assumption) (by k_extra "my sub") (by k_mem) (by first | rfl | exact mkOf_zero) (by omega) (by ktr_units) ?_
      | refine' eq_zero_t (by assumption) (by assumption) (by k_extra "my sub") (by k_mem) rfl (by omega) (by ktr_units) ?_))
  k_with "my k_ne" => (k_dflt (first | exact off_I (by assumption) (by k_mem) | exact off_C (by assumption) (by k_mem) | exact off_D (by assumption) (by k_mem) | assumption | exact ne_gt9 (by assumption) (by k_mem) | exact ne_lt9 (by assumption) (by k_mem) | exact ne_all9 (by assumption) (by k_mem) | exact ne_all9s (by assumption) (by k_mem) | exact ne_gt_u1 (by assumption) (by k_mem) | exact ne_lt_u1 (by assumption) (by k_mem) | exact ne_gt_u2 (by assumption) (by k_mem) | exact ne_lt_u2 (by assumption) (by k_mem) | exact ne_gt_u3 (by assumption) (by k_mem) | exact ne_lt_u3 (by assumption) (by k_mem) | exact ne_gt_u4 (by assumption) (by k_mem) | exact ne_lt_u4 (by assumption) (by k_mem)))
  k_with "my off" => (first | exact True.intro | (refine And.intro (off_at (by assumption) (by k_mem)) ?_; k_extra "my off") | (refine Off3.append ?_ ?_ <;> k_extra "my off") | (refine Off3.of_sub (by assumption) (fun p hp => ?_); simp only [List.mem_cons, List.mem_append, hp, true_or, or_true]; done) | (refine Off3.of_lt (by assumption) (by k_mem) (by k_mem) (by k_mem)))
  k_with "CompSrc" => ((k_here; k_dflt (refine LCg.CompSrc.range (by rfl) (by k_asm) (by k_asm) (by with_reducible assumption) (by first | decide | rfl) (by first | rfl | decide) (by first | size_fits | exact Nat.le_of_ble_eq_true rfl) ?_; intro g'; lcg_lit)))
  k_with "CompRest" => ((with_unfolding_all first
      | (refine CompRest_at (fun v9 h9 => (Option.some.inj h9).symm) ?_; intro I' oI' C' oC' D' m' h' tk' E' hC' hx' F' N' off' ne'; have offM := off'.mem; clear off')
      | (refine CompRest_ex (fun v9 h9 => h9) ?_; intro t9' I' oI' C' oC' D' m' h' tk' E' hC' hx' F' N' off' ne'; have offM := off'.mem; clear off')
      | (refine LCg.CompRest.succ ?_; intro v' I' oI' C' oC' D' m' h' tk' E' hv' hC' hx' F' N' off' ne'; have offM := off'.mem; (first | lcg_open hv' | (obtain ⟨t9', hv9'⟩ := hv'; subst hv9')); clear off')
      | refine LCg.CompRest.zero ?_))
  k_with "CompEnd" => ((k_here; (refine LCg.CompEnd.intro (by assumption) (by assumption) _ (fun p hp => hp) ?offAO ?srcAO ?_; (case offAO => k_extra "my off"); (case srcAO => first | lcg_src | ((try dsimp only); k_mem)))))
  k_with "my enter" => ((refine' code_def ?k1AP ?k2AP ?k3AP ?k4AP ?k5AP ?kAAP ?kFAP ?kKAP ?k6AP ?k7AP ?k8AP ?k9AP ?kBAP ?_ ?c2AP ?c3AP ?c4AP ?c5AP; (case kAAP => exact rfl); (case kFAP => exact rfl); (case kKAP => first | exact rfl | assumption); (case k1AP => k_asm); (case k2AP => k_asm); (case k3AP => k_asm); (case k4AP => k_asm); (case k5AP => k_asm); (case k6AP => k_is); (case k7AP => k_is); (case k8AP => ktr_room); (case k9AP => exact BindsTo.of_eq rfl); (case c5AP => decide); (case kBAP => exact locs rfl); (case c2AP => exact rfl); (case c3AP => exact rfl); (case c4AP => exact rfl); k_whole; intro g' L' h' FG' F' N' B' X' T'; (try dsimp only); (try k_fold)))
  k_with "my enterC" => ((refine' code_defC ?k1AQ ?k2AQ ?k3AQ ?k4AQ ?k5AQ ?kAAQ ?kFAQ ?kKAQ ?k6AQ ?k7AQ ?k8AQ ?k9AQ ?kBAQ ?kDAQ ?_ ?c2AQ ?c3AQ ?c4AQ; (case kAAQ => exact rfl); (case kFAQ => exact rfl); (case kKAQ => first | exact rfl | assumption); (case k1AQ => k_asm); (case k2AQ => k_asm); (case k3AQ => k_asm); (case k4AQ => k_asm); (case k5AQ => k_asm); (case k6AQ => k_is); (case k7AQ => k_is); (case k8AQ => ktr_room); (case k9AQ => exact BindsTo.of_eq rfl); (case kBAQ => exact rfl); (case kDAQ => decide +kernel); (case c2AQ => exact rfl); (case c3AQ => exact rfl); (case c4AQ => exact rfl); k_whole; intro g' L' h' tk' cells' FG' F'; (first | (refine cells_in1 ?_; intro o' d1' N') | (refine cells_in2 ?_; intro o' o2' d1' d2' N') | (refine cells_in3 ?_; intro o' o2' o3' d1' d2' d3' N') | (refine cells_in4 ?_; intro o' o2' o3' o4' d1' d2' d3' d4' N')); intro B' X' T' l1; (try k_lt l1); (try dsimp only); (try k_fold)))
  k_with "eval ListComp" => ((k_here; (with_reducible show wpAny _ _ (eval (Expr.ListComp _ [⟨Expr.Name _ _, Expr.Subscript _ (Expr.Slice (some _) _ _ _) _, [], 0⟩] _ _) _) _ _ _); k_dflt (refine comp_tup (by k_asm) (by with_unfolding_all rfl) (by decide) (by rfl) (by decide) (by rfl) ?_)))
  k_with "exec Assign cons ListComp" => ((k_here; (with_reducible show wpAny _ _ (exec (Stmt.Assign [Expr.Name _ _] (Expr.ListComp _ [⟨Expr.Name _ _, Expr.Subscript _ (Expr.Slice (some _) _ _ _) _, [], 0⟩] _ _) _) _) _ _ _); k_dflt (refine comp_tup_assign (by k_asm) (by rfl) (by with_unfolding_all rfl) (by with_unfolding_all rfl) (by decide) (by rfl) (by decide) (by rfl) (by rfl) (by rfl) ?_)))
  k_with "subscriptTail Name Slice ref ref" => ((k_here; (with_reducible show wpAny _ _ (subscriptTail _ (PySem.Expr.Slice (some _) none none _) (Value.ref _) (Value.ref _)) _ _ _); k_dflt (refine' slice_tup1 ?FAT ?NAT ?lAT ?pAT ?eAT ?_ ?sAT ?tAT ?zAT; (case FAT => k_asm); (case NAT => k_asm); (case lAT => k_mem); (case pAT => exact Nat.le_of_ble_eq_true rfl); (case eAT => kl_lit); (case sAT => with_unfolding_all rfl); (case tAT => kmk_pure); (case zAT => kmk_size)); intro D' h' F' N' l1; (try k_lt l1); (try k_sweep)))
  k_with "TupSrc" => ((k_here; k_dflt (refine TupSrc.of (by rfl) (by k_asm) (by k_asm) (by k_mem) (by first | size_fits | exact Nat.le_of_ble_eq_true rfl) ?_; intro g'; lcg_lit)))
  k_with "my steps" => (repeat' ((fail_if_success (with_reducible show Ret _ _ _)); first | ((with_reducible show wpAny _ _ (call (Value.ref _) _ _) _ _ _); k_extra "my call") | ((fail_if_success ((with_reducible show wpAny _ _ (call (Value.ref _) _ _) _ _ _); k_extra "my nocall")); first | (k_unfold; (try dsimp only)) | walk1 | (dsimp only; walk1) | (leave1; walk_say "STEP leave1"; try dsimp only))))
  k_with "my sub" => (first | (with_reducible exact sub_self _) | (with_reducible refine sub_cons ?_; k_extra "my sub") | (with_reducible refine sub_left ?_; k_extra "my sub") | (with_reducible refine sub_right ?_; k_extra "my sub") | (intro p hp; simp only [List.mem_cons, List.mem_append, hp, true_or, or_true]; done))
  k_with "my ord" => (k_dflt (first | assumption | exact lt_all (by assumption) (by k_mem) | exact lt_all_u1 (by assumption) (by k_mem) | exact lt_all_u2 (by assumption) (by k_mem) | omega))
  k_with "my allLt" => (first | exact allLt_of (by assumption) | exact allLt_sub (by assumption) (by k_extra "my sub") | tbn_find)
  k_with "FinE" => (((unfold LCg.FinE); intro D' h' tk' F' N' o1'; replace o1' := off1_mem o1'; (try dsimp only [List.nil_append, List.cons_append] at N'); (try dsimp only [List.nil_append, List.cons_append] at o1'); (try dsimp only)))
  k_with "FinA" => (((unfold LCg.FinA); intro D' h' tk' F' N' o1'; replace o1' := off1_mem o1'; (try dsimp only [List.nil_append, List.cons_append] at N'); (try dsimp only [List.nil_append, List.cons_append] at o1'); (try dsimp only)))
  k_with "my omega" => (first
      | ((with_reducible show @LE.le Nat _ _ _); first | exact Nat.le_of_ble_eq_true rfl | with_reducible (first | exact o1 ‹_› (by decide) | exact o4 ‹_› (by decide) | exact o7 ‹_› (by decide) | exact o8 ‹_› (by decide) | exact o9 ‹_› (by decide) | exact q6 ‹_› (by decide) | exact q0 ‹_› (by decide) | exact r0 ‹_› (by decide) | exact q1 ‹_› ‹_› (by decide) | exact q3 ‹_› ‹_› (by decide) | exact q7 ‹_› ‹_› (by decide) | exact q8 ‹_› ‹_› (by decide) | exact q9 ‹_› ‹_› | exact r1 ‹_› ‹_› (by decide) | exact r2 ‹_› ‹_› | exact r4 ‹_› ‹_› | exact r8 ‹_› ‹_› (by decide) | exact o0 ‹_› (by decide) | exact Nat.add_le_add ‹_› ‹_› | exact Nat.le_add_left _ _ | exact Nat.le_of_lt ‹_›))
      | ((with_reducible show @LT.lt Nat _ _ _); first | exact Nat.le_of_ble_eq_true rfl | with_reducible (first | exact o2 ‹_› (by decide) | exact o3 ‹_› (by decide) | exact o5 ‹_› (by decide) | exact o6 ‹_› (by decide) | exact p5 ‹_› (by decide) | exact j6 ‹_› (by decide) | exact q2 ‹_› ‹_› (by decide) | exact q4 ‹_› ‹_› (by decide) | exact q5 ‹_› ‹_› (by decide) | exact p1 ‹_› ‹_› (by decide) | exact p2 ‹_› ‹_› (by decide) | exact p3 ‹_› ‹_› (by decide) | exact p4 ‹_› ‹_› (by decide) | exact p6 ‹_› ‹_› (by decide)))
      | ((with_reducible show @LE.le Int _ _ _); first | decide +kernel | with_reducible (first | exact i1 ‹_› | exact i2 ‹_› | exact i6 | exact i7 | exact j7 ‹_› | exact j4 ‹_› (by decide +kernel) | exact i8 ‹_› (by decide +kernel) | exact i9 ‹_› (by decide +kernel) | exact i3 ‹_› ‹_› | exact i4 ‹_› ‹_› | exact i5 ‹_› ‹_›))
      | ((with_reducible show @LT.lt Int _ _ _); first | decide +kernel | with_reducible (first | exact j1 ‹_› | exact j5 (by decide +kernel) | exact j3 ‹_› (by decide +kernel) | exact j8 ‹_› (by decide +kernel) | exact j9 ‹_› (by decide +kernel) | exact l1 ‹_› (by decide +kernel) | exact l2 ‹_› (by decide +kernel) | exact l3 ‹_› (by decide +kernel) | exact j0 ‹_› ‹_› (by decide +kernel)))
      | ((with_reducible show @Ne Nat _ _); with_reducible (first | exact Nat.ne_of_gt ‹_› | exact Nat.ne_of_lt ‹_› | exact Nat.succ_ne_self _ | exact (Nat.succ_ne_self _).symm))
      | with_reducible (first | exact j2 ‹_› | exact z4 ‹_› ‹_› | exact z6 ‹_› ‹_› | exact z3 ‹_› | exact z2 ‹_› ‹_›))
  k_with "my call" => ((k_here; (with_reducible show wpAny _ _ (call (Value.ref 91) [_]) _ _ _); (with_reducible rename PartsFor _ _ => ih9ET); k_dflt (refine' ih9ET ?ktET ?k1ET ?k2ET ?k3ET ?k4ET ?k5ET ?kKET ?k6ET ?k7ET ?k8ET ?k13ET ?k14ET ?_; (case k1ET => k_asm); (case k2ET => k_asm); (case k3ET => k_asm); (case k4ET => k_asm); (case k5ET => k_asm); (case kKET => first | exact rfl | assumption); (case k6ET => assumption); (case ktET => assumption); (case k7ET => k_extra "my sub2"); (case k8ET => assumption); (case k13ET => ktr_room); (case k14ET => ktr_units); k_whole); intro D' vs' n' tl' h' tk' F' N' htl' hp'; have hvl' := hp'.length; (try dsimp only [List.cons_append, List.nil_append] at N'); (try simp only [List.append_assoc, List.cons_append, List.nil_append] at N'); (try k_sweep)))
  k_with "my nocall" => (first | (with_reducible show wpAny _ _ (call (Value.ref 91) _) _ _ _))
  k_with "my call" => ((k_here; (with_reducible show wpAny _ _ (call (Value.ref 91) [_]) _ _ _); k_dflt (refine' parts_all _ ?k1FC ?k2FC ?k3FC ?k4FC ?k5FC ?kKFC ?k6FC ?k7FC ?k8FC ?k13FC ?k14FC ?_; (case k1FC => k_asm); (case k2FC => k_asm); (case k3FC => k_asm); (case k4FC => k_asm); (case k5FC => k_asm); (case kKFC => first | exact rfl | assumption); (case k6FC => assumption); (case k7FC => k_extra "my sub2"); (case k8FC => omega); (case k13FC => ktr_room); (case k14FC => ktr_units); k_whole); intro D' vs' n' tl' h' tk' F' N' htl' hp'; have hvl' := hp'.length; (try dsimp only [List.cons_append, List.nil_append] at N'); (try simp only [List.append_assoc, List.cons_append, List.nil_append] at N'); (try k_sweep)))
  k_with "my call" => ((k_here; (with_reducible show wpAny _ _ (call (Value.ref 81) [_]) _ _ _); k_dflt (refine' isvar_all _ ?k1FD ?k2FD ?k3FD ?k4FD ?k5FD ?kKFD ?k6FD ?k13FD ?k14FD ?_; (case k1FD => k_asm); (case k2FD => k_asm); (case k3FD => k_asm); (case k4FD => k_asm); (case k5FD => k_asm); (case kKFD => first | exact rfl | assumption); (case k6FD => exact PatIn.mono (by assumption) (by k_extra "my sub2")); (case k13FD => ktr_room); (case k14FD => ktr_units); k_whole); intro h' tk' F' N'; (try k_sweep)))
  k_with "my nocall" => (first | (with_reducible show wpAny _ _ (call (Value.ref 91) _) _ _ _) | (with_reducible show wpAny _ _ (call (Value.ref 81) _) _ _ _))
  trivial
theorem w84a : True := by
  k_with "my lt9" => (k_dflt (first | assumption | exact lt_sub9 (by assumption) (by k_extra "my sub") | exact lt_sub29 (by assumption) (by assumption) (by k_extra "my sub")))
  trivial
abbrev ruleObj (w : World) (t1 t2 t3 t4 tn : Tok) (nm : Str) (vl vr : Value) (nd : Addr) : Obj := dictOf [{ hash := PyData.keyHash w.params (Str.ofString "name"), key := Value.str (Str.ofString "name") t1, val := Value.str nm tn }, { hash := PyData.keyHash w.params (Str.ofString "left"), key := Value.str (Str.ofString "left") t2, val := vl }, { hash := PyData.keyHash w.params (Str.ofString "right"), key := Value.str (Str.ofString "right") t3, val := vr }, { hash := PyData.keyHash w.params (Str.ofString "needs"), key := Value.str (Str.ofString "needs") t4, val := .ref nd }] 4
theorem w84b : True := by
  k_with "my k_enter" => (first | k_extra "my enter" | k_extra "my enterC")
  k_with "my ktr_units" => (((try simp only [units_under_make, units_in1, units_deeper, Around.mark_units, units_caller]); (try dsimp only [ktrTop]); k_extra "my units"))
  trivial
theorem isvar_no {w : World} {p : Pat} (hv : p.isVar = false) {mean : ExcName → Option Value} {mg mb : Str → Option Value}
    {dp un : Nat} {gd : Option (List Code)} {cn : Str} {cs : Scope} {a : Addr} {ccd : Value} {cl : List (Str × Addr)} {outer : List Env} {A₀ : Around} {base h₀ : Heap} {L : Addr} {m : Str → Option Value} {news : List (Addr × Obj)} {s : Shared}
    {Q E : Value → Shared → Prop} {v : Value}
    (B : Below A₀ base outer h₀) (F : Fr h₀ L s.heap m) (X : (hd.heap_1 w.params).In h₀) (N : News h₀ L s.heap news)
    (T : Top view LO mean mg mb h₀) (hk : cs.kind = .function) (hin : PatIn news v p) (hd : dp < 850) (hu : un < 4500)
    (ret : ∀ h' tk', Fr h₀ L h' m → News h₀ L h' news → Q (.bool false) { s with heap := h', toks := tk' }) :
    wpAny (model PySem.Challenge.rw_pq0002_01.row.prog w) (ktrTop dp un gd cn cs L a ccd cl outer) (call (.ref 81) [v]) Q E s :=
  isvar_all p B F X N T hk hin hd hu (hv ▸ ret)
theorem restT_none {prog : Program} {w : World} {A : Around} {h₀ : Heap} {L : Addr} {m : Str → Option Value} {env : Env} {s : Shared} {ct elt : PySem.Expr} {x : Str} {scope : Scope} {cl : List (Str × Addr)} {Fin : List Value → List (Addr × Obj) → Prop} {S : List (Addr × Obj) → Prop}
    {vs : List Value} {ss : List Str} {base : List (Addr × Obj)} {G : Str → Prop} (hss : StrsAre vs ss) (hG : ∀ y ∈ ss, G y) (hS : S base)
    (step : ∀ y t I oI C oC D m₂ h tk (E' : Value → Shared → Prop), G y → LCg.NsObj oC m₂ → m₂ x = some (.str y t) → Fr h₀ L h m → News h₀ L h ((I, oI) :: (C, oC) :: (D, LCg.lst []) :: base) →
      wpAny (model prog w) A (isTrue ct (compEnvC scope cl C env) (eval ct (compEnvC scope cl C env))) (fun ok s₃ => BoolE false ok True (VarN h₀ L m { s with heap := h, toks := tk } ((I, oI) :: (C, oC) :: (D, LCg.lst []) :: base) s₃)) E' { s with heap := h, toks := tk })
    (fin : Fin [] base) : LCt.CompRestT prog w A h₀ L m env ct elt x scope cl s S (fun i v => vs.toArray[i]? = some v) Fin vs.toArray.size 0 [] base := by
  have main : ∀ k i, LCt.CompRestT prog w A h₀ L m env ct elt x scope cl s S (fun i v => vs.toArray[i]? = some v) Fin k i [] base := by
    intro k
    induction k with
    | zero => intro i; exact fin
    | succ k ih =>
      intro i v I oI C oC D m₂ h tk E' hv hC hx F N off ne
      obtain ⟨y, t, rfl, hy⟩ := strs_at hss i v (by simpa using hv)
      refine wpAny_mono (step y t I oI C oC D m₂ h tk E' (hG y (List.mem_of_getElem? hy)) hC hx F N) (fun ok s₃ h₃ => ?_) fun _ _ e => e
      obtain ⟨rfl, h₃⟩ := h₃
      obtain ⟨h', tk', rfl, F', N'⟩ := (show VarN _ _ _ _ _ _ from h₃)
      simp only [Bool.false_eq_true, if_false]
      exact LCg.CompEnd.intro F' N' base (fun p hp => hp) off hS (ih (i + 1))
  exact main _ 0
theorem notin_no {prog : Program} {w : World} {A : Around} {E : Value → Shared → Prop} {s : Shared} {h₀ : Heap} {L l : Addr} {vs : List Value} {ss : List Str} {k : Str} {t : Tok} {n : Nat} {news : List (Addr × Obj)} {Q : Value → Shared → Prop} (N : News h₀ L s.heap news) (hm : (l, listOf vs.toArray n) ∈ news) (hi : StrsAre vs ss) (hk : k ∈ ss) (h : Q (.bool false) s) :
    wpAny (model prog w) A (compareOp .NotIn (.str k t) (.ref l)) Q E s := by
  refine notin_list_strs ⟨_, (N _ hm).1, rfl, _, rfl⟩ hi ?_
  have : ss.any (· == k) = true := List.any_eq_true.mpr ⟨k, hk, by simp⟩
  rw [this]; exact h
theorem OneEnd.keep4 {h₀ : Heap} {L I xa rd nd : Addr} {s₁ : Shared} {oI od : Obj} {src : Addr × Obj} {en : Nat} {h' : Heap} {tk' : Nat} {d' : Drawn} {m' : Str → Option Value} {news all l0 pn : List (Addr × Obj)} {Q : Flow → Shared → Prop} (_ : SubOf pn news) (F : Fr h₀ L h' m') (N : News h₀ L h' all) (hI : (I, oI) ∈ all) (h1 : src ∈ all) (h2 : (xa, instObj 113 rd) ∈ all) (h3 : (rd, od) ∈ all) (h4 : (nd, tupObj #[] en) ∈ all) (h5 : ∀ p ∈ news, p ∈ all)
    (lt : ∀ p ∈ l0, p.1 < I) (k1 : src ∈ l0) (k2 : (xa, instObj 113 rd) ∈ l0) (k3 : (rd, od) ∈ l0) (k4 : (nd, tupObj #[] en) ∈ l0) (k5 : ∀ p ∈ news, p ∈ l0)
    (h : ∀ h'' tk'', Fr h₀ L h'' m' → News h₀ L h'' (src :: (xa, instObj 113 rd) :: (rd, od) :: (nd, tupObj #[] en) :: news) → Q .next { s₁ with heap := h'', toks := tk'', drawn := d' }) : OneEnd h₀ L s₁ I oI src Q .next { s₁ with heap := h', toks := tk', drawn := d' } := by
  refine OneEnd.intro (news' := src :: (xa, instObj 113 rd) :: (rd, od) :: (nd, tupObj #[] en) :: news) F N (fun p hp => ?_) (.head _) (fun p hp => ?_) h
  · simp only [List.mem_cons] at hp
    rcases hp with rfl | rfl | rfl | rfl | rfl | hp
    · exact hI
    · exact h1
    · exact h2
    · exact h3
    · exact h4
    · exact h5 p hp
  · refine Nat.ne_of_lt (lt p ?_)
    simp only [List.mem_cons] at hp
    rcases hp with rfl | rfl | rfl | rfl | hp
    · exact k1
    · exact k2
    · exact k3
    · exact k4
    · exact k5 p hp
theorem add_strs {prog : Program} {w : World} {A : Around} {E : Value → Shared → Prop} {s : Shared} {h₀ : Heap} {L l b : Addr} {m : Str → Option Value} {vs ws : List Value} {ss rs : List Str} {n1 n2 : Nat} {news : List (Addr × Obj)} {Q : Value → Shared → Prop} (F : Fr h₀ L s.heap m) (N : News h₀ L s.heap news)
    (h1 : (l, listOf vs.toArray n1) ∈ news) (h2 : (b, listOf ws.toArray n2) ∈ news) (s1 : StrsAre vs ss) (s2 : StrsAre ws rs) (z : vs.length + ws.length ≤ 1000)
    (h : ∀ D h', Fr h₀ L h' m → News h₀ L h' ((D, listOf (vs ++ ws).toArray 0) :: news) → (∀ p ∈ news, p.1 < D) → StrsAre (vs ++ ws) (ss ++ rs) → (vs ++ ws).length ≤ 1000 → Q (.ref D) { s with heap := h' }) :
    wpAny (model prog w) A (binaryOp .Add (.ref l) (.ref b)) Q E s :=
  add_lists F N ⟨_, (N _ h1).1, rfl, _, rfl⟩ ⟨_, (N _ h2).1, rfl, _, rfl⟩ (fun h' F' N' => h _ h' F' N' (fun p hp => Heap.lt_size (N p hp).1) (s1.append' s2) (by rw [List.length_append]; exact z)) (by rw [sizeLine_eq]; omega)
theorem G_of {ss rs ssK : List Str} {V U : List Str} (h1 : ∀ x, x ∈ ss ↔ x ∈ V) (hsub : ∀ x ∈ V, x ∈ U) (h2 : ∀ x, x ∈ rs ↔ x ∈ V) (hK : ∀ x, x ∈ ssK ↔ x ∈ U) : ∀ y ∈ ss ++ rs, y ∈ ssK := fun y hy => (hK y).mpr (hsub y ((List.mem_append.mp hy).elim (h1 y).mp (h2 y).mp))
def RuleSpec (w : World) (p q : Pat) : Prop :=
  ∀ {mean : ExcName → Option Value} {mg mb : Str → Option Value}
    {dp un : Nat} {gd : Option (List Code)} {cn : Str} {cs : Scope} {a : Addr} {ccd : Value} {cl : List (Str × Addr)} {outer : List Env} {A₀ : Around} {base h₀ : Heap} {L : Addr} {m : Str → Option Value} {news : List (Addr × Obj)} {s : Shared}
    {Q E : Value → Shared → Prop} {vl vr : Value} {pn : List (Addr × Obj)} {nm : Str} {tn : Tok} {nd : Addr} {en : Nat}
    (_ : Below A₀ base outer h₀) (_ : Fr h₀ L s.heap m) (_ : (hd.heap_1 w.params).In h₀) (_ : News h₀ L s.heap news)
    (_ : Top view LO mean mg mb h₀) (_ : cs.kind = .function) (_ : PatIn pn vl p) (_ : PatIn pn vr q) (_ : ∀ q ∈ pn, q ∈ news) (_ : (nd, tupObj #[] en) ∈ news) (_ : dp < 600) (_ : un < 3000)
    (_ : ∀ x rd t1 t2 t3 t4 h' tk' dr, Fr h₀ L h' m → News h₀ L h' ((x, instObj 113 rd) :: (rd, ruleObj w t1 t2 t3 t4 tn nm vl vr nd) :: news) → (∀ q ∈ news, q.1 < rd) → rd < x → Q (.ref x) { s with heap := h', toks := tk', drawn := dr }),
    wpAny (model PySem.Challenge.rw_pq0002_01.row.prog w) (ktrTop dp un gd cn cs L a ccd cl outer) (call (.ref 113) [.str nm tn, vl, vr, .ref nd]) Q E s
theorem w84c : True := by
  k_with "my k_all" => ((tbn_letter; refine tbn_neAll (tbn_up (Nat.lt_succ_self _) ?_); first | tbn_find | exact allLt_of (by assumption)))
  k_with "my sub2" => ((intro p9 hp9; have hq9 := SubOf.use (by assumption) hp9; simp only [List.mem_cons, List.mem_append, hq9, true_or, or_true]; done))
  k_with "my call" => ((k_here; (with_reducible show wpAny _ _ (call (Value.ref 81) [_]) _ _ _); k_dflt (refine' isvar_no ?kvFP ?k1FP ?k2FP ?k3FP ?k4FP ?k5FP ?kKFP ?k6FP ?k13FP ?k14FP ?_; (case k1FP => k_asm); (case k2FP => k_asm); (case k3FP => k_asm); (case k4FP => k_asm); (case k5FP => k_asm); (case kKFP => first | exact rfl | assumption); (case k6FP => exact PatIn.mono (by assumption) (by k_extra "my sub2")); (case kvFP => assumption); (case k13FP => ktr_room); (case k14FP => ktr_units); k_whole); intro h' tk' F' N'; (try k_sweep)))
  k_with "my call" => ((k_here; (with_reducible show wpAny _ _ (call (Value.ref 86) [_]) _ _ _); k_dflt (refine' vars_all _ ?k1FQ ?k2FQ ?k3FQ ?k4FQ ?k5FQ ?kKFQ ?k6FQ ?k7FQ ?k8FQ ?k13FQ ?k14FQ ?_; (case k1FQ => k_asm); (case k2FQ => k_asm); (case k3FQ => k_asm); (case k4FQ => k_asm); (case k5FQ => k_asm); (case kKFQ => first | exact rfl | assumption); (case k6FQ => assumption); (case k7FQ => k_extra "my sub2"); (case k8FQ => assumption); (case k13FQ => ktr_room); (case k14FQ => ktr_units); k_whole); intro D' vs' ss' n' h' tk' d' F' N' l1 hs' hx' hl'; have l1a := l1; (try k_lt l1); (try k_sweep)))
  k_with "my nocall" => (first | (with_reducible show wpAny _ _ (call (Value.ref 86) _) _ _ _) | (with_reducible show wpAny _ _ (call (Value.ref 81) _) _ _ _))
  k_with "exec For Tuple Name cons nil" => ((k_here; (rename Fr _ _ _ _ => lF'FS); (refine' For_one lF'FS ?_ ?hsFS ?hEFS; (case hsFS => intro _; rfl); (case hEFS => exact PassesOwn.leaving))))
  k_with "OneSrc" => ((k_here; k_dflt (refine' OneSrc.of ?hFT ?FFT ?NFT ?mFT ?_; (case hFT => exact rfl); (case FFT => k_asm); (case NFT => k_asm); (case mFT => k_mem)); intro I' oI' h' tk' F' N' l1))
  k_with "exec Assign cons ListComp" => ((k_here; (with_reducible show wpAny _ _ (exec (Stmt.Assign [Expr.Name _ _] (Expr.ListComp _ [⟨Expr.Name _ _, Expr.BinOp _ _ _ _, [_], 0⟩] _ _) _) _) _ _ _); k_dflt (refine LCt.Assign_ListComp_T (F₀ := by k_asm) (by rfl) (by with_unfolding_all rfl) (by with_unfolding_all rfl) (by decide) (by rfl) (by decide) (by rfl) (by rfl) (by rfl) ?_)))
  k_with "binaryOp Add ref ref" => ((k_here; k_dflt (refine' add_strs ?FFV ?NFV ?aFV ?bFV ?sFV ?tFV ?zFV ?_; (case FFV => k_asm); (case NFV => k_asm); (case aFV => k_mem); (case bFV => k_mem); (case sFV => assumption); (case tFV => assumption); (case zFV => omega)); intro D' h' F' N' l1 hs' hz'; have l1a := l1; (try k_lt l1); (try k_sweep)))
  k_with "CompSrcT" => ((k_here; k_dflt (refine LCt.CompSrcT.ledger (by rfl) (by k_asm) (by k_asm) (by k_mem) (by (rw [sizeLine_eq, List.size_toArray]; omega)) ?_; intro g'; refine restT_none (by assumption) (G_of (by assumption) (by assumption) (by assumption) (by assumption)) (.inr ⟨_, by k_mem, rfl, _, rfl⟩) ?_ ?_); (intro y' t' I' oI' C' oC' D' m' h' tk' E' hG' hC' hx' F' N'; (try dsimp only at hG')); rotate_left; (intro D' h' tk' F' N' off'); rotate_left))
  k_with "compareOp NotIn str ref" => ((k_here; k_dflt (refine' notin_no ?NFX ?mFX ?iFX ?kFX ?_; (case NFX => k_asm); (case mFX => k_mem); (case iFX => assumption); (case kFX => assumption))))
  k_with "BoolE" => ((k_here; exact BoolE.intro (fun h => absurd h Bool.false_ne_true) (fun _ => VarN.intro (by assumption) (by assumption) (fun _ h => h))))
  k_with "OneEnd next" => ((k_here; (with_unfolding_all refine' OneEnd.keep4 (by assumption) (by assumption) (by assumption) ?h0FZ ?h1FZ ?h2FZ ?h3FZ ?h4FZ ?h5FZ ?lFZ ?k1FZ ?k2FZ ?k3FZ ?k4FZ ?k5FZ ?_); (case h0FZ => k_mem); (case h1FZ => k_mem); (case h2FZ => k_mem); (case h3FZ => k_mem); (case h4FZ => k_mem); (case h5FZ => k_extra "my sub"); (case lFZ => assumption); (case k1FZ => k_mem); (case k2FZ => k_mem); (case k3FZ => k_mem); (case k4FZ => k_mem); (case k5FZ => k_extra "my sub"); k_whole; intro h' tk' F' N'; (try dsimp only)))
  trivial
theorem newsSub {h₀ h : Heap} {L : Addr} {l all : List (Addr × Obj)} (N : News h₀ L h all) (hs : ∀ p ∈ l, p ∈ all) : News h₀ L h l := fun p hp => N p (hs p hp)
theorem rule_make {w : World} {p q : Pat} (hv : p.isVar = false) (hp60 : p.subs.length ≤ 60) (hq60 : q.subs.length ≤ 60) (hpd : p.depth ≤ 8) (hqd : q.depth ≤ 8) (hsub : ∀ x ∈ varsOf q.subs, x ∈ varsOf p.subs) : RuleSpec w p q := by
  intro mean mg mb dp un gd cn cs a ccd cl outer A₀ base h₀ L m news s Q E vl vr pn nm tn nd en B F X N T hk hl hr hpn hnd hd hu ret
  obtain ⟨sH, sG, sD, sT, sO⟩ := s
  (try dsimp only at F); (try dsimp only at N); (try dsimp only at ret)
  have hpnS : SubOf pn news := hpn
  clear hpn
  replace N := newsCons N hnd
  refine ret_of (α := Unit) ?_
  k_extra "my steps"
  (rename Fr h₀ L _ m => fX); (rename News h₀ L _ _ => nX)
  exact ret _ _ _ _ _ _ _ _ _ fX (newsSub nX (cons_sub (by k_mem) (cons_sub (by k_mem) (by k_extra "my sub")))) (by k_extra "my lt9") (by assumption)
theorem w85 : True := by
  w_top off
  k_with_none
  k_with "my k_all" => (k_dflt (first | assumption | exact all_ne_sub9 (by assumption) (by k_extra "my sub") | exact all_ne_u0 (by assumption) (by k_extra "my sub") | exact all_ne_u1 (by assumption) (by k_extra "my sub") | exact all_ne_u2 (by assumption) (by k_extra "my sub") | exact all_ne_u3 (by assumption) (by k_extra "my sub") | exact all_ne_u4 (by assumption) (by k_extra "my sub") | (refine List.forall_mem_append.mpr ⟨?_, ?_⟩ <;> k_all)))
  k_with "my ktr_room" => (((try simp only [depth_under_make, depth_under_kw, depth_in1, depth_deeper, depth_caller]); (try dsimp only [ktrTop]); (try simp only [recursionLimit]); k_extra "my room"))
  k_with "my room" => (first | exact Nat.le_of_ble_eq_true rfl | exact rm0 hd rfl | exact rm1 hd rfl | exact rm5 hd rfl | exact rm6 hd rfl | exact rm4 hd rfl | exact rm2 hd rfl | exact rm3 hd rfl | exact rm7 hd rfl | exact rm8 (by assumption) rfl | omega)
  k_with "my units" => (first | exact Nat.le_of_ble_eq_true rfl | exact rm0 hu rfl | exact rm1 hu rfl | exact rm5 hu rfl | exact rm6 hu rfl | exact rm4 hu rfl | exact rm2 hu rfl | exact rm3 hu rfl | exact rm7 hu rfl | exact rm8 (by assumption) rfl | exact um1 hu rfl | exact um2 hu rfl | exact um3 hu rfl | exact um4 hu rfl | exact um5 hu rfl | (have hcL9 := cLine_is; omega))
  k_with "my dep" => (first | assumption | exact dm1 hdp | exact dm2 hdp | exact dm0 hdp | omega)
  k_with "my ktr_units" => (((try simp only [units_in1, units_deeper, Around.mark_units, units_caller]); (try dsimp only [ktrTop]); k_extra "my units"))
  k_with "my k_room" => (ktr_room)
  k_with "my k_units" => (ktr_units)
  k_with "my units_room" => (ktr_units)
  k_with "compareOp Eq ref ref" => ((k_here; (with_reducible show wpAny _ _ (compareOp CmpOp.Eq (Value.ref _) (Value.ref _)) _ _ _); first
      | refine' eq_zero_f (by assumption) (by assumption) (by k_extra "my sub") (by k_mem) (by first | rfl | exact mkOf_zero) (by omega) (by ktr_units) ?_
      | refine' eq_zero_t (by assumption) (by assumption) (by k_extra "my sub") (by k_mem) rfl (by omega) (by ktr_units) ?_))
  k_with "my k_ne" => (k_dflt (first | exact off_I (by assumption) (by k_mem) | exact off_C (by assumption) (by k_mem) | exact off_D (by assumption) (by k_mem) | assumption | exact ne_gt9 (by assumption) (by k_mem) | exact ne_lt9 (by assumption) (by k_mem) | exact ne_all9 (by assumption) (by k_mem) | exact ne_all9s (by assumption) (by k_mem) | exact ne_gt_u1 (by assumption) (by k_mem) | exact ne_lt_u1 (by assumption) (by k_mem) | exact ne_gt_u2 (by assumption) (by k_mem) | exact ne_lt_u2 (by assumption) (by k_mem) | exact ne_gt_u3 (by assumption) (by k_mem) | exact ne_lt_u3 (by assumption) (by k_mem) | exact ne_gt_u4 (by assumption) (by k_mem) | exact ne_lt_u4 (by assumption) (by k_mem)))
  k_with "my off" => (first | exact True.intro | (refine And.intro (off_at (by assumption) (by k_mem)) ?_; k_extra "my off") | (refine Off3.append ?_ ?_ <;> k_extra "my off") | (refine Off3.of_sub (by assumption) (fun p hp => ?_); simp only [List.mem_cons, List.mem_append, hp, true_or, or_true]; done) | (refine Off3.of_lt (by assumption) (by k_mem) (by k_mem) (by k_mem)))
  k_with "CompSrc" => ((k_here; k_dflt (refine LCg.CompSrc.range (by rfl) (by k_asm) (by k_asm) (by with_reducible assumption) (by first | decide | rfl) (by first | rfl | decide) (by first | size_fits | exact Nat.le_of_ble_eq_true rfl) ?_; intro g'; lcg_lit)))
  k_with "CompRest" => ((with_unfolding_all first
      | (refine CompRest_at (fun v9 h9 => (Option.some.inj h9).symm) ?_; intro I' oI' C' oC' D' m' h' tk' E' hC' hx' F' N' off' ne'; have offM := off'.mem; clear off')
      | (refine CompRest_ex (fun v9 h9 => h9) ?_; intro t9' I' oI' C' oC' D' m' h' tk' E' hC' hx' F' N' off' ne'; have offM := off'.mem; clear off')
      | (refine LCg.CompRest.succ ?_; intro v' I' oI' C' oC' D' m' h' tk' E' hv' hC' hx' F' N' off' ne'; have offM := off'.mem; (first | lcg_open hv' | (obtain ⟨t9', hv9'⟩ := hv'; subst hv9')); clear off')
      | refine LCg.CompRest.zero ?_))
  k_with "CompEnd" => ((k_here; (refine LCg.CompEnd.intro (by assumption) (by assumption) _ (fun p hp => hp) ?offAO ?srcAO ?_; (case offAO => k_extra "my off"); (case srcAO => first | lcg_src | ((try dsimp only); k_mem)))))
  k_with "my enter" => ((refine' code_def ?k1AP ?k2AP ?k3AP ?k4AP ?k5AP ?kAAP ?kFAP ?kKAP ?k6AP ?k7AP ?k8AP ?k9AP ?kBAP ?_ ?c2AP ?c3AP ?c4AP ?c5AP; (case kAAP => exact rfl); (case kFAP => exact rfl); (case kKAP => first | exact rfl | assumption); (case k1AP => k_asm); (case k2AP => k_asm); (case k3AP => k_asm); (case k4AP => k_asm); (case k5AP => k_asm); (case k6AP => k_is); (case k7AP => k_is); (case k8AP => ktr_room); (case k9AP => exact BindsTo.of_eq rfl); (case c5AP => decide); (case kBAP => exact locs rfl); (case c2AP => exact rfl); (case c3AP => exact rfl); (case c4AP => exact rfl); k_whole; intro g' L' h' FG' F' N' B' X' T'; (try dsimp only); (try k_fold)))
  k_with "my enterC" => ((refine' code_defC ?k1AQ ?k2AQ ?k3AQ ?k4AQ ?k5AQ ?kAAQ ?kFAQ ?kKAQ ?k6AQ ?k7AQ ?k8AQ ?k9AQ ?kBAQ ?kDAQ ?_ ?c2AQ ?c3AQ ?c4AQ; (case kAAQ => exact rfl); (case kFAQ => exact rfl); (case kKAQ => first | exact rfl | assumption); (case k1AQ => k_asm); (case k2AQ => k_asm); (case k3AQ => k_asm); (case k4AQ => k_asm); (case k5AQ => k_asm); (case k6AQ => k_is); (case k7AQ => k_is); (case k8AQ => ktr_room); (case k9AQ => exact BindsTo.of_eq rfl); (case kBAQ => exact rfl); (case kDAQ => decide +kernel); (case c2AQ => exact rfl); (case c3AQ => exact rfl); (case c4AQ => exact rfl); k_whole; intro g' L' h' tk' cells' FG' F'; (first | (refine cells_in1 ?_; intro o' d1' N') | (refine cells_in2 ?_; intro o' o2' d1' d2' N') | (refine cells_in3 ?_; intro o' o2' o3' d1' d2' d3' N') | (refine cells_in4 ?_; intro o' o2' o3' o4' d1' d2' d3' d4' N')); intro B' X' T' l1; (try k_lt l1); (try dsimp only); (try k_fold)))
  k_with "eval ListComp" => ((k_here; (with_reducible show wpAny _ _ (eval (Expr.ListComp _ [⟨Expr.Name _ _, Expr.Subscript _ (Expr.Slice (some _) _ _ _) _, [], 0⟩] _ _) _) _ _ _); k_dflt (refine comp_tup (by k_asm) (by with_unfolding_all rfl) (by decide) (by rfl) (by decide) (by rfl) ?_)))
  k_with "exec Assign cons ListComp" => ((k_here; (with_reducible show wpAny _ _ (exec (Stmt.Assign [Expr.Name _ _] (Expr.ListComp _ [⟨Expr.Name _ _, Expr.Subscript _ (Expr.Slice (some _) _ _ _) _, [], 0⟩] _ _) _) _) _ _ _); k_dflt (refine comp_tup_assign (by k_asm) (by rfl) (by with_unfolding_all rfl) (by with_unfolding_all rfl) (by decide) (by rfl) (by decide) (by rfl) (by rfl) (by rfl) ?_)))
  k_with "subscriptTail Name Slice ref ref" => ((k_here; (with_reducible show wpAny _ _ (subscriptTail _ (PySem.Expr.Slice (some _) none none _) (Value.ref _) (Value.ref _)) _ _ _); k_dflt (refine' slice_tup1 ?FAT ?NAT ?lAT ?pAT ?eAT ?_ ?sAT ?tAT ?zAT; (case FAT => k_asm); (case NAT => k_asm); (case lAT => k_mem); (case pAT => exact Nat.le_of_ble_eq_true rfl); (case eAT => kl_lit); (case sAT => with_unfolding_all rfl); (case tAT => kmk_pure); (case zAT => kmk_size)); intro D' h' F' N' l1; (try k_lt l1); (try k_sweep)))
  k_with "TupSrc" => ((k_here; k_dflt (refine TupSrc.of (by rfl) (by k_asm) (by k_asm) (by k_mem) (by first | size_fits | exact Nat.le_of_ble_eq_true rfl) ?_; intro g'; lcg_lit)))
  k_with "my steps" => (repeat' ((fail_if_success (with_reducible show Ret _ _ _)); first | ((with_reducible show wpAny _ _ (call (Value.ref _) _ _) _ _ _); k_extra "my call") | ((fail_if_success ((with_reducible show wpAny _ _ (call (Value.ref _) _ _) _ _ _); k_extra "my nocall")); first | (k_unfold; (try dsimp only)) | walk1 | (dsimp only; walk1) | (leave1; walk_say "STEP leave1"; try dsimp only))))
  k_with "my sub" => (first | (with_reducible exact sub_self _) | (with_reducible refine sub_cons ?_; k_extra "my sub") | (with_reducible refine sub_left ?_; k_extra "my sub") | (with_reducible refine sub_right ?_; k_extra "my sub") | (intro p hp; simp only [List.mem_cons, List.mem_append, hp, true_or, or_true]; done))
  k_with "my ord" => (k_dflt (first | assumption | exact lt_all (by assumption) (by k_mem) | exact lt_all_u1 (by assumption) (by k_mem) | exact lt_all_u2 (by assumption) (by k_mem) | omega))
  k_with "my allLt" => (first | exact allLt_of (by assumption) | exact allLt_sub (by assumption) (by k_extra "my sub") | tbn_find)
  k_with "FinE" => (((unfold LCg.FinE); intro D' h' tk' F' N' o1'; replace o1' := off1_mem o1'; (try dsimp only [List.nil_append, List.cons_append] at N'); (try dsimp only [List.nil_append, List.cons_append] at o1'); (try dsimp only)))
  k_with "FinA" => (((unfold LCg.FinA); intro D' h' tk' F' N' o1'; replace o1' := off1_mem o1'; (try dsimp only [List.nil_append, List.cons_append] at N'); (try dsimp only [List.nil_append, List.cons_append] at o1'); (try dsimp only)))
  k_with "my omega" => (first
      | ((with_reducible show @LE.le Nat _ _ _); first | exact Nat.le_of_ble_eq_true rfl | with_reducible (first | exact o1 ‹_› (by decide) | exact o4 ‹_› (by decide) | exact o7 ‹_› (by decide) | exact o8 ‹_› (by decide) | exact o9 ‹_› (by decide) | exact q6 ‹_› (by decide) | exact q0 ‹_› (by decide) | exact r0 ‹_› (by decide) | exact q1 ‹_› ‹_› (by decide) | exact q3 ‹_› ‹_› (by decide) | exact q7 ‹_› ‹_› (by decide) | exact q8 ‹_› ‹_› (by decide) | exact q9 ‹_› ‹_› | exact r1 ‹_› ‹_› (by decide) | exact r2 ‹_› ‹_› | exact r4 ‹_› ‹_› | exact r8 ‹_› ‹_› (by decide) | exact o0 ‹_› (by decide) | exact Nat.add_le_add ‹_› ‹_› | exact Nat.le_add_left _ _ | exact Nat.le_of_lt ‹_›))
      | ((with_reducible show @LT.lt Nat _ _ _); first | exact Nat.le_of_ble_eq_true rfl | with_reducible (first | exact o2 ‹_› (by decide) | exact o3 ‹_› (by decide) | exact o5 ‹_› (by decide) | exact o6 ‹_› (by decide) | exact p5 ‹_› (by decide) | exact j6 ‹_› (by decide) | exact q2 ‹_› ‹_› (by decide) | exact q4 ‹_› ‹_› (by decide) | exact q5 ‹_› ‹_› (by decide) | exact p1 ‹_› ‹_› (by decide) | exact p2 ‹_› ‹_› (by decide) | exact p3 ‹_› ‹_› (by decide) | exact p4 ‹_› ‹_› (by decide) | exact p6 ‹_› ‹_› (by decide)))
      | ((with_reducible show @LE.le Int _ _ _); first | decide +kernel | with_reducible (first | exact i1 ‹_› | exact i2 ‹_› | exact i6 | exact i7 | exact j7 ‹_› | exact j4 ‹_› (by decide +kernel) | exact i8 ‹_› (by decide +kernel) | exact i9 ‹_› (by decide +kernel) | exact i3 ‹_› ‹_› | exact i4 ‹_› ‹_› | exact i5 ‹_› ‹_›))
      | ((with_reducible show @LT.lt Int _ _ _); first | decide +kernel | with_reducible (first | exact j1 ‹_› | exact j5 (by decide +kernel) | exact j3 ‹_› (by decide +kernel) | exact j8 ‹_› (by decide +kernel) | exact j9 ‹_› (by decide +kernel) | exact l1 ‹_› (by decide +kernel) | exact l2 ‹_› (by decide +kernel) | exact l3 ‹_› (by decide +kernel) | exact j0 ‹_› ‹_› (by decide +kernel)))
      | ((with_reducible show @Ne Nat _ _); with_reducible (first | exact Nat.ne_of_gt ‹_› | exact Nat.ne_of_lt ‹_› | exact Nat.succ_ne_self _ | exact (Nat.succ_ne_self _).symm))
      | with_reducible (first | exact j2 ‹_› | exact z4 ‹_› ‹_› | exact z6 ‹_› ‹_› | exact z3 ‹_› | exact z2 ‹_› ‹_›))
  k_with "my call" => ((k_here; (with_reducible show wpAny _ _ (call (Value.ref 81) [_]) _ _ _); k_dflt (refine' isvar_no ?kvFP ?k1FP ?k2FP ?k3FP ?k4FP ?k5FP ?kKFP ?k6FP ?k13FP ?k14FP ?_; (case k1FP => k_asm); (case k2FP => k_asm); (case k3FP => k_asm); (case k4FP => k_asm); (case k5FP => k_asm); (case kKFP => first | exact rfl | assumption); (case k6FP => exact PatIn.mono (by assumption) (by k_extra "my sub2")); (case kvFP => assumption); (case k13FP => ktr_room); (case k14FP => ktr_units); k_whole); intro h' tk' F' N'; (try k_sweep)))
  k_with "my call" => ((k_here; (with_reducible show wpAny _ _ (call (Value.ref 86) [_]) _ _ _); k_dflt (refine' vars_all _ ?k1FQ ?k2FQ ?k3FQ ?k4FQ ?k5FQ ?kKFQ ?k6FQ ?k7FQ ?k8FQ ?k13FQ ?k14FQ ?_; (case k1FQ => k_asm); (case k2FQ => k_asm); (case k3FQ => k_asm); (case k4FQ => k_asm); (case k5FQ => k_asm); (case kKFQ => first | exact rfl | assumption); (case k6FQ => assumption); (case k7FQ => k_extra "my sub2"); (case k8FQ => assumption); (case k13FQ => ktr_room); (case k14FQ => ktr_units); k_whole); intro D' vs' ss' n' h' tk' d' F' N' l1 hs' hx' hl'; have l1a := l1; (try k_lt l1); (try k_sweep)))
  k_with "my nocall" => (first | (with_reducible show wpAny _ _ (call (Value.ref 86) _) _ _ _) | (with_reducible show wpAny _ _ (call (Value.ref 81) _) _ _ _))
  trivial
theorem w85a : True := by
  k_with "my lt9" => (k_dflt (first | assumption | exact lt_sub9 (by assumption) (by k_extra "my sub") | exact lt_sub29 (by assumption) (by assumption) (by k_extra "my sub")))
  trivial
def RuleIn (w : World) (l : List (Addr × Obj)) (v : Value) (nm : Str) (p q : Pat) : Prop :=
  ∃ x rd t1 t2 t3 t4 tn vl vr nd en, v = .ref x ∧ (x, instObj 113 rd) ∈ l ∧ (rd, ruleObj w t1 t2 t3 t4 tn nm vl vr nd) ∈ l ∧ PatIn l vl p ∧ PatIn l vr q ∧ (nd, tupObj #[] en) ∈ l
theorem RuleIn.mono {w : World} {l l' : List (Addr × Obj)} {v : Value} {nm : Str} {p q : Pat} (h : RuleIn w l v nm p q) (hs : ∀ p ∈ l, p ∈ l') : RuleIn w l' v nm p q := by
  obtain ⟨x, rd, t1, t2, t3, t4, tn, vl, vr, nd, en, rfl, h1, h2, h3, h4, h5⟩ := h
  exact ⟨x, rd, t1, t2, t3, t4, tn, vl, vr, nd, en, rfl, hs _ h1, hs _ h2, h3.mono hs, h4.mono hs, hs _ h5⟩
inductive SplitLt (news : List (Addr × Obj)) : List (Addr × Obj) → List (Addr × Obj) → Prop
  | nil : SplitLt news news []
  | cons {a : Addr} {o : Obj} {l tl : List (Addr × Obj)} : (∀ q ∈ news, q.1 < a) → SplitLt news l tl → SplitLt news ((a, o) :: l) ((a, o) :: tl)
theorem SplitLt.sub {news l tl : List (Addr × Obj)} (h : SplitLt news l tl) : ∀ p ∈ news ++ tl, p ∈ l := by
  induction h with
  | nil => intro p hp; simpa using hp
  | cons _ _ ih =>
    intro p hp
    rcases List.mem_append.mp hp with hp | hp
    · exact .tail _ (ih p (List.mem_append_left _ hp))
    · rcases List.mem_cons.mp hp with rfl | hp
      · exact .head _
      · exact .tail _ (ih p (List.mem_append_right _ hp))
theorem SplitLt.lt {news l tl : List (Addr × Obj)} (h : SplitLt news l tl) : ∀ q ∈ news, ∀ p ∈ tl, q.1 < p.1 := by
  induction h with
  | nil => intro q _ p hp; cases hp
  | cons h1 _ ih =>
    intro q hq p hp
    rcases List.mem_cons.mp hp with rfl | hp
    · exact h1 q hq
    · exact ih q hq p hp
theorem SplitLt.sup {news l tl : List (Addr × Obj)} (h : SplitLt news l tl) : ∀ p ∈ l, p ∈ news ++ tl := by
  induction h with
  | nil => intro p hp; simpa using hp
  | cons _ _ ih =>
    intro p hp
    rcases List.mem_cons.mp hp with rfl | hp
    · exact List.mem_append_right _ (.head _)
    · exact (List.mem_append.mp (ih p hp)).elim (List.mem_append_left _) fun h => List.mem_append_right _ (.tail _ h)
def Splits (news l : List (Addr × Obj)) : Prop := ∃ tl, SplitLt news l tl
theorem Splits.nil {news : List (Addr × Obj)} : Splits news news := ⟨_, .nil⟩
theorem Splits.cons {news l : List (Addr × Obj)} {a : Addr} {o : Obj} (h : ∀ q ∈ news, q.1 < a) : Splits news l → Splits news ((a, o) :: l) := fun ⟨_, S⟩ => ⟨_, .cons h S⟩
theorem split_ex {h₀ h : Heap} {L : Addr} {news all : List (Addr × Obj)} (_ : News h₀ L h all) (S : Splits news all) : Splits news all := S
theorem w85b : True := by
  k_with "my split" => (first | exact Splits.nil | (refine Splits.cons (by k_extra "my lt9") ?_; k_extra "my split") | (refine Splits.cons (by assumption) ?_; k_extra "my split"))
  trivial
def LawsSpec (w : World) (op : Str) (mk : Pat → Pat → Pat) : Prop :=
  ∀ {mean : ExcName → Option Value} {mg mb : Str → Option Value}
    {dp un : Nat} {gd : Option (List Code)} {cn : Str} {cs : Scope} {a : Addr} {ccd : Value} {cl : List (Str × Addr)} {outer : List Env} {A₀ : Around} {base h₀ : Heap} {L : Addr} {m : Str → Option Value} {news : List (Addr × Obj)} {s : Shared}
    {Q E : Value → Shared → Prop} {to tu : Tok}
    (_ : Below A₀ base outer h₀) (_ : Fr h₀ L s.heap m) (_ : (hd.heap_1 w.params).In h₀) (_ : News h₀ L s.heap news)
    (_ : Top view LO mean mg mb h₀) (_ : cs.kind = .function) (_ : dp < 550) (_ : un < 2800)
    (_ : ∀ D x1 x2 x3 n tl h' tk' dr, Fr h₀ L h' m → News h₀ L h' (news ++ tl) → (∀ q ∈ news, ∀ p ∈ tl, q.1 < p.1) → (D, listOf #[x1, x2, x3] n) ∈ news ++ tl → (∀ q ∈ news, q.1 < D) →
      RuleIn w (news ++ tl) x1 (Str.empty ++ op ++ Str.ofString "-turn") (mk .va .vb) (mk .vb .va) → RuleIn w (news ++ tl) x2 (Str.empty ++ op ++ Str.ofString "-put") (mk (mk .va .vb) .vc) (mk .va (mk .vb .vc)) → RuleIn w (news ++ tl) x3 (Str.empty ++ op ++ Str.ofString "-unit") (mk .va .zero) .va → Q (.ref D) { s with heap := h', toks := tk', drawn := dr }),
    wpAny (model PySem.Challenge.rw_pq0002_01.row.prog w) (ktrTop dp un gd cn cs L a ccd cl outer) (call (.ref 138) [.str op to, .str (Str.ofString "zero") tu]) Q E s
section
variable {M : Model} {A : Around} {E : Value → Shared → Prop} {s : Shared}
def StrX (n : Nat) (out : Str) (K : Str → Shared → Prop) (v : Value) (s₁ : Shared) : Prop := ∃ y t, v = .str y t ∧ y.length ≤ 30 ∧ ((out ++ y).length ≤ n + 30 → K (out ++ y) s₁)
theorem StrX.intro {n : Nat} {out : Str} {K : Str → Shared → Prop} {y : Str} {t : Tok} {s₁ : Shared} (hy : y.length ≤ 30) (h : (out ++ y).length ≤ n + 30 → K (out ++ y) s₁) : StrX n out K (.str y t) s₁ := ⟨y, t, rfl, hy, h⟩
theorem joinParts_x {out : Str} {n : Nat} {x : Sem Value} {rest : List (Sem Value)} {Q : Value → Shared → Prop} (ho : out.length ≤ n) (hn : n ≤ 900)
    (h : wpAny M A x (StrX n out fun o s₁ => wpAny M A (joinParts o rest) Q E s₁) E s) : wpAny M A (joinParts out (x :: rest)) Q E s :=
  joinParts_cons (wpAny_mono h (fun v s₁ h₁ => by
    obtain ⟨y, t, rfl, hy, h₁⟩ := h₁
    have hl : (out ++ y).length ≤ n + 30 := by rw [strLen_append]; omega
    exact ⟨Nat.le_trans hl (by rw [sizeLine_eq]; omega), h₁ hl⟩) fun _ _ e => e)
theorem joinParts_xlast {out : Str} {n : Nat} {Q : Value → Shared → Prop} (ho : out.length ≤ n) (hn : n ≤ 900) (h : Q (.str out s.toks) { s with toks := s.toks + 1 }) : wpAny M A (joinParts out []) Q E s := joinParts_nil h (Nat.le_trans ho (by rw [sizeLine_eq]; omega))
end
theorem w85c : True := by
  k_with "joinParts" => ((k_here; first
      | ((with_reducible refine joinParts_consE ?_); (with_reducible refine' joinParts_x ?hoGC ?hnGC ?_); (case hoGC => first | assumption | exact (show Str.empty.length ≤ 0 from by decide +kernel)); (case hnGC => exact Nat.le_of_ble_eq_true rfl))
      | ((with_reducible show wpAny _ _ (joinParts _ (_ :: _)) _ _ _); (with_reducible refine' joinParts_x ?hoGC ?hnGC ?_); (case hoGC => first | assumption | exact (show Str.empty.length ≤ 0 from by decide +kernel)); (case hnGC => exact Nat.le_of_ble_eq_true rfl))
      | ((try with_reducible refine joinParts_nilE ?_); (with_reducible refine' joinParts_xlast ?hoGC ?hnGC ?_); (case hoGC => assumption); (case hnGC => exact Nat.le_of_ble_eq_true rfl))))
  k_with "StrX" => ((k_here; (with_unfolding_all refine StrX.intro ?hyGD ?_); (case hyGD => first | omega | decide +kernel); intro hout'))
  k_with "my sub2" => ((intro p9 hp9; exact hp9))
  trivial
def PatMk (op : Str) (mk : Pat → Pat → Pat) : Prop := ∀ (l : List (Addr × Obj)) (a : Addr) (tk : Tok) (e : Nat) (v u : Value) (p q : Pat), (a, tupObj #[.str op tk, v, u] e) ∈ l → PatIn l v p → PatIn l u q → PatIn l (.ref a) (mk p q)
theorem PatMk.use {op : Str} {mk : Pat → Pat → Pat} {l : List (Addr × Obj)} {a : Addr} {tk : Tok} {e : Nat} {v u : Value} {p q : Pat} (h : PatMk op mk) (h1 : (a, tupObj #[.str op tk, v, u] e) ∈ l) (h2 : PatIn l v p) (h3 : PatIn l u q) : PatIn l (.ref a) (mk p q) := h _ _ _ _ _ _ _ _ h1 h2 h3
theorem w85d : True := by
  k_with "my pat" => (first | exact PatIn.va | exact PatIn.vb | exact PatIn.vc | exact PatIn.zero (by k_mem) | (refine PatMk.use (by assumption) (by k_mem) ?_ ?_ <;> k_extra "my pat"))
  trivial
def RuleFor (w : World) (p q : Pat) : Prop := RuleSpec w p q
theorem RuleFor.use {w : World} {p q : Pat} (h : RuleFor w p q) : RuleSpec w p q := h
theorem w85e : True := by
  k_with "my nocall" => (first | (with_reducible show wpAny _ _ (call (Value.ref 113) _) _ _ _))
  k_with "my rule" => (((case k1 => k_asm); (case k2 => k_asm); (case k3 => k_asm); (case k4 => k_asm); (case k5 => k_asm); (case kK => first | exact rfl | assumption); (case k8 => exact fun _ h => h); (case k6 => k_extra "my pat"); (case k7 => k_extra "my pat"); (case k9 => k_mem); (case k13 => ktr_room); (case k14 => ktr_units); k_whole; intro x' rd' t1' t2' t3' t4' h' tk' d' F' N' l1 l2; (try k_lt l1); (try k_lt2 l2); (try k_sweep)))
  trivial
theorem laws_make {w : World} {op : Str} {mk : Pat → Pat → Pat} (hop : op.length ≤ 10) (hmk : PatMk op mk)
    (r1 : RuleFor w (mk .va .vb) (mk .vb .va)) (r2 : RuleFor w (mk (mk .va .vb) .vc) (mk .va (mk .vb .vc))) (r3 : RuleFor w (mk .va .zero) .va) : LawsSpec w op mk := by
  intro mean mg mb dp un gd cn cs a ccd cl outer A₀ base h₀ L m news s Q E to tu B F X N T hk hd hu ret
  obtain ⟨sH, sG, sD, sT, sO⟩ := s
  (try dsimp only at F); (try dsimp only at N); (try dsimp only at ret)
  refine ret_of (α := Unit) ?_
  refine wpAny_call ?_
  w_strict (k_dflt (k_extra "my enter"))
  k_extra "my steps"
  with_unfolding_all refine' r1 ?k1 ?k2 ?k3 ?k4 ?k5 ?kK ?k6 ?k7 ?k8 ?k9 ?k13 ?k14 ?_
  k_extra "my rule"
  clear r1
  k_extra "my steps"
  with_unfolding_all refine' r2 ?k1 ?k2 ?k3 ?k4 ?k5 ?kK ?k6 ?k7 ?k8 ?k9 ?k13 ?k14 ?_
  k_extra "my rule"
  clear r2
  k_extra "my steps"
  with_unfolding_all refine' r3 ?k1 ?k2 ?k3 ?k4 ?k5 ?kK ?k6 ?k7 ?k8 ?k9 ?k13 ?k14 ?_
  k_extra "my rule"
  clear r3
  k_extra "my steps"
  (rename Fr h₀ L _ m => fX); (rename News h₀ L _ _ => nX)
  obtain ⟨tl, hS⟩ := split_ex (news := news) nX (by k_extra "my split")
  refine ret _ _ _ _ _ tl _ _ _ fX (newsSub nX hS.sub) hS.lt (hS.sup _ (by k_mem)) (by k_extra "my lt9") (RuleIn.mono ?_ hS.sup) (RuleIn.mono ?_ hS.sup) (RuleIn.mono ?_ hS.sup)
  all_goals (refine ⟨_, _, _, _, _, _, _, _, _, _, _, rfl, by k_mem, by k_mem, ?_, ?_, by k_mem⟩ <;> k_extra "my pat")
theorem rule_for {w : World} {p q : Pat} (hv : p.isVar = false) (hp60 : p.subs.length ≤ 60) (hq60 : q.subs.length ≤ 60) (hpd : p.depth ≤ 8) (hqd : q.depth ≤ 8) (hsub : ∀ x ∈ varsOf q.subs, x ∈ varsOf p.subs) : RuleFor w p q := rule_make hv hp60 hq60 hpd hqd hsub
theorem laws_plus {w : World} : LawsSpec w (Str.ofString "plus") .plus :=
  laws_make (by decide +kernel) (fun _ _ _ _ _ _ _ _ h1 h2 h3 => .plus h1 h2 h3) (rule_for rfl (by decide) (by decide) (by decide) (by decide) (by decide +kernel)) (rule_for rfl (by decide) (by decide) (by decide) (by decide) (by decide +kernel)) (rule_for rfl (by decide) (by decide) (by decide) (by decide) (by decide +kernel))
theorem laws_times {w : World} : LawsSpec w (Str.ofString "times") .times :=
  laws_make (by decide +kernel) (fun _ _ _ _ _ _ _ _ h1 h2 h3 => .times h1 h2 h3) (rule_for rfl (by decide) (by decide) (by decide) (by decide) (by decide +kernel)) (rule_for rfl (by decide) (by decide) (by decide) (by decide) (by decide +kernel)) (rule_for rfl (by decide) (by decide) (by decide) (by decide) (by decide +kernel))
theorem w86 : True := by
  w_top off
  k_with_none
  k_with "my k_all" => (k_dflt (first | assumption | exact all_ne_sub9 (by assumption) (by k_extra "my sub") | exact all_ne_u0 (by assumption) (by k_extra "my sub") | exact all_ne_u1 (by assumption) (by k_extra "my sub") | exact all_ne_u2 (by assumption) (by k_extra "my sub") | exact all_ne_u3 (by assumption) (by k_extra "my sub") | exact all_ne_u4 (by assumption) (by k_extra "my sub") | (refine List.forall_mem_append.mpr ⟨?_, ?_⟩ <;> k_all)))
  k_with "my ktr_room" => (((try simp only [depth_under_make, depth_under_kw, depth_in1, depth_deeper, depth_caller]); (try dsimp only [ktrTop]); (try simp only [recursionLimit]); k_extra "my room"))
  k_with "my room" => (first | exact Nat.le_of_ble_eq_true rfl | exact rm0 hd rfl | exact rm1 hd rfl | exact rm5 hd rfl | exact rm6 hd rfl | exact rm4 hd rfl | exact rm2 hd rfl | exact rm3 hd rfl | exact rm7 hd rfl | exact rm8 (by assumption) rfl | omega)
  k_with "my units" => (first | exact Nat.le_of_ble_eq_true rfl | exact rm0 hu rfl | exact rm1 hu rfl | exact rm5 hu rfl | exact rm6 hu rfl | exact rm4 hu rfl | exact rm2 hu rfl | exact rm3 hu rfl | exact rm7 hu rfl | exact rm8 (by assumption) rfl | exact um1 hu rfl | exact um2 hu rfl | exact um3 hu rfl | exact um4 hu rfl | exact um5 hu rfl | (have hcL9 := cLine_is; omega))
  k_with "my dep" => (first | assumption | exact dm1 hdp | exact dm2 hdp | exact dm0 hdp | omega)
  k_with "my ktr_units" => (((try simp only [units_in1, units_deeper, Around.mark_units, units_caller]); (try dsimp only [ktrTop]); k_extra "my units"))
  k_with "my k_room" => (ktr_room)
  k_with "my k_units" => (ktr_units)
  k_with "my units_room" => (ktr_units)
  k_with "compareOp Eq ref ref" => ((k_here; (with_reducible show wpAny _ _ (compareOp CmpOp.Eq (Value.ref _) (Value.ref _)) _ _ _); first
      | refine' eq_zero_f (by assumption) (by assumption) (by k_extra "my sub") (by k_mem) (by first | rfl | exact mkOf_zero) (by omega) (by ktr_units) ?_
      | refine' eq_zero_t (by assumption) (by assumption) (by k_extra "my sub") (by k_mem) rfl (by omega) (by ktr_units) ?_))
  k_with "my k_ne" => (k_dflt (first | exact off_I (by assumption) (by k_mem) | exact off_C (by assumption) (by k_mem) | exact off_D (by assumption) (by k_mem) | assumption | exact ne_gt9 (by assumption) (by k_mem) | exact ne_lt9 (by assumption) (by k_mem) | exact ne_all9 (by assumption) (by k_mem) | exact ne_all9s (by assumption) (by k_mem) | exact ne_gt_u1 (by assumption) (by k_mem) | exact ne_lt_u1 (by assumption) (by k_mem) | exact ne_gt_u2 (by assumption) (by k_mem) | exact ne_lt_u2 (by assumption) (by k_mem) | exact ne_gt_u3 (by assumption) (by k_mem) | exact ne_lt_u3 (by assumption) (by k_mem) | exact ne_gt_u4 (by assumption) (by k_mem) | exact ne_lt_u4 (by assumption) (by k_mem)))
  k_with "my off" => (first | exact True.intro | (refine And.intro (off_at (by assumption) (by k_mem)) ?_; k_extra "my off") | (refine Off3.append ?_ ?_ <;> k_extra "my off") | (refine Off3.of_sub (by assumption) (fun p hp => ?_); simp only [List.mem_cons, List.mem_append, hp, true_or, or_true]; done) | (refine Off3.of_lt (by assumption) (by k_mem) (by k_mem) (by k_mem)))
  k_with "CompSrc" => ((k_here; k_dflt (refine LCg.CompSrc.range (by rfl) (by k_asm) (by k_asm) (by with_reducible assumption) (by first | decide | rfl) (by first | rfl | decide) (by first | size_fits | exact Nat.le_of_ble_eq_true rfl) ?_; intro g'; lcg_lit)))
  k_with "CompRest" => ((with_unfolding_all first
      | (refine CompRest_at (fun v9 h9 => (Option.some.inj h9).symm) ?_; intro I' oI' C' oC' D' m' h' tk' E' hC' hx' F' N' off' ne'; have offM := off'.mem; clear off')
      | (refine CompRest_ex (fun v9 h9 => h9) ?_; intro t9' I' oI' C' oC' D' m' h' tk' E' hC' hx' F' N' off' ne'; have offM := off'.mem; clear off')
      | (refine LCg.CompRest.succ ?_; intro v' I' oI' C' oC' D' m' h' tk' E' hv' hC' hx' F' N' off' ne'; have offM := off'.mem; (first | lcg_open hv' | (obtain ⟨t9', hv9'⟩ := hv'; subst hv9')); clear off')
      | refine LCg.CompRest.zero ?_))
  k_with "CompEnd" => ((k_here; (refine LCg.CompEnd.intro (by assumption) (by assumption) _ (fun p hp => hp) ?offAO ?srcAO ?_; (case offAO => k_extra "my off"); (case srcAO => first | lcg_src | ((try dsimp only); k_mem)))))
  k_with "my enter" => ((refine' code_def ?k1AP ?k2AP ?k3AP ?k4AP ?k5AP ?kAAP ?kFAP ?kKAP ?k6AP ?k7AP ?k8AP ?k9AP ?kBAP ?_ ?c2AP ?c3AP ?c4AP ?c5AP; (case kAAP => exact rfl); (case kFAP => exact rfl); (case kKAP => first | exact rfl | assumption); (case k1AP => k_asm); (case k2AP => k_asm); (case k3AP => k_asm); (case k4AP => k_asm); (case k5AP => k_asm); (case k6AP => k_is); (case k7AP => k_is); (case k8AP => ktr_room); (case k9AP => exact BindsTo.of_eq rfl); (case c5AP => decide); (case kBAP => exact locs rfl); (case c2AP => exact rfl); (case c3AP => exact rfl); (case c4AP => exact rfl); k_whole; intro g' L' h' FG' F' N' B' X' T'; (try dsimp only); (try k_fold)))
  k_with "my enterC" => ((refine' code_defC ?k1AQ ?k2AQ ?k3AQ ?k4AQ ?k5AQ ?kAAQ ?kFAQ ?kKAQ ?k6AQ ?k7AQ ?k8AQ ?k9AQ ?kBAQ ?kDAQ ?_ ?c2AQ ?c3AQ ?c4AQ; (case kAAQ => exact rfl); (case kFAQ => exact rfl); (case kKAQ => first | exact rfl | assumption); (case k1AQ => k_asm); (case k2AQ => k_asm); (case k3AQ => k_asm); (case k4AQ => k_asm); (case k5AQ => k_asm); (case k6AQ => k_is); (case k7AQ => k_is); (case k8AQ => ktr_room); (case k9AQ => exact BindsTo.of_eq rfl); (case kBAQ => exact rfl); (case kDAQ => decide +kernel); (case c2AQ => exact rfl); (case c3AQ => exact rfl); (case c4AQ => exact rfl); k_whole; intro g' L' h' tk' cells' FG' F'; (first | (refine cells_in1 ?_; intro o' d1' N') | (refine cells_in2 ?_; intro o' o2' d1' d2' N') | (refine cells_in3 ?_; intro o' o2' o3' d1' d2' d3' N') | (refine cells_in4 ?_; intro o' o2' o3' o4' d1' d2' d3' d4' N')); intro B' X' T' l1; (try k_lt l1); (try dsimp only); (try k_fold)))
  k_with "eval ListComp" => ((k_here; (with_reducible show wpAny _ _ (eval (Expr.ListComp _ [⟨Expr.Name _ _, Expr.Subscript _ (Expr.Slice (some _) _ _ _) _, [], 0⟩] _ _) _) _ _ _); k_dflt (refine comp_tup (by k_asm) (by with_unfolding_all rfl) (by decide) (by rfl) (by decide) (by rfl) ?_)))
  k_with "exec Assign cons ListComp" => ((k_here; (with_reducible show wpAny _ _ (exec (Stmt.Assign [Expr.Name _ _] (Expr.ListComp _ [⟨Expr.Name _ _, Expr.Subscript _ (Expr.Slice (some _) _ _ _) _, [], 0⟩] _ _) _) _) _ _ _); k_dflt (refine comp_tup_assign (by k_asm) (by rfl) (by with_unfolding_all rfl) (by with_unfolding_all rfl) (by decide) (by rfl) (by decide) (by rfl) (by rfl) (by rfl) ?_)))
  k_with "subscriptTail Name Slice ref ref" => ((k_here; (with_reducible show wpAny _ _ (subscriptTail _ (PySem.Expr.Slice (some _) none none _) (Value.ref _) (Value.ref _)) _ _ _); k_dflt (refine' slice_tup1 ?FAT ?NAT ?lAT ?pAT ?eAT ?_ ?sAT ?tAT ?zAT; (case FAT => k_asm); (case NAT => k_asm); (case lAT => k_mem); (case pAT => exact Nat.le_of_ble_eq_true rfl); (case eAT => kl_lit); (case sAT => with_unfolding_all rfl); (case tAT => kmk_pure); (case zAT => kmk_size)); intro D' h' F' N' l1; (try k_lt l1); (try k_sweep)))
  k_with "TupSrc" => ((k_here; k_dflt (refine TupSrc.of (by rfl) (by k_asm) (by k_asm) (by k_mem) (by first | size_fits | exact Nat.le_of_ble_eq_true rfl) ?_; intro g'; lcg_lit)))
  k_with "my steps" => (repeat' ((fail_if_success (with_reducible show Ret _ _ _)); first | ((with_reducible show wpAny _ _ (call (Value.ref _) _ _) _ _ _); k_extra "my call") | ((fail_if_success ((with_reducible show wpAny _ _ (call (Value.ref _) _ _) _ _ _); k_extra "my nocall")); first | (k_unfold; (try dsimp only)) | walk1 | (dsimp only; walk1) | (leave1; walk_say "STEP leave1"; try dsimp only))))
  k_with "my sub" => (first | (with_reducible exact sub_self _) | (with_reducible refine sub_cons ?_; k_extra "my sub") | (with_reducible refine sub_left ?_; k_extra "my sub") | (with_reducible refine sub_right ?_; k_extra "my sub") | (intro p hp; simp only [List.mem_cons, List.mem_append, hp, true_or, or_true]; done))
  k_with "my ord" => (k_dflt (first | assumption | exact lt_all (by assumption) (by k_mem) | exact lt_all_u1 (by assumption) (by k_mem) | exact lt_all_u2 (by assumption) (by k_mem) | omega))
  k_with "my allLt" => (first | exact allLt_of (by assumption) | exact allLt_sub (by assumption) (by k_extra "my sub") | tbn_find)
  k_with "FinE" => (((unfold LCg.FinE); intro D' h' tk' F' N' o1'; replace o1' := off1_mem o1'; (try dsimp only [List.nil_append, List.cons_append] at N'); (try dsimp only [List.nil_append, List.cons_append] at o1'); (try dsimp only)))
  k_with "FinA" => (((unfold LCg.FinA); intro D' h' tk' F' N' o1'; replace o1' := off1_mem o1'; (try dsimp only [List.nil_append, List.cons_append] at N'); (try dsimp only [List.nil_append, List.cons_append] at o1'); (try dsimp only)))
  k_with "my omega" => (first
      | ((with_reducible show @LE.le Nat _ _ _); first | exact Nat.le_of_ble_eq_true rfl | with_reducible (first | exact o1 ‹_› (by decide) | exact o4 ‹_› (by decide) | exact o7 ‹_› (by decide) | exact o8 ‹_› (by decide) | exact o9 ‹_› (by decide) | exact q6 ‹_› (by decide) | exact q0 ‹_› (by decide) | exact r0 ‹_› (by decide) | exact q1 ‹_› ‹_› (by decide) | exact q3 ‹_› ‹_› (by decide) | exact q7 ‹_› ‹_› (by decide) | exact q8 ‹_› ‹_› (by decide) | exact q9 ‹_› ‹_› | exact r1 ‹_› ‹_› (by decide) | exact r2 ‹_› ‹_› | exact r4 ‹_› ‹_› | exact r8 ‹_› ‹_› (by decide) | exact o0 ‹_› (by decide) | exact Nat.add_le_add ‹_› ‹_› | exact Nat.le_add_left _ _ | exact Nat.le_of_lt ‹_›))
      | ((with_reducible show @LT.lt Nat _ _ _); first | exact Nat.le_of_ble_eq_true rfl | with_reducible (first | exact o2 ‹_› (by decide) | exact o3 ‹_› (by decide) | exact o5 ‹_› (by decide) | exact o6 ‹_› (by decide) | exact p5 ‹_› (by decide) | exact j6 ‹_› (by decide) | exact q2 ‹_› ‹_› (by decide) | exact q4 ‹_› ‹_› (by decide) | exact q5 ‹_› ‹_› (by decide) | exact p1 ‹_› ‹_› (by decide) | exact p2 ‹_› ‹_› (by decide) | exact p3 ‹_› ‹_› (by decide) | exact p4 ‹_› ‹_› (by decide) | exact p6 ‹_› ‹_› (by decide)))
      | ((with_reducible show @LE.le Int _ _ _); first | decide +kernel | with_reducible (first | exact i1 ‹_› | exact i2 ‹_› | exact i6 | exact i7 | exact j7 ‹_› | exact j4 ‹_› (by decide +kernel) | exact i8 ‹_› (by decide +kernel) | exact i9 ‹_› (by decide +kernel) | exact i3 ‹_› ‹_› | exact i4 ‹_› ‹_› | exact i5 ‹_› ‹_›))
      | ((with_reducible show @LT.lt Int _ _ _); first | decide +kernel | with_reducible (first | exact j1 ‹_› | exact j5 (by decide +kernel) | exact j3 ‹_› (by decide +kernel) | exact j8 ‹_› (by decide +kernel) | exact j9 ‹_› (by decide +kernel) | exact l1 ‹_› (by decide +kernel) | exact l2 ‹_› (by decide +kernel) | exact l3 ‹_› (by decide +kernel) | exact j0 ‹_› ‹_› (by decide +kernel)))
      | ((with_reducible show @Ne Nat _ _); with_reducible (first | exact Nat.ne_of_gt ‹_› | exact Nat.ne_of_lt ‹_› | exact Nat.succ_ne_self _ | exact (Nat.succ_ne_self _).symm))
      | with_reducible (first | exact j2 ‹_› | exact z4 ‹_› ‹_› | exact z6 ‹_› ‹_› | exact z3 ‹_› | exact z2 ‹_› ‹_›))
  k_with "my call" => ((k_here; (with_reducible show wpAny _ _ (call (Value.ref 81) [_]) _ _ _); k_dflt (refine' isvar_no ?kvFP ?k1FP ?k2FP ?k3FP ?k4FP ?k5FP ?kKFP ?k6FP ?k13FP ?k14FP ?_; (case k1FP => k_asm); (case k2FP => k_asm); (case k3FP => k_asm); (case k4FP => k_asm); (case k5FP => k_asm); (case kKFP => first | exact rfl | assumption); (case k6FP => exact PatIn.mono (by assumption) (by k_extra "my sub2")); (case kvFP => assumption); (case k13FP => ktr_room); (case k14FP => ktr_units); k_whole); intro h' tk' F' N'; (try k_sweep)))
  k_with "my call" => ((k_here; (with_reducible show wpAny _ _ (call (Value.ref 86) [_]) _ _ _); k_dflt (refine' vars_all _ ?k1FQ ?k2FQ ?k3FQ ?k4FQ ?k5FQ ?kKFQ ?k6FQ ?k7FQ ?k8FQ ?k13FQ ?k14FQ ?_; (case k1FQ => k_asm); (case k2FQ => k_asm); (case k3FQ => k_asm); (case k4FQ => k_asm); (case k5FQ => k_asm); (case kKFQ => first | exact rfl | assumption); (case k6FQ => assumption); (case k7FQ => k_extra "my sub2"); (case k8FQ => assumption); (case k13FQ => ktr_room); (case k14FQ => ktr_units); k_whole); intro D' vs' ss' n' h' tk' d' F' N' l1 hs' hx' hl'; have l1a := l1; (try k_lt l1); (try k_sweep)))
  k_with "my nocall" => (first | (with_reducible show wpAny _ _ (call (Value.ref 86) _) _ _ _) | (with_reducible show wpAny _ _ (call (Value.ref 81) _) _ _ _))
  k_with "my nocall" => (first | (with_reducible show wpAny _ _ (call (Value.ref 113) _) _ _ _))
  trivial
inductive RulesIn (w : World) (l : List (Addr × Obj)) : List Value → List (Str × Pat × Pat) → Prop where
  | nil : RulesIn w l [] []
  | cons {v : Value} {nm : Str} {p q : Pat} {vs : List Value} {rs : List (Str × Pat × Pat)} : RuleIn w l v nm p q → RulesIn w l vs rs → RulesIn w l (v :: vs) ((nm, p, q) :: rs)
theorem RulesIn.mono {w : World} {l l' : List (Addr × Obj)} {vs : List Value} {rs : List (Str × Pat × Pat)} (h : RulesIn w l vs rs) (hs : ∀ p ∈ l, p ∈ l') : RulesIn w l' vs rs := by
  induction h with
  | nil => exact .nil
  | cons h1 _ ih => exact .cons (h1.mono hs) ih
def ruleList : List (Str × Pat × Pat) :=
  [(Str.empty ++ Str.ofString "plus" ++ Str.ofString "-turn", .plus .va .vb, .plus .vb .va), (Str.empty ++ Str.ofString "plus" ++ Str.ofString "-put", .plus (.plus .va .vb) .vc, .plus .va (.plus .vb .vc)), (Str.empty ++ Str.ofString "plus" ++ Str.ofString "-unit", .plus .va .zero, .va),
   (Str.empty ++ Str.ofString "times" ++ Str.ofString "-turn", .times .va .vb, .times .vb .va), (Str.empty ++ Str.ofString "times" ++ Str.ofString "-put", .times (.times .va .vb) .vc, .times .va (.times .vb .vc)),
   (Str.ofString "plus-succ", .plus .va (.suc .vb), .suc (.plus .va .vb)), (Str.ofString "times-zero", .times .va .zero, .zero), (Str.ofString "times-one", .times .va (.suc .zero), .va), (Str.ofString "times-succ", .times .va (.suc .vb), .plus (.times .va .vb) .va), (Str.ofString "spread", .times .va (.plus .vb .vc), .plus (.times .va .vb) (.times .va .vc))]
def RulesSpec (w : World) : Prop :=
  ∀ {mean : ExcName → Option Value} {mg mb : Str → Option Value}
    {dp un : Nat} {gd : Option (List Code)} {cn : Str} {cs : Scope} {a : Addr} {ccd : Value} {cl : List (Str × Addr)} {outer : List Env} {A₀ : Around} {base h₀ : Heap} {L : Addr} {m : Str → Option Value} {news : List (Addr × Obj)} {s : Shared}
    {Q E : Value → Shared → Prop} {na : Addr}
    (_ : Below A₀ base outer h₀) (_ : Fr h₀ L s.heap m) (_ : (hd.heap_1 w.params).In h₀) (_ : News h₀ L s.heap news)
    (_ : Top view LO mean mg mb h₀) (_ : cs.kind = .function) (_ : dp < 500) (_ : un < 2500)
    (_ : ∀ D vs n tl h' tk' dr, Fr h₀ L h' m → News h₀ L h' (news ++ tl) → (∀ q ∈ news, ∀ p ∈ tl, q.1 < p.1) → (D, listOf vs.toArray n) ∈ news ++ tl → (∀ q ∈ news, q.1 < D) → RulesIn w (news ++ tl) vs ruleList → Q (.ref D) { s with heap := h', toks := tk', drawn := dr }),
    wpAny (model PySem.Challenge.rw_pq0002_01.row.prog w) (ktrTop dp un gd cn cs L a ccd cl outer) (call (.ref 159) [.ref na]) Q E s
theorem SplitLt.base {news t : List (Addr × Obj)} (h : ∀ q ∈ news, ∀ p ∈ t, q.1 < p.1) : ∃ tl, (∀ p ∈ news ++ tl, p ∈ news ++ t) ∧ (∀ p ∈ news ++ t, p ∈ news ++ tl) ∧ ∀ q ∈ news, ∀ p ∈ tl, q.1 < p.1 := ⟨t, fun _ h => h, fun _ h => h, h⟩
def Splits2 (news l : List (Addr × Obj)) : Prop := ∃ tl, (∀ p ∈ news ++ tl, p ∈ l) ∧ (∀ p ∈ l, p ∈ news ++ tl) ∧ ∀ q ∈ news, ∀ p ∈ tl, q.1 < p.1
theorem Splits2.base {news t : List (Addr × Obj)} (h : ∀ q ∈ news, ∀ p ∈ t, q.1 < p.1) : Splits2 news (news ++ t) := ⟨t, fun _ h => h, fun _ h => h, h⟩
theorem Splits2.cons {news l : List (Addr × Obj)} {a : Addr} {o : Obj} (h : ∀ q ∈ news, q.1 < a) : Splits2 news l → Splits2 news ((a, o) :: l) := fun ⟨tl, S1, S2, S3⟩ => ⟨(a, o) :: tl, fun p hp => by
    rcases List.mem_append.mp hp with hp | hp
    · exact .tail _ (S1 p (List.mem_append_left _ hp))
    · rcases List.mem_cons.mp hp with rfl | hp
      · exact .head _
      · exact .tail _ (S1 p (List.mem_append_right _ hp)), fun p hp => by
    rcases List.mem_cons.mp hp with rfl | hp
    · exact List.mem_append_right _ (.head _)
    · exact (List.mem_append.mp (S2 p hp)).elim (List.mem_append_left _) fun h => List.mem_append_right _ (.tail _ h), fun q hq p hp => by
    rcases List.mem_cons.mp hp with rfl | hp
    · exact h q hq
    · exact S3 q hq p hp⟩
theorem split2_ex {h₀ h : Heap} {L : Addr} {news all : List (Addr × Obj)} (_ : News h₀ L h all) (S : Splits2 news all) : Splits2 news all := S
theorem lt_two {news t1 t2 l1 l : List (Addr × Obj)} (h1 : ∀ q ∈ l1, ∀ p ∈ t1, q.1 < p.1) (hs1 : ∀ p ∈ news, p ∈ l1) (h2 : ∀ q ∈ l, ∀ p ∈ t2, q.1 < p.1) (hs : ∀ p ∈ news, p ∈ l) : ∀ q ∈ news, ∀ p ∈ t1 ++ t2, q.1 < p.1 := fun q hq p hp => (List.mem_append.mp hp).elim (h1 q (hs1 q hq) p) (h2 q (hs q hq) p)
theorem lt_sub2 {rd x : Addr} {l all : List (Addr × Obj)} (h2 : @LT.lt Nat _ rd x) (h : ∀ p ∈ all, p.1 < rd) (hs : ∀ p ∈ l, p ∈ all) : ∀ p ∈ l, p.1 < x := fun p hp => Nat.lt_trans (h p (hs p hp)) h2
theorem w86a : True := by
  k_with "newTuple" => ((k_here; k_dflt (refine' kup_newTuple ?FGI ?NGI ?_ ?zGI; (case FGI => k_asm); (case NGI => k_asm); (case zGI => kmk_size)); intro D' h' F' N' l1))
  k_with "newList" => ((k_here; k_dflt (refine' newList_K ?k1GJ ?k2GJ ?_; (case k1GJ => k_asm); (case k2GJ => k_asm); k_whole); intro l' h' F' N' l1))
  k_with "my sub" => ((intro p9 hp9; (repeat (first | exact hp9 | exact List.mem_append_left _ hp9 | exact List.mem_append_right _ hp9 | exact List.mem_append_right _ (List.mem_append_left _ hp9) | exact List.mem_append_right _ (List.mem_append_right _ hp9) | refine List.mem_cons_of_mem _ ?_)); done))
  k_with "my less" => (first | exact lt_sub (by assumption) (by k_extra "my sub") | exact lt_sub2 (by assumption) (by assumption) (by k_extra "my sub") | exact allLt_left (by tbn_find) | exact tb_ltOf (by tbn_find) | exact allLt_left (tbn_up (by assumption) (by tbn_find)))
  k_with "my split" => (first | ((with_reducible show Splits2 _ (_ ++ _)); exact Splits2.base (lt_two (by assumption) (by k_extra "my sub") (by assumption) (by k_extra "my sub"))) | (refine Splits2.cons (by k_extra "my less") ?_; k_extra "my split"))
  trivial
theorem deep_tl {x : Addr × Obj} {l all : List (Addr × Obj)} (h : ∀ p ∈ l, p ∈ all) : ∀ p ∈ l, p ∈ x :: all := fun p hp => .tail _ (h p hp)
theorem deep_cons {x : Addr × Obj} {l all : List (Addr × Obj)} (h : ∀ p ∈ l, p ∈ all) : ∀ p ∈ x :: l, p ∈ x :: all := fun p hp => by
  rcases List.mem_cons.mp hp with rfl | hp
  · exact .head _
  · exact .tail _ (h p hp)
theorem deep_app {l r r' : List (Addr × Obj)} (h : ∀ p ∈ r, p ∈ r') : ∀ p ∈ l ++ r, p ∈ l ++ r' := fun p hp => (List.mem_append.mp hp).elim (List.mem_append_left _) fun h1 => List.mem_append_right _ (h p h1)
theorem w86b : True := by
  k_with "my deep" => (first | exact (fun _ h9 => h9) | (with_reducible refine deep_cons ?_; k_extra "my deep") | (with_reducible refine deep_tl ?_; k_extra "my deep") | (with_reducible refine deep_app ?_; k_extra "my deep") | (intro _ h9; exact List.mem_append_left _ h9))
  k_with "my pat" => (first
      | ((with_reducible show PatIn _ _ Pat.va); exact PatIn.va) | ((with_reducible show PatIn _ _ Pat.vb); exact PatIn.vb) | ((with_reducible show PatIn _ _ Pat.vc); exact PatIn.vc)
      | ((with_reducible show PatIn _ _ Pat.zero); exact PatIn.zero (by k_mem)) | ((with_reducible show PatIn _ _ (Pat.suc _)); refine PatIn.suc (by k_mem) ?_; k_extra "my pat")
      | ((with_reducible show PatIn _ _ (Pat.plus _ _)); refine PatIn.plus (by k_mem) ?_ ?_ <;> k_extra "my pat") | ((with_reducible show PatIn _ _ (Pat.times _ _)); refine PatIn.times (by k_mem) ?_ ?_ <;> k_extra "my pat"))
  k_with "my rule" => (((case k1 => k_asm); (case k2 => k_asm); (case k3 => k_asm); (case k4 => k_asm); (case k5 => k_asm); (case kK => first | exact rfl | assumption); (case k8 => exact fun _ h => h); (case k6 => k_extra "my pat"); (case k7 => k_extra "my pat"); (case k9 => k_mem); (case k13 => ktr_room); (case k14 => ktr_units); k_whole; intro x' rd' t1' t2' t3' t4' h' tk' d' F' N' l1 l2; (try k_sweep)))
  k_with "my call" => ((k_here; (with_reducible show wpAny _ _ (call (Value.ref 138) _) _ _ _); k_dflt (first | (refine' laws_plus ?k1GQ ?k2GQ ?k3GQ ?k4GQ ?k5GQ ?kKGQ ?k13GQ ?k14GQ ?_) | (refine' laws_times ?k1GQ ?k2GQ ?k3GQ ?k4GQ ?k5GQ ?kKGQ ?k13GQ ?k14GQ ?_)); (case k1GQ => k_asm); (case k2GQ => k_asm); (case k3GQ => k_asm); (case k4GQ => k_asm); (case k5GQ => k_asm); (case kKGQ => first | exact rfl | assumption); (case k13GQ => ktr_room); (case k14GQ => ktr_units); k_whole; intro D' x1' x2' x3' n' tl' h' tk' d' F' N' hlt' hD' hDl' r1' r2' r3'; replace N' := newsCons N' hD'; (try dsimp only [List.cons_append, List.nil_append] at N'); (try simp only [List.append_assoc, List.cons_append, List.nil_append] at N' r1' r2' r3')))
  k_with "my nocall" => (first | (with_reducible show wpAny _ _ (call (Value.ref 113) _) _ _ _) | (with_reducible show wpAny _ _ (call (Value.ref 138) _) _ _ _))
  trivial
theorem rule_pack {w : World} {h₀ h : Heap} {L : Addr} {l news : List (Addr × Obj)} {nm : Str} {p q : Pat} {v : Value} {P : Prop} (N : News h₀ L h l) (S : Splits2 news l) (r : RuleIn w l v nm p q)
    (k : ∀ B, (∀ p ∈ l, p ∈ B) → News h₀ L h B → Splits2 news B → (∀ p ∈ news, p ∈ B) → RuleIn w B v nm p q → P) : P := k l (fun _ h => h) N S (fun p hp => S.elim fun _ h => h.1 p (List.mem_append_left _ hp)) r
theorem w86c : True := by
  k_with "my k_mem" => (((change (_ : Addr × Obj) ∈ (_ : List (Addr × Obj))); with_reducible assumption))
  k_with "my sub" => (first | with_reducible assumption | (with_reducible exact sub_self _) | (with_reducible refine sub_cons ?_; k_extra "my sub"))
  k_with "my split" => (((with_reducible show Splits2 _ _); with_reducible assumption))
  trivial
theorem splits_of9 {h₀ h : Heap} {L : Addr} {news l : List (Addr × Obj)} (_ : News h₀ L h l) (S : Splits2 news l) : Splits2 news l := S
theorem rule_of9 {w : World} {nm : Str} {p q : Pat} {v : Value} {h₀ h : Heap} {L : Addr} {l : List (Addr × Obj)} (_ : News h₀ L h l) (S : RuleIn w l v nm p q) : RuleIn w l v nm p q := S
theorem w86d : True := by
  k_with "my zmem" => (first | with_reducible exact List.mem_cons_self | (with_reducible refine List.mem_cons_of_mem _ ?_; k_extra "my zmem"))
  trivial
theorem rules_make {w : World} : RulesSpec w := by
  intro mean mg mb dp un gd cn cs a ccd cl outer A₀ base h₀ L m news s Q E na B F X N T hk hd hu ret
  obtain ⟨sH, sG, sD, sT, sO⟩ := s
  (try dsimp only at F); (try dsimp only at N); (try dsimp only at ret)
  refine ret_of (α := Unit) ?_
  refine wpAny_call ?_
  w_strict (k_dflt (k_extra "my enter"))
  k_extra "my steps"
  with_unfolding_all refine' RuleFor.use (rule_for (w := w) (p := .plus .va (.suc .vb)) (q := .suc (.plus .va .vb)) rfl (by decide) (by decide) (by decide) (by decide) (by decide +kernel)) ?k1 ?k2 ?k3 ?k4 ?k5 ?kK ?k6 ?k7 ?k8 ?k9 ?k13 ?k14 ?_
  k_extra "my rule"
  have hS9 := splits_of9 (news := news) N' (by k_extra "my split")
  have r9 := rule_of9 (w := w) (v := .ref x') (nm := Str.ofString "plus-succ") (p := .plus .va (.suc .vb)) (q := .suc (.plus .va .vb)) N' (by
    refine ⟨_, _, _, _, _, _, _, _, _, _, _, rfl, by k_mem, by k_mem, ?_, ?_, by k_mem⟩
    · k_extra "my pat"
    · k_extra "my pat")
  refine rule_pack N' hS9 r9 ?_
  clear hS9 r9
  intro B1 sB N' S' nB' R1
  have zB : (_, tupObj #[.str (Str.ofString "zero") _] _) ∈ B1 := sB _ (by k_extra "my zmem")
  have dB : (_, listOf #[_, _, _, _, _] _) ∈ B1 := sB _ (by k_extra "my zmem")
  have q1 : RuleIn w B1 _ (Str.empty ++ Str.ofString "plus" ++ Str.ofString "-turn") _ _ := RuleIn.mono (by with_reducible assumption) (sub_tr (by k_extra "my deep") sB)
  have q2 : RuleIn w B1 _ (Str.empty ++ Str.ofString "plus" ++ Str.ofString "-put") _ _ := RuleIn.mono (by with_reducible assumption) (sub_tr (by k_extra "my deep") sB)
  have q3 : RuleIn w B1 _ (Str.empty ++ Str.ofString "plus" ++ Str.ofString "-unit") _ _ := RuleIn.mono (by with_reducible assumption) (sub_tr (by k_extra "my deep") sB)
  have q4 : RuleIn w B1 _ (Str.empty ++ Str.ofString "times" ++ Str.ofString "-turn") _ _ := RuleIn.mono (by with_reducible assumption) (sub_tr (by k_extra "my deep") sB)
  have q5 : RuleIn w B1 _ (Str.empty ++ Str.ofString "times" ++ Str.ofString "-put") _ _ := RuleIn.mono (by with_reducible assumption) (sub_tr (by k_extra "my deep") sB)
  clear sB
  k_extra "my steps"
  with_unfolding_all refine' RuleFor.use (rule_for (w := w) (p := .times .va .zero) (q := .zero) rfl (by decide) (by decide) (by decide) (by decide) (by decide +kernel)) ?k1 ?k2 ?k3 ?k4 ?k5 ?kK ?k6 ?k7 ?k8 ?k9 ?k13 ?k14 ?_
  k_extra "my rule"
  have hS9 := splits_of9 (news := news) N' (by k_extra "my split")
  have r9 := rule_of9 (w := w) (v := .ref x') (nm := Str.ofString "times-zero") (p := .times .va .zero) (q := .zero) N' (by
    refine ⟨_, _, _, _, _, _, _, _, _, _, _, rfl, by k_mem, by k_mem, ?_, ?_, by k_mem⟩
    · k_extra "my pat"
    · k_extra "my pat")
  refine rule_pack N' hS9 r9 ?_
  clear hS9 r9
  intro B2 sB N' S' nB' R2
  have hs : ∀ p ∈ B1, p ∈ B2 := sub_tr (by k_extra "my sub") sB
  replace zB := hs _ zB; replace dB := hs _ dB
  replace q1 := q1.mono hs; replace q2 := q2.mono hs; replace q3 := q3.mono hs; replace q4 := q4.mono hs; replace q5 := q5.mono hs
  replace R1 := R1.mono hs
  clear hs
  clear sB
  k_extra "my steps"
  with_unfolding_all refine' RuleFor.use (rule_for (w := w) (p := .times .va (.suc .zero)) (q := .va) rfl (by decide) (by decide) (by decide) (by decide) (by decide +kernel)) ?k1 ?k2 ?k3 ?k4 ?k5 ?kK ?k6 ?k7 ?k8 ?k9 ?k13 ?k14 ?_
  k_extra "my rule"
  have hS9 := splits_of9 (news := news) N' (by k_extra "my split")
  have r9 := rule_of9 (w := w) (v := .ref x') (nm := Str.ofString "times-one") (p := .times .va (.suc .zero)) (q := .va) N' (by
    refine ⟨_, _, _, _, _, _, _, _, _, _, _, rfl, by k_mem, by k_mem, ?_, ?_, by k_mem⟩
    · k_extra "my pat"
    · k_extra "my pat")
  refine rule_pack N' hS9 r9 ?_
  clear hS9 r9
  intro B3 sB N' S' nB' R3
  have hs : ∀ p ∈ B2, p ∈ B3 := sub_tr (by k_extra "my sub") sB
  replace zB := hs _ zB; replace dB := hs _ dB
  replace q1 := q1.mono hs; replace q2 := q2.mono hs; replace q3 := q3.mono hs; replace q4 := q4.mono hs; replace q5 := q5.mono hs
  replace R1 := R1.mono hs; replace R2 := R2.mono hs
  clear hs
  clear sB
  k_extra "my steps"
  with_unfolding_all refine' RuleFor.use (rule_for (w := w) (p := .times .va (.suc .vb)) (q := .plus (.times .va .vb) .va) rfl (by decide) (by decide) (by decide) (by decide) (by decide +kernel)) ?k1 ?k2 ?k3 ?k4 ?k5 ?kK ?k6 ?k7 ?k8 ?k9 ?k13 ?k14 ?_
  k_extra "my rule"
  have hS9 := splits_of9 (news := news) N' (by k_extra "my split")
  have r9 := rule_of9 (w := w) (v := .ref x') (nm := Str.ofString "times-succ") (p := .times .va (.suc .vb)) (q := .plus (.times .va .vb) .va) N' (by
    refine ⟨_, _, _, _, _, _, _, _, _, _, _, rfl, by k_mem, by k_mem, ?_, ?_, by k_mem⟩
    · k_extra "my pat"
    · k_extra "my pat")
  refine rule_pack N' hS9 r9 ?_
  clear hS9 r9
  intro B4 sB N' S' nB' R4
  have hs : ∀ p ∈ B3, p ∈ B4 := sub_tr (by k_extra "my sub") sB
  replace zB := hs _ zB; replace dB := hs _ dB
  replace q1 := q1.mono hs; replace q2 := q2.mono hs; replace q3 := q3.mono hs; replace q4 := q4.mono hs; replace q5 := q5.mono hs
  replace R1 := R1.mono hs; replace R2 := R2.mono hs; replace R3 := R3.mono hs
  clear hs
  clear sB
  k_extra "my steps"
  with_unfolding_all refine' RuleFor.use (rule_for (w := w) (p := .times .va (.plus .vb .vc)) (q := .plus (.times .va .vb) (.times .va .vc)) rfl (by decide) (by decide) (by decide) (by decide) (by decide +kernel)) ?k1 ?k2 ?k3 ?k4 ?k5 ?kK ?k6 ?k7 ?k8 ?k9 ?k13 ?k14 ?_
  k_extra "my rule"
  k_extra "my steps"
  (rename Fr h₀ L _ m => fX); (rename News h₀ L _ _ => nX)
  obtain ⟨tl, S1, S2, S3⟩ := split2_ex (news := news) nX (by k_extra "my split")
  refine' ret _ [_, _, _, _, _, _, _, _, _, _] _ tl _ _ _ fX (newsSub nX S1) S3 (S2 _ (by k_mem)) (by first | exact allLt_left (by tbn_find) | exact lt_sub (by assumption) (by k_extra "my sub")) (RulesIn.mono ?_ S2)
  refine .cons ?a1 (.cons ?a2 (.cons ?a3 (.cons ?a4 (.cons ?a5 (.cons ?a6 (.cons ?a7 (.cons ?a8 (.cons ?a9 (.cons ?a10 .nil)))))))))
  case a1 => exact q1.mono (by k_extra "my sub")
  case a2 => exact q2.mono (by k_extra "my sub")
  case a3 => exact q3.mono (by k_extra "my sub")
  case a4 => exact q4.mono (by k_extra "my sub")
  case a5 => exact q5.mono (by k_extra "my sub")
  case a6 => exact R1.mono (by k_extra "my sub")
  case a7 => exact R2.mono (by k_extra "my sub")
  case a8 => exact R3.mono (by k_extra "my sub")
  case a9 => exact R4.mono (by k_extra "my sub")
  all_goals (refine ⟨_, _, _, _, _, _, _, _, _, _, _, rfl, by k_mem, by k_mem, ?_, ?_, by k_mem⟩ <;> k_extra "my pat")
def valItems (vs : List Value) : List (Value → Heap → Prop) := vs.map fun x v _ => v = x
section
variable {prog : Program} {w : World} {A : Around} {E : Value → Shared → Prop} {s : Shared} {env : Env} {h₀ : Heap} {body : List Stmt} {Q : Flow → Shared → Prop}
theorem seq_turns {x : Str} {px : Pos} {t I : Addr} {ot : Obj} {vs : List Value} {m₀ : Str → Option Value} {news : List (Addr × Obj)} {oI : Obj} {St : Nat → Heap → Prop} {h' : Heap} {tk0 : Nat}
    (W : Walks prog w A I [I, t] [I] vs.length (fun i v => vs[i]? = some v) St) (hI : I = s.heap.objs.size) (hh' : h' = s.heap.push oI) (hIo : h'.get? I = some oI) (hlive : ∀ i h, St i h → ∃ o, h.get? I = some o) (hst : St 0 h')
    (F : Fr h₀ env.locals s.heap m₀) (N : News h₀ env.locals s.heap news) (hm : (t, ot) ∈ news)
    (rest : ∀ I, (∀ p ∈ news, p.1 < I) → TurnsOf prog w A E h₀ env (.Name x px) body Q s [I] (t, ot) (valItems vs) m₀ news) :
    TurnsAt prog w A h₀ env (.Name x px) body Q E (.ref I) { s with heap := h', toks := tk0 } := by
  subst hI hh'
  have hlt : t < s.heap.objs.size := Heap.lt_size (N _ hm).1
  have up : ∀ b o, s.heap.get? b = some o → (s.heap.push oI).get? b = some o := fun b o e => Heap.get?_push_of_some _ e
  refine turns_at (s := s) (tk0 := tk0) (xs := valItems vs) (hp := s.heap.push oI) (KTurns.ofWalks W (fun _ _ _ _ _ _ h => wpAny_pure h)) (by simp [valItems]) (fun i v h hP => ?_) (fun b hb => ?_) (fun i h st b hb => ?_) ?_ (fun b hb => ?_) (fun p hp hI => ?_) hst (F.keeps up) (fun p hp => ⟨up _ _ (N p hp).1, (N p hp).2⟩) hm (rest _ fun p hp => Heap.lt_size (N p hp).1)
  · refine ⟨fun u _ => u = v, ?_, rfl⟩
    have hP' : vs[i]? = some v := hP
    simp [valItems, hP']
  · simp only [List.mem_cons, List.not_mem_nil, or_false] at hb ⊢
    exact hb
  · rw [List.mem_singleton.mp hb]; exact hlive i h st
  · intro hq
    simp only [List.mem_cons, List.not_mem_nil, or_false] at hq
    rcases hq with hq | hq
    · exact Nat.ne_of_lt F.ns.lt hq
    · exact (N _ hm).2.1 hq.symm
  · rw [List.mem_singleton.mp hb]; exact next_is_new F
  · have := Heap.lt_size (N p hp).1
    rw [List.mem_singleton.mp hI] at this
    exact Nat.lt_irrefl _ this
theorem list_turns {x : Str} {px : Pos} {t : Addr} {vs : List Value} {n : Nat} {m₀ : Str → Option Value} {news : List (Addr × Obj)} (hh : A.handled = none) (F : Fr h₀ env.locals s.heap m₀) (N : News h₀ env.locals s.heap news) (hm : (t, listOf vs.toArray n) ∈ news)
    (rest : ∀ I, (∀ p ∈ news, p.1 < I) → TurnsOf prog w A E h₀ env (.Name x px) body Q s [I] (t, listOf vs.toArray n) (valItems vs) m₀ news) :
    wpAny (model prog w) A (pyIter (.ref t)) (fun it s₂ => TurnsAt prog w A h₀ env (.Name x px) body Q E it s₂) E s := by
  have hl : s.heap.IsList t vs.toArray := ⟨_, (N _ hm).1, rfl, _, rfl⟩
  have hlt : t < s.heap.objs.size := Heap.lt_size (N _ hm).1
  refine wpAny_pyIter_list hl ?_
  have W := Walks.list (prog := prog) (w := w) (A := A) hh s.heap.objs.size t (Nat.ne_of_lt hlt) vs.toArray
  rw [List.size_toArray] at W
  have W' : Walks prog w A s.heap.objs.size [s.heap.objs.size, t] [s.heap.objs.size] vs.length (fun i v => vs[i]? = some v) (fun i h => h.IsListIter s.heap.objs.size t i ∧ h.IsList t vs.toArray) := by
    have e : (fun (i : Nat) (v : Value) => vs.toArray[i]? = some v) = fun i v => vs[i]? = some v := by funext i v; simp
    rw [e] at W; exact W
  exact seq_turns (tk0 := s.toks) W' rfl rfl (Heap.get?_push_size _ rfl) (fun i h st => by obtain ⟨o, e, _⟩ := st.1; exact ⟨o, e⟩) ⟨⟨_, Heap.get?_push_size _ rfl, rfl, rfl⟩, hl.push _⟩ F N hm rest
theorem tup_turns {x : Str} {px : Pos} {t : Addr} {vs : List Value} {n : Nat} {m₀ : Str → Option Value} {news : List (Addr × Obj)} (hh : A.handled = none) (F : Fr h₀ env.locals s.heap m₀) (N : News h₀ env.locals s.heap news) (hm : (t, tupObj vs.toArray n) ∈ news)
    (rest : ∀ I, (∀ p ∈ news, p.1 < I) → TurnsOf prog w A E h₀ env (.Name x px) body Q s [I] (t, tupObj vs.toArray n) (valItems vs) m₀ news) :
    wpAny (model prog w) A (pyIter (.ref t)) (fun it s₂ => TurnsAt prog w A h₀ env (.Name x px) body Q E it s₂) E s := by
  have hl : s.heap.IsTuple t vs.toArray := ⟨_, (N _ hm).1, rfl, _, rfl⟩
  have hlt : t < s.heap.objs.size := Heap.lt_size (N _ hm).1
  refine wpAny_pyIter_tuple hl ?_
  have W := Walks.tuple (prog := prog) (w := w) (A := A) hh s.heap.objs.size t (Nat.ne_of_lt hlt) vs.toArray
  rw [List.size_toArray] at W
  have W' : Walks prog w A s.heap.objs.size [s.heap.objs.size, t] [s.heap.objs.size] vs.length (fun i v => vs[i]? = some v) (fun i h => h.IsTupleIter s.heap.objs.size t i ∧ h.IsTuple t vs.toArray) := by
    have e : (fun (i : Nat) (v : Value) => vs.toArray[i]? = some v) = fun i v => vs[i]? = some v := by funext i v; simp
    rw [e] at W; exact W
  exact seq_turns (tk0 := s.toks) W' rfl rfl (Heap.get?_push_size _ rfl) (fun i h st => by obtain ⟨o, e, _⟩ := st.1; exact ⟨o, e⟩) ⟨⟨_, Heap.get?_push_size _ rfl, rfl, rfl⟩, hl.push _⟩ F N hm rest
theorem TurnsOf.val {x : Str} {px : Pos} {I : Addr} {v : Value} {r : List Value} {src : Addr × Obj} {m : Str → Option Value} {news : List (Addr × Obj)}
    (h : ∀ h tk oI, Fr h₀ env.locals h m → News h₀ env.locals h ((I, oI) :: news) → (∀ p ∈ news, p.1 ≠ I) →
      wpAny (model prog w) A (assign (.Name x px) env v) (fun _ s₂ => wpAny (model prog w) A (execs body env) (TurnEnd h₀ env.locals { s with heap := h, toks := tk } [(I, oI)] [I] src (fun m' n' => TurnsOf prog w A E h₀ env (.Name x px) body Q s [I] src (valItems r) m' n') Q) E s₂) E { s with heap := h, toks := tk }) :
    TurnsOf prog w A E h₀ env (.Name x px) body Q s [I] src (valItems (v :: r)) m news := by
  intro u h' tk own hu hown F N off
  obtain rfl : u = v := hu
  obtain ⟨oI, rfl⟩ : ∃ oI, own = [(I, oI)] := by
    cases own with
    | nil => cases hown
    | cons p l =>
      cases l with
      | nil => simp at hown; exact ⟨p.2, by rw [← hown]⟩
      | cons q l => simp at hown
  exact h h' tk oI F N fun p hp e => off p hp (List.mem_singleton.mpr e)
end
def Pat.pv (a b c : Nat) : Pat → Nat
  | .va => a
  | .vb => b
  | .vc => c
  | .zero => 0
  | .suc p => p.pv a b c + 1
  | .plus p q => p.pv a b c + q.pv a b c
  | .times p q => p.pv a b c * q.pv a b c
theorem put_val {e : Ev} {A B C : Tm} (p : Pat) : (p.put A B C).val e = p.pv (A.val e) (B.val e) (C.val e) := by
  induction p with
  | va => rfl
  | vb => rfl
  | vc => rfl
  | zero => rfl
  | suc p ih => simp only [Pat.put, Tm.val, Pat.pv, ih]
  | plus p q ih1 ih2 => simp only [Pat.put, Tm.val, Pat.pv, ih1, ih2]
  | times p q ih1 ih2 => simp only [Pat.put, Tm.val, Pat.pv, ih1, ih2]
theorem pv_mono {a b c a' b' c' : Nat} (ha : a ≤ a') (hb : b ≤ b') (hc : c ≤ c') (p : Pat) : p.pv a b c ≤ p.pv a' b' c' := by
  induction p with
  | va => exact ha
  | vb => exact hb
  | vc => exact hc
  | zero => exact Nat.le_refl _
  | suc p ih => exact Nat.succ_le_succ ih
  | plus p q ih1 ih2 => exact Nat.add_le_add ih1 ih2
  | times p q ih1 ih2 => exact Nat.mul_le_mul ih1 ih2
def Pat.fits : Pat → Bool
  | .suc p => p.fits && decide (p.pv 9 9 9 + 1 ≤ 800)
  | .plus p q => p.fits && q.fits && decide (p.pv 9 9 9 + q.pv 9 9 9 ≤ 800)
  | .times p q => p.fits && q.fits && decide (p.pv 9 9 9 ≤ 800) && decide (q.pv 9 9 9 ≤ 800) && decide (p.pv 9 9 9 * q.pv 9 9 9 ≤ 800)
  | _ => true
theorem put_le {e : Ev} (he : e.ok) {A B C : Tm} (hA : A.depth ≤ 1) (hB : B.depth ≤ 1) (hC : C.depth ≤ 1) (p : Pat) : (p.put A B C).val e ≤ p.pv 9 9 9 := by
  rw [put_val]; exact pv_mono (Tm.val1 he hA) (Tm.val1 he hB) (Tm.val1 he hC) p
theorem put_small {e : Ev} (he : e.ok) {A B C : Tm} (hA : A.depth ≤ 1) (hB : B.depth ≤ 1) (hC : C.depth ≤ 1) (p : Pat) (hf : p.fits = true) : (p.put A B C).small e ∧ (p.put A B C).top e ≤ 6561 := by
  induction p with
  | va => exact ⟨Tm.small_of he _ (Nat.le_trans hA (by decide)), Tm.top_le he _ (Nat.le_trans hA (by decide))⟩
  | vb => exact ⟨Tm.small_of he _ (Nat.le_trans hB (by decide)), Tm.top_le he _ (Nat.le_trans hB (by decide))⟩
  | vc => exact ⟨Tm.small_of he _ (Nat.le_trans hC (by decide)), Tm.top_le he _ (Nat.le_trans hC (by decide))⟩
  | zero => exact ⟨trivial, Nat.zero_le _⟩
  | suc p ih =>
    simp only [Pat.fits, Bool.and_eq_true, decide_eq_true_eq] at hf
    have h1 := ih hf.1
    have h2 := Nat.le_trans (Nat.succ_le_succ (put_le he hA hB hC p)) hf.2
    exact ⟨⟨h1.1, Nat.le_trans h2 (by decide)⟩, Nat.max_le.mpr ⟨Nat.le_trans h2 (by decide), h1.2⟩⟩
  | plus p q ih1 ih2 =>
    simp only [Pat.fits, Bool.and_eq_true, decide_eq_true_eq] at hf
    have h1 := ih1 hf.1.1
    have h2 := ih2 hf.1.2
    have h5 := Nat.le_trans (Nat.add_le_add (put_le he hA hB hC p) (put_le he hA hB hC q)) hf.2
    exact ⟨⟨h1.1, h2.1, Nat.le_trans h5 (by decide)⟩, Nat.max_le.mpr ⟨Nat.le_trans h5 (by decide), Nat.max_le.mpr ⟨h1.2, h2.2⟩⟩⟩
  | times p q ih1 ih2 =>
    simp only [Pat.fits, Bool.and_eq_true, decide_eq_true_eq] at hf
    have h1 := ih1 hf.1.1.1.1
    have h2 := ih2 hf.1.1.1.2
    have h3 := put_le he hA hB hC p
    have h4 := put_le he hA hB hC q
    have h5 := Nat.le_trans (Nat.mul_le_mul h3 h4) hf.2
    exact ⟨⟨h1.1, h2.1, Nat.le_trans h3 (Nat.le_trans hf.1.1.2 (by decide)), Nat.le_trans h4 (Nat.le_trans hf.1.2 (by decide))⟩, Nat.max_le.mpr ⟨Nat.le_trans h5 (by decide), Nat.max_le.mpr ⟨h1.2, h2.2⟩⟩⟩
def ruleOk (r : Str × Pat × Pat) : Prop := (∀ a b c, r.2.1.pv a b c = r.2.2.pv a b c) ∧ r.2.1.fits = true ∧ r.2.2.fits = true ∧ r.2.1.pv 9 9 9 ≤ 800 ∧ r.2.2.pv 9 9 9 ≤ 800 ∧ r.2.1.depth ≤ 3 ∧ r.2.2.depth ≤ 3
theorem rules_ok : ∀ r ∈ ruleList, ruleOk r := by
  intro r hr
  simp only [ruleList, List.mem_cons, List.not_mem_nil, or_false] at hr
  rcases hr with rfl | rfl | rfl | rfl | rfl | rfl | rfl | rfl | rfl | rfl
  all_goals refine ⟨fun a b c => ?_, by decide, by decide, by decide, by decide, by decide, by decide⟩
  all_goals simp only [Pat.pv]
  all_goals grind
theorem rules_names : (ruleList.map (·.1)).Nodup := by decide +kernel
def wideT (t term : Tm) : Tm := .plus (.times (.suc t) (.nm .x)) term
theorem wide_small {e : Ev} (he : e.ok) {t term : Tm} (h1 : t.small e) (h2 : t.top e ≤ 6561) (h3 : t.val e ≤ 800) (hd : term.depth ≤ 3) : (wideT t term).small e ∧ (wideT t term).top e ≤ 1000000 := by
  have a1 := Tm.val3 he hd
  have a2 := Tm.small_of he term hd
  have a3 := Tm.top_le he term hd
  have a4 : e.x ≤ 3 := he.1
  have h4 : t.val e + 1 ≤ 801 := Nat.succ_le_succ h3
  have a5 : (t.val e + 1) * e.x ≤ 801 * 3 := Nat.mul_le_mul h4 a4
  have a6 : (t.val e + 1) * e.x + term.val e ≤ 8964 := Nat.add_le_add a5 a1
  exact ⟨⟨⟨⟨h1, Nat.le_trans h4 (by decide)⟩, trivial, Nat.le_trans h4 (by decide), Nat.le_trans a4 (by decide)⟩, a2, Nat.le_trans a6 (by decide)⟩,
    Nat.max_le.mpr ⟨Nat.le_trans a6 (by decide), Nat.max_le.mpr ⟨Nat.max_le.mpr ⟨Nat.le_trans a5 (by decide), Nat.max_le.mpr ⟨Nat.max_le.mpr ⟨Nat.le_trans h4 (by decide), Nat.le_trans h2 (by decide)⟩, Nat.zero_le _⟩⟩, Nat.le_trans a3 (by decide)⟩⟩⟩
theorem wide_val {e : Ev} {t u term : Tm} (h : t.val e = u.val e) : (wideT t term).val e = (wideT u term).val e := by simp only [wideT, Tm.val, h]
theorem put_depth {A B C : Tm} (hA : A.depth ≤ 1) (hB : B.depth ≤ 1) (hC : C.depth ≤ 1) (p : Pat) : (p.put A B C).depth ≤ p.depth + 1 := by
  induction p with
  | va => exact hA
  | vb => exact hB
  | vc => exact hC
  | zero => exact Nat.zero_le _
  | suc p ih => exact Nat.succ_le_succ ih
  | plus p q ih1 ih2 => exact Nat.succ_le_succ (Nat.max_le.mpr ⟨Nat.le_trans ih1 (Nat.succ_le_succ (Nat.le_max_left _ _)), Nat.le_trans ih2 (Nat.succ_le_succ (Nat.le_max_right _ _))⟩)
  | times p q ih1 ih2 => exact Nat.succ_le_succ (Nat.max_le.mpr ⟨Nat.le_trans ih1 (Nat.succ_le_succ (Nat.le_max_left _ _)), Nat.le_trans ih2 (Nat.succ_le_succ (Nat.le_max_right _ _))⟩)
theorem w89 : True := by
  w_top off
  k_with_none
  k_with "my k_all" => (k_dflt (first | assumption | exact all_ne_sub9 (by assumption) (by k_extra "my sub") | exact all_ne_u0 (by assumption) (by k_extra "my sub") | exact all_ne_u1 (by assumption) (by k_extra "my sub") | exact all_ne_u2 (by assumption) (by k_extra "my sub") | exact all_ne_u3 (by assumption) (by k_extra "my sub") | exact all_ne_u4 (by assumption) (by k_extra "my sub") | (refine List.forall_mem_append.mpr ⟨?_, ?_⟩ <;> k_all)))
  k_with "my ktr_room" => (((try simp only [depth_under_make, depth_under_kw, depth_in1, depth_deeper, depth_caller]); (try dsimp only [ktrTop]); (try simp only [recursionLimit]); k_extra "my room"))
  k_with "my room" => (first | exact Nat.le_of_ble_eq_true rfl | exact rm0 hd rfl | exact rm1 hd rfl | exact rm5 hd rfl | exact rm6 hd rfl | exact rm4 hd rfl | exact rm2 hd rfl | exact rm3 hd rfl | exact rm7 hd rfl | exact rm8 (by assumption) rfl | omega)
  k_with "my units" => (first | exact Nat.le_of_ble_eq_true rfl | exact rm0 hu rfl | exact rm1 hu rfl | exact rm5 hu rfl | exact rm6 hu rfl | exact rm4 hu rfl | exact rm2 hu rfl | exact rm3 hu rfl | exact rm7 hu rfl | exact rm8 (by assumption) rfl | exact um1 hu rfl | exact um2 hu rfl | exact um3 hu rfl | exact um4 hu rfl | exact um5 hu rfl | (have hcL9 := cLine_is; omega))
  k_with "my dep" => (first | assumption | exact dm1 hdp | exact dm2 hdp | exact dm0 hdp | omega)
  k_with "my ktr_units" => (((try simp only [units_in1, units_deeper, Around.mark_units, units_caller]); (try dsimp only [ktrTop]); k_extra "my units"))
  k_with "my k_room" => (ktr_room)
  k_with "my k_units" => (ktr_units)
  k_with "my units_room" => (ktr_units)
  k_with "compareOp Eq ref ref" => ((k_here; (with_reducible show wpAny _ _ (compareOp CmpOp.Eq (Value.ref _) (Value.ref _)) _ _ _); first
      | refine' eq_zero_f (by assumption) (by assumption) (by k_extra "my sub") (by k_mem) (by first | rfl | exact mkOf_zero) (by omega) (by ktr_units) ?_
      | refine' eq_zero_t (by assumption) (by assumption) (by k_extra "my sub") (by k_mem) rfl (by omega) (by ktr_units) ?_))
  k_with "my k_ne" => (k_dflt (first | exact off_I (by assumption) (by k_mem) | exact off_C (by assumption) (by k_mem) | exact off_D (by assumption) (by k_mem) | assumption | exact ne_gt9 (by assumption) (by k_mem) | exact ne_lt9 (by assumption) (by k_mem) | exact ne_all9 (by assumption) (by k_mem) | exact ne_all9s (by assumption) (by k_mem) | exact ne_gt_u1 (by assumption) (by k_mem) | exact ne_lt_u1 (by assumption) (by k_mem) | exact ne_gt_u2 (by assumption) (by k_mem) | exact ne_lt_u2 (by assumption) (by k_mem) | exact ne_gt_u3 (by assumption) (by k_mem) | exact ne_lt_u3 (by assumption) (by k_mem) | exact ne_gt_u4 (by assumption) (by k_mem) | exact ne_lt_u4 (by assumption) (by k_mem)))
  k_with "my off" => (first | exact True.intro | (refine And.intro (off_at (by assumption) (by k_mem)) ?_; k_extra "my off") | (refine Off3.append ?_ ?_ <;> k_extra "my off") | (refine Off3.of_sub (by assumption) (fun p hp => ?_); simp only [List.mem_cons, List.mem_append, hp, true_or, or_true]; done) | (refine Off3.of_lt (by assumption) (by k_mem) (by k_mem) (by k_mem)))
  k_with "CompSrc" => ((k_here; k_dflt (refine LCg.CompSrc.range (by rfl) (by k_asm) (by k_asm) (by with_reducible assumption) (by first | decide | rfl) (by first | rfl | decide) (by first | size_fits | exact Nat.le_of_ble_eq_true rfl) ?_; intro g'; lcg_lit)))
  k_with "CompRest" => ((with_unfolding_all first
      | (refine CompRest_at (fun v9 h9 => (Option.some.inj h9).symm) ?_; intro I' oI' C' oC' D' m' h' tk' E' hC' hx' F' N' off' ne'; have offM := off'.mem; clear off')
      | (refine CompRest_ex (fun v9 h9 => h9) ?_; intro t9' I' oI' C' oC' D' m' h' tk' E' hC' hx' F' N' off' ne'; have offM := off'.mem; clear off')
      | (refine LCg.CompRest.succ ?_; intro v' I' oI' C' oC' D' m' h' tk' E' hv' hC' hx' F' N' off' ne'; have offM := off'.mem; (first | lcg_open hv' | (obtain ⟨t9', hv9'⟩ := hv'; subst hv9')); clear off')
      | refine LCg.CompRest.zero ?_))
  k_with "CompEnd" => ((k_here; (refine LCg.CompEnd.intro (by assumption) (by assumption) _ (fun p hp => hp) ?offAO ?srcAO ?_; (case offAO => k_extra "my off"); (case srcAO => first | lcg_src | ((try dsimp only); k_mem)))))
  k_with "my enter" => ((refine' code_def ?k1AP ?k2AP ?k3AP ?k4AP ?k5AP ?kAAP ?kFAP ?kKAP ?k6AP ?k7AP ?k8AP ?k9AP ?kBAP ?_ ?c2AP ?c3AP ?c4AP ?c5AP; (case kAAP => exact rfl); (case kFAP => exact rfl); (case kKAP => first | exact rfl | assumption); (case k1AP => k_asm); (case k2AP => k_asm); (case k3AP => k_asm); (case k4AP => k_asm); (case k5AP => k_asm); (case k6AP => k_is); (case k7AP => k_is); (case k8AP => ktr_room); (case k9AP => exact BindsTo.of_eq rfl); (case c5AP => decide); (case kBAP => exact locs rfl); (case c2AP => exact rfl); (case c3AP => exact rfl); (case c4AP => exact rfl); k_whole; intro g' L' h' FG' F' N' B' X' T'; (try dsimp only); (try k_fold)))
  k_with "my enterC" => ((refine' code_defC ?k1AQ ?k2AQ ?k3AQ ?k4AQ ?k5AQ ?kAAQ ?kFAQ ?kKAQ ?k6AQ ?k7AQ ?k8AQ ?k9AQ ?kBAQ ?kDAQ ?_ ?c2AQ ?c3AQ ?c4AQ; (case kAAQ => exact rfl); (case kFAQ => exact rfl); (case kKAQ => first | exact rfl | assumption); (case k1AQ => k_asm); (case k2AQ => k_asm); (case k3AQ => k_asm); (case k4AQ => k_asm); (case k5AQ => k_asm); (case k6AQ => k_is); (case k7AQ => k_is); (case k8AQ => ktr_room); (case k9AQ => exact BindsTo.of_eq rfl); (case kBAQ => exact rfl); (case kDAQ => decide +kernel); (case c2AQ => exact rfl); (case c3AQ => exact rfl); (case c4AQ => exact rfl); k_whole; intro g' L' h' tk' cells' FG' F'; (first | (refine cells_in1 ?_; intro o' d1' N') | (refine cells_in2 ?_; intro o' o2' d1' d2' N') | (refine cells_in3 ?_; intro o' o2' o3' d1' d2' d3' N') | (refine cells_in4 ?_; intro o' o2' o3' o4' d1' d2' d3' d4' N')); intro B' X' T' l1; (try k_lt l1); (try dsimp only); (try k_fold)))
  k_with "eval ListComp" => ((k_here; (with_reducible show wpAny _ _ (eval (Expr.ListComp _ [⟨Expr.Name _ _, Expr.Subscript _ (Expr.Slice (some _) _ _ _) _, [], 0⟩] _ _) _) _ _ _); k_dflt (refine comp_tup (by k_asm) (by with_unfolding_all rfl) (by decide) (by rfl) (by decide) (by rfl) ?_)))
  k_with "exec Assign cons ListComp" => ((k_here; (with_reducible show wpAny _ _ (exec (Stmt.Assign [Expr.Name _ _] (Expr.ListComp _ [⟨Expr.Name _ _, Expr.Subscript _ (Expr.Slice (some _) _ _ _) _, [], 0⟩] _ _) _) _) _ _ _); k_dflt (refine comp_tup_assign (by k_asm) (by rfl) (by with_unfolding_all rfl) (by with_unfolding_all rfl) (by decide) (by rfl) (by decide) (by rfl) (by rfl) (by rfl) ?_)))
  k_with "subscriptTail Name Slice ref ref" => ((k_here; (with_reducible show wpAny _ _ (subscriptTail _ (PySem.Expr.Slice (some _) none none _) (Value.ref _) (Value.ref _)) _ _ _); k_dflt (refine' slice_tup1 ?FAT ?NAT ?lAT ?pAT ?eAT ?_ ?sAT ?tAT ?zAT; (case FAT => k_asm); (case NAT => k_asm); (case lAT => k_mem); (case pAT => exact Nat.le_of_ble_eq_true rfl); (case eAT => kl_lit); (case sAT => with_unfolding_all rfl); (case tAT => kmk_pure); (case zAT => kmk_size)); intro D' h' F' N' l1; (try k_lt l1); (try k_sweep)))
  k_with "TupSrc" => ((k_here; k_dflt (refine TupSrc.of (by rfl) (by k_asm) (by k_asm) (by k_mem) (by first | size_fits | exact Nat.le_of_ble_eq_true rfl) ?_; intro g'; lcg_lit)))
  k_with "my steps" => (repeat' ((fail_if_success (with_reducible show Ret _ _ _)); first | ((with_reducible show wpAny _ _ (call (Value.ref _) _ _) _ _ _); k_extra "my call") | ((fail_if_success ((with_reducible show wpAny _ _ (call (Value.ref _) _ _) _ _ _); k_extra "my nocall")); first | (k_unfold; (try dsimp only)) | walk1 | (dsimp only; walk1) | (leave1; walk_say "STEP leave1"; try dsimp only))))
  k_with "my sub" => (first | (with_reducible exact sub_self _) | (with_reducible refine sub_cons ?_; k_extra "my sub") | (with_reducible refine sub_left ?_; k_extra "my sub") | (with_reducible refine sub_right ?_; k_extra "my sub") | (intro p hp; simp only [List.mem_cons, List.mem_append, hp, true_or, or_true]; done))
  k_with "my ord" => (k_dflt (first | assumption | exact lt_all (by assumption) (by k_mem) | exact lt_all_u1 (by assumption) (by k_mem) | exact lt_all_u2 (by assumption) (by k_mem) | omega))
  k_with "my allLt" => (first | exact allLt_of (by assumption) | exact allLt_sub (by assumption) (by k_extra "my sub") | tbn_find)
  k_with "FinE" => (((unfold LCg.FinE); intro D' h' tk' F' N' o1'; replace o1' := off1_mem o1'; (try dsimp only [List.nil_append, List.cons_append] at N'); (try dsimp only [List.nil_append, List.cons_append] at o1'); (try dsimp only)))
  k_with "FinA" => (((unfold LCg.FinA); intro D' h' tk' F' N' o1'; replace o1' := off1_mem o1'; (try dsimp only [List.nil_append, List.cons_append] at N'); (try dsimp only [List.nil_append, List.cons_append] at o1'); (try dsimp only)))
  k_with "my omega" => (first
      | ((with_reducible show @LE.le Nat _ _ _); first | exact Nat.le_of_ble_eq_true rfl | with_reducible (first | exact o1 ‹_› (by decide) | exact o4 ‹_› (by decide) | exact o7 ‹_› (by decide) | exact o8 ‹_› (by decide) | exact o9 ‹_› (by decide) | exact q6 ‹_› (by decide) | exact q0 ‹_› (by decide) | exact r0 ‹_› (by decide) | exact q1 ‹_› ‹_› (by decide) | exact q3 ‹_› ‹_› (by decide) | exact q7 ‹_› ‹_› (by decide) | exact q8 ‹_› ‹_› (by decide) | exact q9 ‹_› ‹_› | exact r1 ‹_› ‹_› (by decide) | exact r2 ‹_› ‹_› | exact r4 ‹_› ‹_› | exact r8 ‹_› ‹_› (by decide) | exact o0 ‹_› (by decide) | exact Nat.add_le_add ‹_› ‹_› | exact Nat.le_add_left _ _ | exact Nat.le_of_lt ‹_›))
      | ((with_reducible show @LT.lt Nat _ _ _); first | exact Nat.le_of_ble_eq_true rfl | with_reducible (first | exact o2 ‹_› (by decide) | exact o3 ‹_› (by decide) | exact o5 ‹_› (by decide) | exact o6 ‹_› (by decide) | exact p5 ‹_› (by decide) | exact j6 ‹_› (by decide) | exact q2 ‹_› ‹_› (by decide) | exact q4 ‹_› ‹_› (by decide) | exact q5 ‹_› ‹_› (by decide) | exact p1 ‹_› ‹_› (by decide) | exact p2 ‹_› ‹_› (by decide) | exact p3 ‹_› ‹_› (by decide) | exact p4 ‹_› ‹_› (by decide) | exact p6 ‹_› ‹_› (by decide)))
      | ((with_reducible show @LE.le Int _ _ _); first | decide +kernel | with_reducible (first | exact i1 ‹_› | exact i2 ‹_› | exact i6 | exact i7 | exact j7 ‹_› | exact j4 ‹_› (by decide +kernel) | exact i8 ‹_› (by decide +kernel) | exact i9 ‹_› (by decide +kernel) | exact i3 ‹_› ‹_› | exact i4 ‹_› ‹_› | exact i5 ‹_› ‹_›))
      | ((with_reducible show @LT.lt Int _ _ _); first | decide +kernel | with_reducible (first | exact j1 ‹_› | exact j5 (by decide +kernel) | exact j3 ‹_› (by decide +kernel) | exact j8 ‹_› (by decide +kernel) | exact j9 ‹_› (by decide +kernel) | exact l1 ‹_› (by decide +kernel) | exact l2 ‹_› (by decide +kernel) | exact l3 ‹_› (by decide +kernel) | exact j0 ‹_› ‹_› (by decide +kernel)))
      | ((with_reducible show @Ne Nat _ _); with_reducible (first | exact Nat.ne_of_gt ‹_› | exact Nat.ne_of_lt ‹_› | exact Nat.succ_ne_self _ | exact (Nat.succ_ne_self _).symm))
      | with_reducible (first | exact j2 ‹_› | exact z4 ‹_› ‹_› | exact z6 ‹_› ‹_› | exact z3 ‹_› | exact z2 ‹_› ‹_›))
  k_with "my call" => ((k_here; (with_reducible show wpAny _ _ (call (Value.ref 195) [_, _]) _ _ _); (with_reducible rename OnesFor _ _ => ih9CA); (refine toks_up ?_); k_dflt (refine' ih9CA ?ktCA ?k1CA ?k2CA ?k3CA ?k4CA ?k5CA ?kKCA ?k6CA ?k7CA ?k8CA ?k9CA ?k10CA ?k11CA ?k12CA ?k125CA ?k13CA ?k14CA ?_; (case k1CA => k_asm); (case k2CA => k_asm); (case k3CA => k_asm); (case k4CA => k_asm); (case k5CA => k_asm); (case kKCA => first | exact rfl | assumption); (case k6CA => first | assumption | exact TmIn.mono (by assumption) (by k_extra "my sub")); (case ktCA => first | exact Or.inl rfl | exact Or.inr rfl | exact True.intro); (case k7CA => k_mem); (case k8CA => assumption); (case k9CA => assumption); (case k10CA => assumption); (case k11CA => assumption); (case k12CA => first | assumption | omega); (case k125CA => k_extra "my dep"); (case k13CA => ktr_room); (case k14CA => ktr_units); k_whole); intro t1' h' tk' ht0' ht1' F' N' hle'; (try dsimp only at hle'); (try k_sweep)))
  k_with "my nocall" => ((with_reducible show wpAny _ _ (call (Value.ref 195) _ _) _ _ _))
  k_with "my call" => ((k_here; (with_reducible show wpAny _ _ (call (Value.ref 200) [_, _]) _ _ _); (with_reducible rename GreatFor _ _ => ih9CD); k_dflt (refine' ih9CD ?ktCD ?k1CD ?k2CD ?k3CD ?k4CD ?k5CD ?kKCD ?k6CD ?k7CD ?k8CD ?k9CD ?k10CD ?k11CD ?k12CD ?k125CD ?k13CD ?k14CD ?_; (case k1CD => k_asm); (case k2CD => k_asm); (case k3CD => k_asm); (case k4CD => k_asm); (case k5CD => k_asm); (case kKCD => first | exact rfl | assumption); (case k6CD => first | assumption | exact TmIn.mono (by assumption) (by k_extra "my sub")); (case ktCD => first | exact Or.inl rfl | exact Or.inr rfl | exact True.intro); (case k7CD => k_mem); (case k8CD => assumption); (case k9CD => assumption); (case k10CD => assumption); (case k11CD => assumption); (case k12CD => first | assumption | omega); (case k125CD => k_extra "my dep"); (case k13CD => ktr_room); (case k14CD => ktr_units); k_whole); intro t1' h' tk' F' N'; (try k_sweep)))
  k_with "my nocall" => ((with_reducible show wpAny _ _ (call (Value.ref 200) _ _) _ _ _))
  k_with "call builtin:len" => ((k_here; (with_reducible show wpAny _ _ (call (Value.builtin "len") [Value.str (ones _) _]) _ _ _); refine len_ones (by assumption) ?_))
  k_with "my fault" => (((with_reducible show wpAny _ _ (call (Value.ref 60) [Value.str _ _]) _ _ _); refine' fault_make ?kBCJ ?kFCJ ?kXCJ ?kNCJ ?kTCJ ?kACJ ?kfCJ ?kkCJ ?khCJ ?kdCJ ?kuCJ ?_; (case kACJ => exact rfl); (case kBCJ => k_asm); (case kFCJ => k_asm); (case kXCJ => k_asm); (case kNCJ => k_asm); (case kTCJ => k_asm); (case kfCJ => exact rfl); (case kkCJ => exact rfl); (case khCJ => exact rfl); (case kdCJ => ktr_room); (case kuCJ => ktr_units); intro hv tkv xv tv dv Fv Nv lv lt; refine ⟨xv, tv, dv, rfl, Frag.In.keeps (by k_asm) (Fr.keep (by assumption)), (Nv _ (.head _)).1, ?_⟩; show wpAny _ _ (leaving _ _) _ _ _; refine leave_fault (by assumption) Fv Nv (fun p hp => Nat.ne_of_lt (lv p hp)) (fun p hp => Nat.ne_of_lt (lt p hp)) rfl (fun h9 R9 U9 => ?_); exact raise_end (by assumption) (by k_extra "my none") (by assumption) R9 U9 (by k_extra "my sub")))
  k_with "joinParts" => ((k_here; first
      | ((with_reducible refine joinParts_consE ?_); (with_reducible refine' joinParts_gen ?hoCK ?hnCK ?_); (case hoCK => first | assumption | exact (show Str.empty.length ≤ 0 from by decide +kernel)); (case hnCK => exact Nat.le_of_ble_eq_true rfl))
      | ((with_reducible show wpAny _ _ (joinParts _ (_ :: _)) _ _ _); (with_reducible refine' joinParts_gen ?hoCK ?hnCK ?_); (case hoCK => first | assumption | exact (show Str.empty.length ≤ 0 from by decide +kernel)); (case hnCK => exact Nat.le_of_ble_eq_true rfl))
      | ((try with_reducible refine joinParts_nilE ?_); (with_reducible refine' joinParts_last ?hoCK ?hnCK ?_); (case hoCK => assumption); (case hnCK => exact Nat.le_of_ble_eq_true rfl); intro msg' hmsg')))
  k_with "StrPart" => ((k_here; (with_unfolding_all refine StrPart.intro ?hyCL ?_); (case hyCL => first | omega | decide +kernel | exact int_text30 (by omega)); intro out' hout'))
  k_with "formatField str" => ((k_here; (with_reducible show wpAny _ _ (formatField (Value.str _ _) Str.empty) _ _ _); (refine formatField_str ?_ (by rw [sizeLine_eq]; omega)); intro _ _))
  k_with "exec Assign cons ListComp" => ((k_here; (with_reducible show wpAny _ _ (exec (Stmt.Assign [Expr.Name _ _] (Expr.ListComp _ [⟨Expr.Name _ _, Expr.Subscript _ (Expr.Slice _ _ _ _) _, [], 0⟩] _ _) _) _) _ _ _); k_dflt (refine comp_tup_assignE (by k_asm) (by k_asm) (by rfl) (by rfl) (by rfl) (by with_unfolding_all rfl) (by with_unfolding_all rfl) (by decide) (by rfl) (by decide) (by rfl) (by rfl) (by rfl) ?_)))
  k_with "my heldE" => ((intro er9 h9 tk9 p9 U9; show wpAny _ _ (leaving _ _) _ _ _; refine leave_upF (by assumption) rfl U9 (fun h8 x8 t8 vs8 e8 R8 V8 => ?_); subst e8; exact raise_end (by assumption) p9 (by assumption) R8 V8 (fun _ h => h)))
  k_with "TupSrcE" => ((k_here; k_dflt (first
      | refine TupSrcE.of (by assumption) (by rfl) (by k_asm) (by k_asm) (by k_mem) (by first | size_fits | exact Nat.le_of_ble_eq_true rfl) 1 (by rfl) ?hKCU ?hECU ?_
      | refine TupSrcE.of (by assumption) (by rfl) (by k_asm) (by k_asm) (by k_mem) (by first | size_fits | exact Nat.le_of_ble_eq_true rfl) 2 (by rfl) ?hKCU ?hECU ?_); (case hKCU => k_extra "my sub"); (case hECU => k_extra "my heldE"); intro g'))
  k_with "RestE" => ((with_unfolding_all first
      | (refine RestE.at (fun v9 h9 => (Option.some.inj h9).symm) ?_; intro I' oI' C' oC' D' m' h' tk' hT' hC' hx' F' N' off' ne'; have offM := off'.mem; clear off')
      | (refine RestE.succ ?_; intro v' I' oI' C' oC' D' m' h' tk' hT' hv' hC' hx' F' N' off' ne'; have offM := off'.mem; lcg_open hv'; clear off')
      | refine RestE.zero ?_))
  k_with "EndT" => ((k_here; (refine EndT.intro (by assumption) (by assumption) ?offCW ?srcCW ?_; (case offCW => k_extra "my off"); (case srcCW => ((try dsimp only); refine ⟨by k_mem, ?_⟩; k_extra "my sub")))))
  k_with "FinAT" => (((unfold FinAT); intro D' h' tk' hT' F' N' o1'; replace o1' := off1_mem o1'; (try dsimp only [List.nil_append, List.cons_append] at o1'); (try dsimp only [List.nil_append, List.cons_append] at N'); (try dsimp only)))
  k_with "my callE" => ((intro p9 er9 h9 tk9 U9; exact ElE.intro (by k_extra "my none") U9 (fun _ h => h)))
  k_with "my call" => ((k_here; (with_reducible show wpAny _ _ (call (Value.ref 164) [_, _, _]) _ _ _); (with_reducible rename ValFor _ _ _ _ => ih9DA); k_dflt (refine' ih9DA ?ktDA ?k1DA ?k2DA ?k3DA ?k4DA ?k5DA ?kKDA ?k6DA ?k7DA ?k8DA ?k9DA ?k10DA ?k11DA ?k12DA ?k125DA ?k13DA ?k14DA ?_ ?kEDA; (case k1DA => k_asm); (case k2DA => k_asm); (case k3DA => k_asm); (case k4DA => k_asm); (case k5DA => k_asm); (case kKDA => first | exact rfl | assumption); (case k6DA => first | assumption | exact TmIn.mono (by assumption) (by k_extra "my sub")); (case ktDA => first | exact Or.inl rfl | exact Or.inr rfl | exact True.intro); (case k7DA => k_mem); (case k8DA => assumption); (case k9DA => assumption); (case k10DA => assumption); (case k11DA => k_mem); (case k12DA => k_mem); (case k125DA => k_extra "my dep"); (case k13DA => ktr_room); (case k14DA => ktr_units); (case kEDA => k_extra "my callE"); k_whole); intro n' t1' h' tk' ho' F' N'; obtain hb' := ev_le (by assumption) (by assumption) ho'; (try k_sweep)))
  k_with "my nocall" => ((with_reducible show wpAny _ _ (call (Value.ref 164) _ _) _ _ _))
  k_with "my upE" => ((intro p9 er9 h9 tk9 U9; show wpAny _ _ (leaving _ _) _ _ _; refine leave_up (by assumption) rfl U9 (fun h8 x8 t8 vs8 e8 R8 V8 => ?_); subst e8; exact raise_end (by assumption) (by k_extra "my none") (by assumption) R8 V8 (by k_extra "my sub")))
  k_with "my call" => ((k_here; (with_reducible show wpAny _ _ (call (Value.ref 131) [_, _]) _ _ _); k_dflt (first
      | (refine' named_bad1 ?k1DK ?k2DK ?k3DK ?k4DK ?k5DK ?kKDK ?k6DK ?k7DK ?k8DK ?k9DK ?k10DK ?k11DK ?k12DK ?k13DK ?k14DK ?kEDK; (case k1DK => k_asm); (case k2DK => k_asm); (case k3DK => k_asm); (case k4DK => k_asm); (case k5DK => k_asm); (case kKDK => first | exact rfl | assumption); (case k6DK => k_mem); (case k7DK => k_mem); (case k8DK => assumption); (case k9DK => assumption); (case k10DK => assumption); (case k11DK => assumption); (case k12DK => assumption); (case k13DK => ktr_room); (case k14DK => ktr_units); (case kEDK => k_extra "my upE"))
      | (refine' named_bad2 ?k1DK ?k2DK ?k3DK ?k4DK ?k5DK ?kKDK ?k6DK ?k11DK ?k13DK ?k14DK ?kEDK; (case k1DK => k_asm); (case k2DK => k_asm); (case k3DK => k_asm); (case k4DK => k_asm); (case k5DK => k_asm); (case kKDK => first | exact rfl | assumption); (case k6DK => k_mem); (case k11DK => assumption); (case k13DK => ktr_room); (case k14DK => ktr_units); (case kEDK => k_extra "my upE"))
      | (refine' named_bad3 ?k1DK ?k2DK ?k3DK ?k4DK ?k5DK ?kKDK ?k6DK ?k11DK ?k13DK ?k14DK ?kEDK; (case k1DK => k_asm); (case k2DK => k_asm); (case k3DK => k_asm); (case k4DK => k_asm); (case k5DK => k_asm); (case kKDK => first | exact rfl | assumption); (case k6DK => k_mem); (case k11DK => assumption); (case k13DK => ktr_room); (case k14DK => ktr_units); (case kEDK => k_extra "my upE")))))
  k_with "my nocall" => ((with_reducible show wpAny _ _ (call (Value.ref 131) _ _) _ _ _))
  k_with "my call" => ((k_here; (with_reducible show wpAny _ _ (call (Value.ref 131) [_, _]) _ _ _); k_dflt (refine' named_good ?kxDR ?k1DR ?k2DR ?k3DR ?k4DR ?k5DR ?kKDR ?k6DR ?k7DR ?k8DR ?k9DR ?k10DR ?k13DR ?k14DR ?_; (case kxDR => assumption); (case k1DR => k_asm); (case k2DR => k_asm); (case k3DR => k_asm); (case k4DR => k_asm); (case k5DR => k_asm); (case kKDR => first | exact rfl | assumption); (case k6DR => k_mem); (case k7DR => k_mem); (case k8DR => assumption); (case k9DR => assumption); (case k10DR => assumption); (case k13DR => ktr_room); (case k14DR => ktr_units); k_whole); intro t1' h' tk' F' N'; (try k_sweep)))
  k_with "my nocall" => ((with_reducible show wpAny _ _ (call (Value.ref 131) _ _) _ _ _))
  k_with "my call" => ((k_here; (with_reducible show wpAny _ _ (call (Value.ref 205) [_, _]) _ _ _); (with_reducible rename PutFor _ _ => ih9EF); k_dflt (refine' ih9EF ?ktEF ?k1EF ?k2EF ?k3EF ?k4EF ?k5EF ?kKEF ?k6EF ?k7EF ?k8EF ?kAEF ?kBEF ?kCEF ?k9EF ?k10EF ?k11EF ?k13EF ?k14EF ?_; (case k1EF => k_asm); (case k2EF => k_asm); (case k3EF => k_asm); (case k4EF => k_asm); (case k5EF => k_asm); (case kKEF => first | exact rfl | assumption); (case k6EF => assumption); (case ktEF => first | exact Or.inl rfl | exact Or.inr rfl); (case k9EF => k_mem); (case k10EF => assumption); (case k11EF => assumption); (case kAEF => assumption); (case kBEF => assumption); (case kCEF => assumption); (case k7EF => k_extra "my sub2"); (case k8EF => k_extra "my sub2"); (case k13EF => ktr_room); (case k14EF => ktr_units); k_whole); intro r' tl' h' tk' F' N' htl' ht'; (try dsimp only [List.cons_append, List.nil_append] at N'); (try simp only [List.append_assoc, List.cons_append, List.nil_append] at N'); (try k_sweep)))
  k_with "my nocall" => ((with_reducible show wpAny _ _ (call (Value.ref 205) _ _) _ _ _))
  k_with "my call" => ((k_here; (with_reducible show wpAny _ _ (call (Value.ref 81) [_]) _ _ _); k_dflt (refine' isvar_no ?kvFP ?k1FP ?k2FP ?k3FP ?k4FP ?k5FP ?kKFP ?k6FP ?k13FP ?k14FP ?_; (case k1FP => k_asm); (case k2FP => k_asm); (case k3FP => k_asm); (case k4FP => k_asm); (case k5FP => k_asm); (case kKFP => first | exact rfl | assumption); (case k6FP => exact PatIn.mono (by assumption) (by k_extra "my sub2")); (case kvFP => assumption); (case k13FP => ktr_room); (case k14FP => ktr_units); k_whole); intro h' tk' F' N'; (try k_sweep)))
  k_with "my call" => ((k_here; (with_reducible show wpAny _ _ (call (Value.ref 86) [_]) _ _ _); k_dflt (refine' vars_all _ ?k1FQ ?k2FQ ?k3FQ ?k4FQ ?k5FQ ?kKFQ ?k6FQ ?k7FQ ?k8FQ ?k13FQ ?k14FQ ?_; (case k1FQ => k_asm); (case k2FQ => k_asm); (case k3FQ => k_asm); (case k4FQ => k_asm); (case k5FQ => k_asm); (case kKFQ => first | exact rfl | assumption); (case k6FQ => assumption); (case k7FQ => k_extra "my sub2"); (case k8FQ => assumption); (case k13FQ => ktr_room); (case k14FQ => ktr_units); k_whole); intro D' vs' ss' n' h' tk' d' F' N' l1 hs' hx' hl'; have l1a := l1; (try k_lt l1); (try k_sweep)))
  k_with "my nocall" => (first | (with_reducible show wpAny _ _ (call (Value.ref 86) _) _ _ _) | (with_reducible show wpAny _ _ (call (Value.ref 81) _) _ _ _))
  k_with "my nocall" => (first | (with_reducible show wpAny _ _ (call (Value.ref 113) _) _ _ _))
  k_with "my call" => ((k_here; (with_reducible show wpAny _ _ (call (Value.ref 138) _) _ _ _); k_dflt (first | (refine' laws_plus ?k1GQ ?k2GQ ?k3GQ ?k4GQ ?k5GQ ?kKGQ ?k13GQ ?k14GQ ?_) | (refine' laws_times ?k1GQ ?k2GQ ?k3GQ ?k4GQ ?k5GQ ?kKGQ ?k13GQ ?k14GQ ?_)); (case k1GQ => k_asm); (case k2GQ => k_asm); (case k3GQ => k_asm); (case k4GQ => k_asm); (case k5GQ => k_asm); (case kKGQ => first | exact rfl | assumption); (case k13GQ => ktr_room); (case k14GQ => ktr_units); k_whole; intro D' x1' x2' x3' n' tl' h' tk' d' F' N' hlt' hD' hDl' r1' r2' r3'; replace N' := newsCons N' hD'; (try dsimp only [List.cons_append, List.nil_append] at N'); (try simp only [List.append_assoc, List.cons_append, List.nil_append] at N' r1' r2' r3')))
  k_with "my nocall" => (first | (with_reducible show wpAny _ _ (call (Value.ref 113) _) _ _ _) | (with_reducible show wpAny _ _ (call (Value.ref 138) _) _ _ _))
  trivial
theorem w89a : True := by
  k_with "my lt9" => (k_dflt (first | assumption | exact lt_sub9 (by assumption) (by k_extra "my sub") | exact lt_sub29 (by assumption) (by assumption) (by k_extra "my sub")))
  trivial
theorem ones_n {w : World} {t : Tm} {n : Nat} {mean : ExcName → Option Value} {mg mb : Str → Option Value}
    {dp un : Nat} {gd : Option (List Code)} {cn : Str} {cs : Scope} {a : Addr} {ccd : Value} {cl : List (Str × Addr)} {outer : List Env} {A₀ : Around} {base h₀ : Heap} {L : Addr} {m : Str → Option Value} {news : List (Addr × Obj)} {s : Shared}
    {Q E : Value → Shared → Prop}
    {v : Value} {de : Addr} {oe : Obj} {e : Ev} {t1 t2 t3 t4 t5 t6 : Tok}
    (B : Below A₀ base outer h₀) (F : Fr h₀ L s.heap m) (X : (hd.heap_1 w.params).In h₀) (N : News h₀ L s.heap news)
    (T : Top view LO mean mg mb h₀) (hk : cs.kind = .function)
    (hin : TmIn news v t) (hn : t.val e = n) (hsm : t.small e) (hdp : t.depth ≤ 40) (hde : (de, oe) ∈ news) (hds : (de == sysModules) = false)
    (hdd : Obj.IsDictOf (PySem.strKind PySem.Challenge.rw_pq0002_01.row.prog w) oe (strPairs (envKV e t1 t2 t3 t4 t5 t6)))
    (hdf : PyProof.V.FlatPairs PyData.str (strPairs (envKV e t1 t2 t3 t4 t5 t6)) (strData (envKV e t1 t2 t3 t4 t5 t6)))
    (he : e.ok) (hd : dp < 550) (hu : un < 3000)
    (ret : ∀ t1' h' tk', Fr h₀ L h' m → News h₀ L h' news → Q (.str (ones n) t1') { s with heap := h', toks := tk' }) :
    wpAny (model PySem.Challenge.rw_pq0002_01.row.prog w) (ktrTop dp un gd cn cs L a ccd cl outer) (call (.ref 195) [v, .ref de]) Q E s := by
  subst hn
  exact ones_all t B F X N T hk hin hde hds hdd hdf he hsm (by omega) (by omega) (by omega) fun t1' h' tk' _ _ F' N' => ret t1' h' tk' F' N'
theorem val_n {w : World} {t : Tm} {n : Nat} {mean : ExcName → Option Value} {mg mb : Str → Option Value}
    {dp un : Nat} {gd : Option (List Code)} {cn : Str} {cs : Scope} {a : Addr} {ccd : Value} {cl : List (Str × Addr)} {outer : List Env} {A₀ : Around} {base h₀ : Heap} {L : Addr} {m : Str → Option Value} {news : List (Addr × Obj)} {s : Shared}
    {Q E : Value → Shared → Prop}
    {v : Value} {de na nd : Addr} {oe : Obj} {e : Ev} {t1 t2 t3 t4 t5 t6 t7 t8 : Tok}
    (B : Below A₀ base outer h₀) (F : Fr h₀ L s.heap m) (X : (hd.heap_1 w.params).In h₀) (N : News h₀ L s.heap news)
    (T : Top view LO mean mg mb h₀) (hk : cs.kind = .function)
    (hin : TmIn news v t) (hn : t.val e = n) (htop : t.top e ≤ 1000000) (hdp : t.depth ≤ 40) (hde : (de, oe) ∈ news) (hds : (de == sysModules) = false)
    (hdd : Obj.IsDictOf (PySem.strKind PySem.Challenge.rw_pq0002_01.row.prog w) oe (strPairs (envKV e t1 t2 t3 t4 t5 t6)))
    (hdf : PyProof.V.FlatPairs PyData.str (strPairs (envKV e t1 t2 t3 t4 t5 t6)) (strData (envKV e t1 t2 t3 t4 t5 t6)))
    (hna : (na, instObj 167 nd) ∈ news) (hnd : (nd, natObj w t7 t8 1000000) ∈ news)
    (he : e.ok) (hd : dp < 550) (hu : un < 2800)
    (ret : ∀ t1' h' tk', Fr h₀ L h' m → News h₀ L h' news → Q (.int (n : Nat) t1') { s with heap := h', toks := tk' }) :
    wpAny (model PySem.Challenge.rw_pq0002_01.row.prog w) (ktrTop dp un gd cn cs L a ccd cl outer) (call (.ref 164) [.ref na, v, .ref de]) Q E s := by
  subst hn
  have hev := t.ev_le e 1000000 htop
  refine val_all he (Nat.le_refl _) t B F X N T hk hin hde hds hdd hdf hna hnd hdp (by omega) (by omega) (fun n t1' h' tk' ho F' N' => ?_) (fun hno => ?_)
  · rw [hev] at ho
    obtain rfl := Option.some.inj ho
    exact ret t1' h' tk' F' N'
  · rw [hev] at hno; cases hno
def RightSpec (w : World) : Prop :=
  ∀ {mean : ExcName → Option Value} {mg mb : Str → Option Value}
    {dp un : Nat} {gd : Option (List Code)} {cn : Str} {cs : Scope} {a : Addr} {ccd : Value} {cl : List (Str × Addr)} {outer : List Env} {A₀ : Around} {base h₀ : Heap} {L : Addr} {m : Str → Option Value} {news : List (Addr × Obj)} {s : Shared}
    {Q E : Value → Shared → Prop}
    {v : Value} {de na nd dt : Addr} {oe ot : Obj} {e : Ev} {t1 t2 t3 t4 t5 t6 t7 t8 : Tok} {xa xb xc : Value} {tA tB tC term : Tm}
    (_ : Below A₀ base outer h₀) (_ : Fr h₀ L s.heap m) (_ : (hd.heap_1 w.params).In h₀) (_ : News h₀ L s.heap news)
    (_ : Top view LO mean mg mb h₀) (_ : cs.kind = .function)
    (_ : TmIn news v term) (_ : term.depth ≤ 3) (_ : TmIn news xa tA) (_ : TmIn news xb tB) (_ : TmIn news xc tC) (_ : tA.depth ≤ 1) (_ : tB.depth ≤ 1) (_ : tC.depth ≤ 1)
    (_ : (dt, ot) ∈ news) (_ : (dt == sysModules) = false) (_ : Obj.IsDictOf (PySem.strKind PySem.Challenge.rw_pq0002_01.row.prog w) ot (tabKV xa xb xc))
    (_ : (de, oe) ∈ news) (_ : (de == sysModules) = false)
    (_ : Obj.IsDictOf (PySem.strKind PySem.Challenge.rw_pq0002_01.row.prog w) oe (strPairs (envKV e t1 t2 t3 t4 t5 t6)))
    (_ : PyProof.V.FlatPairs PyData.str (strPairs (envKV e t1 t2 t3 t4 t5 t6)) (strData (envKV e t1 t2 t3 t4 t5 t6)))
    (_ : (na, instObj 167 nd) ∈ news) (_ : (nd, natObj w t7 t8 1000000) ∈ news) (_ : e.ok) (_ : dp < 400) (_ : un < 2000)
    (_ : ∀ h' tk' dr, Fr h₀ L h' m → News h₀ L h' news → Q (.bool true) { s with heap := h', toks := tk', drawn := dr }),
    wpAny (model PySem.Challenge.rw_pq0002_01.row.prog w) (ktrTop dp un gd cn cs L a ccd cl outer) (call (.ref 217) [.ref na, .ref dt, v, .ref de]) Q E s
abbrev ruleMap (du so wi si ru : Option Value) (m0 : Str → Option Value) : Str → Option Value := fun y => if y = Str.ofString "due" then du else if y = Str.ofString "some" then so else if y = Str.ofString "wide" then wi else if y = Str.ofString "sides" then si else if y = Str.ofString "rule" then ru else m0 y
theorem ruleMap_self (m0 : Str → Option Value) : ruleMap (m0 (Str.ofString "due")) (m0 (Str.ofString "some")) (m0 (Str.ofString "wide")) (m0 (Str.ofString "sides")) (m0 (Str.ofString "rule")) m0 = m0 := by
  funext y
  simp only [ruleMap]
  by_cases h1 : y = Str.ofString "due"
  · rw [if_pos h1, h1]
  rw [if_neg h1]
  by_cases h2 : y = Str.ofString "some"
  · rw [if_pos h2, h2]
  rw [if_neg h2]
  by_cases h3 : y = Str.ofString "wide"
  · rw [if_pos h3, h3]
  rw [if_neg h3]
  by_cases h4 : y = Str.ofString "sides"
  · rw [if_pos h4, h4]
  rw [if_neg h4]
  by_cases h5 : y = Str.ofString "rule"
  · rw [if_pos h5, h5]
  rw [if_neg h5]
theorem strs_snoc {t : Tok} {x : Str} {vs : List Value} {ss : List Str} (h : StrsAre vs ss) : StrsAre (vs ++ [.str x t]) (ss ++ [x]) := strsAre_append h (.cons _ _ .nil)
section
variable {prog : Program} {w : World} {A : Around} {E : Value → Shared → Prop} {s : Shared} {env : Env} {h₀ : Heap} {x : Str} {px : Pos} {body : List Stmt} {Q : Flow → Shared → Prop}
def TurnR (h₀ : Heap) (L : Addr) (m0 : Str → Option Value) (s : Shared) (l : Addr) (seen : List Value) (nm : Str) (B : List (Addr × Obj)) (f : Flow) (s₂ : Shared) : Prop :=
  f = .next ∧ ∃ h' tk' du so wi si ru n t, s₂ = { s with heap := h', toks := tk' } ∧ Fr h₀ L h' (ruleMap du so wi si ru m0) ∧ News h₀ L h' ((l, listOf (seen ++ [Value.str nm t]).toArray n) :: B)
def RuleTurn (prog : Program) (w : World) (A : Around) (E : Value → Shared → Prop) (s : Shared) (env : Env) (h₀ : Heap) (x : Str) (px : Pos) (body : List Stmt) (m0 : Str → Option Value) (l : Addr) (rest : List (Addr × Obj)) : Prop :=
  ∀ B v nm p q seen names du so wi si ru n h tk, (∀ p ∈ rest, p ∈ B) → (∀ p ∈ B, p.1 ≠ l) → RuleIn w B v nm p q → (nm, p, q) ∈ ruleList → StrsAre seen names → nm ∉ names → names.length < 10 → Fr h₀ env.locals h (ruleMap du so wi si ru m0) → News h₀ env.locals h ((l, listOf seen.toArray n) :: B) →
      wpAny (model prog w) A (assign (.Name x px) env v) (fun _ s₂ => wpAny (model prog w) A (execs body env) (TurnR h₀ env.locals m0 { s with heap := h, toks := tk } l seen nm B) E s₂) E { s with heap := h, toks := tk }
theorem rule_loop {I D l : Addr} {oD : Obj} {m0 : Str → Option Value} {rest : List (Addr × Obj)} (hI : ∀ p ∈ (D, oD) :: rest, p.1 ≠ I) (hlI : @Ne Nat l I) (hlr : ∀ p ∈ (D, oD) :: rest, p.1 ≠ l)
    (turn : RuleTurn prog w A E s env h₀ x px body m0 l rest)
    (fin : ∀ seen du so wi si ru n h tk, StrsAre seen (ruleList.map (·.1)) → Fr h₀ env.locals h (ruleMap du so wi si ru m0) → News h₀ env.locals h ((D, oD) :: (l, listOf seen.toArray n) :: rest) → Q .next { s with heap := h, toks := tk }) :
    ∀ {vs : List Value} {rs : List (Str × Pat × Pat)}, RulesIn w rest vs rs → ∀ seen names du so wi si ru n, StrsAre seen names → names ++ rs.map (·.1) = ruleList.map (·.1) → (∀ r ∈ rs, r ∈ ruleList) →
      TurnsOf prog w A E h₀ env (.Name x px) body Q s [I] (D, oD) (valItems vs) (ruleMap du so wi si ru m0) ((D, oD) :: (l, listOf seen.toArray n) :: rest) := by
  intro vs rs H
  induction H with
  | nil =>
    intro seen names du so wi si ru n hs hn _
    simp only [List.map_nil, List.append_nil] at hn
    subst hn
    exact fun h tk F N => fin seen du so wi si ru n h tk hs F N
  | @cons v nm p q vs rs hv H ih =>
    intro seen names du so wi si ru n hs hn hm
    have hnd : (names ++ List.map (·.1) ((nm, p, q) :: rs)).Nodup := by rw [hn]; exact rules_names
    have hno : nm ∉ names := fun hi => by
      have := (List.nodup_append.mp hnd).2.2 nm hi nm (by simp)
      exact this rfl
    have hlen : names.length < 10 := by
      have := congrArg List.length hn
      simp only [List.length_append, List.length_map, List.length_cons, ruleList, List.length_nil] at this
      exact Nat.lt_of_lt_of_le (Nat.lt_add_of_pos_right (Nat.succ_pos rs.length)) (Nat.le_of_eq this)
    refine TurnsOf.val fun h tk oI F N off => ?_
    refine wpAny_mono (turn ((I, oI) :: (D, oD) :: rest) v nm p q seen names du so wi si ru n h tk (fun p hp => .tail _ (.tail _ hp)) (fun p hp => ?_) (hv.mono fun p hp => .tail _ (.tail _ hp)) (hm _ (.head _)) hs hno hlen F (fun p hp => N p ?_)) (fun _ s₂ h₂ => wpAny_mono h₂ (fun f s₃ h₃ => ?_) fun _ _ e => e) fun _ _ e => e
    · rcases List.mem_cons.mp hp with rfl | hp
      · exact fun q => hlI q.symm
      · exact hlr p hp
    · simp only [List.mem_cons, List.cons_append, List.nil_append] at hp ⊢
      rcases hp with h | h | h | h <;> simp [h]
    obtain ⟨rfl, h', tk', du', so', wi', si', ru', n', t, rfl, F', N'⟩ := h₃
    refine ⟨h', tk', _, (D, oD) :: (l, listOf (seen ++ [Value.str nm t]).toArray n') :: rest, rfl, F', fun p hp => N' p ?_, fun p hp hw => ?_, .head _, ih _ (names ++ [nm]) du' so' wi' si' ru' n' (strs_snoc hs) (by rw [← hn]; simp) fun r hr => hm r (.tail _ hr)⟩
    · simp only [List.mem_cons, List.cons_append, List.nil_append] at hp ⊢
      rcases hp with h | h | h | h <;> simp [h]
    rw [List.mem_singleton] at hw
    rcases List.mem_cons.mp hp with rfl | hp
    · exact hI _ (.head _) hw
    rcases List.mem_cons.mp hp with rfl | hp
    · exact hlI hw
    · exact hI _ (.tail _ hp) hw
theorem rule_start {I D l : Addr} {oD : Obj} {m0 : Str → Option Value} {rest : List (Addr × Obj)} {n : Nat} {vs : List Value} (hr : RulesIn w rest vs ruleList) (hI : ∀ p ∈ (D, oD) :: (l, listOf #[] n) :: rest, p.1 < I) (hlr : ∀ p ∈ (D, oD) :: rest, p.1 ≠ l)
    (turn : RuleTurn prog w A E s env h₀ x px body m0 l rest)
    (fin : ∀ seen du so wi si ru n h tk, StrsAre seen (ruleList.map (·.1)) → Fr h₀ env.locals h (ruleMap du so wi si ru m0) → News h₀ env.locals h ((D, oD) :: (l, listOf seen.toArray n) :: rest) → Q .next { s with heap := h, toks := tk }) :
    TurnsOf prog w A E h₀ env (.Name x px) body Q s [I] (D, oD) (valItems vs) m0 ((D, oD) :: (l, listOf #[] n) :: rest) := by
  have := rule_loop (fun p hp => by
    rcases List.mem_cons.mp hp with rfl | hp
    · exact Nat.ne_of_lt (hI _ (.head _))
    · exact Nat.ne_of_lt (hI _ (.tail _ (.tail _ hp)))) (Nat.ne_of_lt (hI _ (.tail _ (.head _)))) hlr turn fin hr [] [] (m0 (Str.ofString "due")) (m0 (Str.ofString "some")) (m0 (Str.ofString "wide")) (m0 (Str.ofString "sides")) (m0 (Str.ofString "rule")) n .nil (List.nil_append _) (fun _ h => h)
  rw [ruleMap_self] at this
  exact this
theorem ne_l {D l : Addr} {oD ol : Obj} {tl B : List (Addr × Obj)} (h1 : ∀ q ∈ (l, ol) :: B, ∀ p ∈ tl, q.1 < p.1) (h2 : ∀ q ∈ (l, ol) :: B, q.1 < D) (h3 : ∀ p ∈ B, p.1 < l) : ∀ p ∈ (D, oD) :: (B ++ tl), p.1 ≠ l := fun p hp => by
  rcases List.mem_cons.mp hp with rfl | hp
  · exact Nat.ne_of_gt (h2 _ (.head _))
  rcases List.mem_append.mp hp with hp | hp
  · exact Nat.ne_of_lt (h3 p hp)
  · exact Nat.ne_of_gt (h1 _ (.head _) p hp)
end
section
variable {prog : Program} {w : World} {A : Around} {E : Value → Shared → Prop} {s : Shared} {env : Env} {h₀ : Heap} {x : Str} {px : Pos} {body : List Stmt} {Q : Flow → Shared → Prop}
def TwoIn (e : Ev) (B : List (Addr × Obj)) (u : Value) : Prop :=
  ∃ S v1 v2 k t1 t2 n, u = .ref S ∧ (S, listOf #[v1, v2] k) ∈ B ∧ TmIn B v1 t1 ∧ TmIn B v2 t2 ∧ t1.val e = n ∧ t2.val e = n ∧ t1.small e ∧ t2.small e ∧ t1.top e ≤ 1000000 ∧ t2.top e ≤ 1000000 ∧ t1.depth ≤ 40 ∧ t2.depth ≤ 40
theorem TwoIn.mono {e : Ev} {B B' : List (Addr × Obj)} {u : Value} (h : TwoIn e B u) (hs : ∀ p ∈ B, p ∈ B') : TwoIn e B' u := by
  obtain ⟨S, v1, v2, k, t1, t2, n, rfl, h1, h2, h3, r⟩ := h
  exact ⟨S, v1, v2, k, t1, t2, n, rfl, hs _ h1, h2.mono hs, h3.mono hs, r⟩
def TurnS (h₀ : Heap) (L : Addr) (wi si ru : Option Value) (m0 : Str → Option Value) (s : Shared) (B : List (Addr × Obj)) (f : Flow) (s₂ : Shared) : Prop :=
  f = .next ∧ ∃ h' tk' du so, s₂ = { s with heap := h', toks := tk' } ∧ Fr h₀ L h' (ruleMap du so wi si ru m0) ∧ News h₀ L h' B
def SomeTurn (prog : Program) (w : World) (A : Around) (E : Value → Shared → Prop) (s : Shared) (env : Env) (h₀ : Heap) (x : Str) (px : Pos) (body : List Stmt) (e : Ev) (wi si ru : Option Value) (m0 : Str → Option Value) (rest : List (Addr × Obj)) : Prop :=
  ∀ B u du so h tk, (∀ p ∈ rest, p ∈ B) → TwoIn e B u → Fr h₀ env.locals h (ruleMap du so wi si ru m0) → News h₀ env.locals h B →
    wpAny (model prog w) A (assign (.Name x px) env u) (fun _ s₂ => wpAny (model prog w) A (execs body env) (TurnS h₀ env.locals wi si ru m0 { s with heap := h, toks := tk } B) E s₂) E { s with heap := h, toks := tk }
theorem some_loop {e : Ev} {I D : Addr} {oD : Obj} {m₁ m0 : Str → Option Value} {du so wi si ru : Option Value} {rest : List (Addr × Obj)} {us : List Value} (hm : m₁ = ruleMap du so wi si ru m0)
    (hI : ∀ p ∈ (D, oD) :: rest, p.1 < I) (hu : ∀ u ∈ us, TwoIn e rest u) (turn : SomeTurn prog w A E s env h₀ x px body e wi si ru m0 rest)
    (fin : ∀ du so h tk, Fr h₀ env.locals h (ruleMap du so wi si ru m0) → News h₀ env.locals h ((D, oD) :: rest) → Q .next { s with heap := h, toks := tk }) :
    TurnsOf prog w A E h₀ env (.Name x px) body Q s [I] (D, oD) (valItems us) m₁ ((D, oD) :: rest) := by
  subst hm
  induction us generalizing du so with
  | nil => exact fun h tk F N => fin du so h tk F N
  | cons u us ih =>
    refine TurnsOf.val fun h tk oI F N off => ?_
    refine wpAny_mono (turn ((I, oI) :: (D, oD) :: rest) u du so h tk (fun p hp => .tail _ (.tail _ hp)) ((hu u (.head _)).mono fun p hp => .tail _ (.tail _ hp)) F N) (fun _ s₂ h₂ => wpAny_mono h₂ (fun f s₃ h₃ => ?_) fun _ _ e => e) fun _ _ e => e
    obtain ⟨rfl, h', tk', du', so', rfl, F', N'⟩ := h₃
    exact ⟨h', tk', _, (D, oD) :: rest, rfl, F', N', fun p hp hw => Nat.ne_of_lt (hI p hp) (List.mem_singleton.mp hw), .head _, ih (fun u hu' => hu u (.tail _ hu'))⟩
theorem rule_map3 {a b c du so wi si ru : Option Value} {m0 : Str → Option Value} :
    (fun y => if y = Str.ofString "wide" then a else if y = Str.ofString "sides" then b else if y = Str.ofString "rule" then c else ruleMap du so wi si ru m0 y) = ruleMap du so a b c m0 := by
  funext y
  simp only [ruleMap]
  by_cases h1 : y = Str.ofString "due"
  · subst h1; rw [if_neg (by decide +kernel), if_neg (by decide +kernel), if_neg (by decide +kernel), if_pos rfl, if_pos rfl]
  by_cases h2 : y = Str.ofString "some"
  · subst h2; rw [if_neg (by decide +kernel), if_neg (by decide +kernel), if_neg (by decide +kernel), if_neg (by decide +kernel), if_pos rfl, if_neg (by decide +kernel), if_pos rfl]
  rw [if_neg h1, if_neg h2, if_neg h1, if_neg h2]
  by_cases h3 : y = Str.ofString "wide"
  · rw [if_pos h3, if_pos h3]
  rw [if_neg h3, if_neg h3, if_neg h3]
  by_cases h4 : y = Str.ofString "sides"
  · rw [if_pos h4, if_pos h4]
  rw [if_neg h4, if_neg h4, if_neg h4]
  by_cases h5 : y = Str.ofString "rule"
  · rw [if_pos h5, if_pos h5]
  rw [if_neg h5, if_neg h5, if_neg h5]
end
theorem tup_off {x a : Addr} {its vs : Array Value} {e n : Nat} {rest : List (Addr × Obj)} (h : (x, tupObj its e) ∈ (a, listOf vs n) :: rest) : (x, tupObj its e) ∈ rest := by
  rcases List.mem_cons.mp h with h | h
  · injection h with h1 h2; exact absurd (congrArg Obj.cls h2) (by simp [tupObj, W.listOf])
  · exact h
theorem PatIn.off {a : Addr} {vs : Array Value} {n : Nat} {rest : List (Addr × Obj)} {v : Value} {p : Pat} (h : PatIn ((a, listOf vs n) :: rest) v p) : PatIn rest v p := by
  induction h with
  | va => exact .va
  | vb => exact .vb
  | vc => exact .vc
  | zero h => exact .zero (tup_off h)
  | suc h _ i1 => exact .suc (tup_off h) i1
  | plus h _ _ i1 i2 => exact .plus (tup_off h) i1 i2
  | times h _ _ i1 i2 => exact .times (tup_off h) i1 i2
theorem obj_off {x a : Addr} {o : Obj} {vs : Array Value} {n : Nat} {rest : List (Addr × Obj)} (h : (x, o) ∈ (a, listOf vs n) :: rest) (hc : o.cls ≠ .type "list") : (x, o) ∈ rest := by
  rcases List.mem_cons.mp h with h | h
  · injection h with h1 h2; subst h2; exact absurd rfl hc
  · exact h
theorem RuleIn.off {w : World} {a : Addr} {vs : Array Value} {n : Nat} {rest : List (Addr × Obj)} {v : Value} {nm : Str} {p q : Pat} (h : RuleIn w ((a, listOf vs n) :: rest) v nm p q) : RuleIn w rest v nm p q := by
  obtain ⟨x, rd, t1, t2, t3, t4, tn, vl, vr, nd, en, rfl, h1, h2, h3, h4, h5⟩ := h
  exact ⟨x, rd, t1, t2, t3, t4, tn, vl, vr, nd, en, rfl, obj_off h1 (fun q => nomatch q), obj_off h2 (fun q => by simp [ruleObj] at q), h3.off, h4.off, tup_off h5⟩
theorem RulesIn.off {w : World} {a : Addr} {us : Array Value} {n : Nat} {rest : List (Addr × Obj)} {vs : List Value} {rs : List (Str × Pat × Pat)} (h : RulesIn w ((a, listOf us n) :: rest) vs rs) : RulesIn w rest vs rs := by
  induction h with
  | nil => exact .nil
  | cons h1 _ ih => exact .cons h1.off ih
theorem off_up {x I C D : Addr} {oI oC oD : Obj} {l : List (Addr × Obj)} (h : ∀ p ∈ l, p.1 < x) (hI : (I, oI) ∈ l) (hC : (C, oC) ∈ l) (hD : (D, oD) ∈ l) : (@Ne Nat x I) ∧ (@Ne Nat x C) ∧ (@Ne Nat x D) := ⟨Nat.ne_of_gt (h _ hI), Nat.ne_of_gt (h _ hC), Nat.ne_of_gt (h _ hD)⟩
theorem swap4 {h₀ h : Heap} {L : Addr} {a b c d i j k : Addr × Obj} {r : List (Addr × Obj)} (N : News h₀ L h (a :: b :: c :: d :: i :: j :: k :: r)) : News h₀ L h (i :: j :: k :: a :: b :: c :: d :: r) := fun p hp => N p (by
  simp only [List.mem_cons] at hp ⊢
  rcases hp with h | h | h | h | h | h | h | h <;> simp [h])
theorem w89b : True := by
  k_with "CompEnd" => ((k_here; (refine LCg.CompEnd.intro (by assumption) (swap4 (by assumption)) _ (fun p hp => hp) ?offGX ?srcGX ?_; (case offGX => k_extra "my off"); (case srcGX => first | lcg_src | ((try dsimp only); k_mem)))))
  k_with "newTuple" => ((k_here; k_dflt (refine' kup_newTuple ?FGY ?NGY ?_ ?zGY; (case FGY => k_asm); (case NGY => k_asm); (case zGY => kmk_size)); intro D' h' F' N' l1))
  k_with "my off" => (((refine And.intro (off_up (by assumption) (by k_mem) (by k_mem) (by k_mem)) ?_); k_extra "my off"))
  k_with "my k_mem" => (first | ((change (_ : Addr × Obj) ∈ (_ : List (Addr × Obj))); with_reducible assumption) | ((with_reducible change (_ : Addr × Obj) ∈ (_ ++ _ : List (Addr × Obj))); first | (refine List.mem_append_left _ ?_; k_mem) | (refine List.mem_append_right _ ?_; k_mem)) | ((with_reducible change List.Mem (_ : Addr × Obj) (_ ++ _ : List (Addr × Obj))); first | (refine List.mem_append_left _ ?_; k_mem) | (refine List.mem_append_right _ ?_; k_mem)))
  k_with "my sub" => ((intro p9 hp9; (repeat (first | exact hp9 | exact List.mem_append_left _ hp9 | exact List.mem_append_right _ hp9 | exact List.mem_append_right _ (List.mem_append_left _ hp9) | exact List.mem_append_right _ (List.mem_append_right _ hp9) | refine List.mem_cons_of_mem _ ?_)); done))
  k_with "my call" => ((k_here; (with_reducible show wpAny _ _ (call (Value.ref 159) _) _ _ _); k_dflt (refine' rules_make ?k1HC ?k2HC ?k3HC ?k4HC ?k5HC ?kKHC ?k13HC ?k14HC ?_); (case k1HC => k_asm); (case k2HC => k_asm); (case k3HC => k_asm); (case k4HC => k_asm); (case k5HC => k_asm); (case kKHC => first | exact rfl | assumption); (case k13HC => ktr_room); (case k14HC => ktr_units); k_whole; intro D' vs' n' tl' h' tk' d' F' N' hlt' hD' hDl' hr'; replace N' := newsCons N' hD'; (try dsimp only [List.cons_append, List.nil_append] at N'); (try simp only [List.append_assoc, List.cons_append, List.nil_append] at N' hr')))
  k_with "my sub3" => ((intro p9 hp9; simp only [List.mem_append, List.mem_cons] at hp9 ⊢; first | (rcases hp9 with hp9 | hp9 <;> simp only [hp9, true_or, or_true]) | simp only [hp9, true_or, or_true]))
  k_with "my nocall" => (first | (with_reducible show wpAny _ _ (call (Value.ref 159) _) _ _ _) | (with_reducible show wpAny _ _ (call (Value.ref 164) _) _ _ _) | (with_reducible show wpAny _ _ (call (Value.ref 195) _) _ _ _) | (with_reducible show wpAny _ _ (call (Value.ref 205) _) _ _ _))
  k_with "CompSrc" => ((k_here; k_dflt (refine LCg.CompSrc.ledger (by rfl) (by k_asm) (by k_asm) (by k_mem) (by first | size_fits | exact Nat.le_of_ble_eq_true rfl) ?_; intro g'; lcg_lit)))
  k_with "exec For Name Call cons nil" => ((k_here; (rename Fr _ _ _ _ => lF'HG); k_dflt (refine' For_turns lF'HG ?_ ?hsHG ?hEHG; (case hsHG => intro _; rfl); (case hEHG => first | exact PassesOwn.leaving | passes_own))))
  k_with "pyIter ref" => ((k_here; k_dflt (first
      | (refine' list_turns ?hHH ?FHH ?NHH ?mHH ?_; (case hHH => exact rfl); (case FHH => k_asm); (case NHH => k_asm); (case mHH => k_mem))
      | (refine' tup_turns ?hHH ?FHH ?NHH ?mHH ?_; (case hHH => exact rfl); (case FHH => k_asm); (case NHH => k_asm); (case mHH => k_mem))); intro I' l1; refine Stop.use ?_))
  k_with "exec For Name Tuple cons nil" => ((k_here; (rename Fr _ _ _ _ => lF'HI); k_dflt (refine' For_turns lF'HI ?_ ?hsHI ?hEHI; (case hsHI => intro _; rfl); (case hEHI => first | exact PassesOwn.leaving | passes_own))))
  k_with "exec Assign cons ListComp" => ((k_here; (with_reducible show wpAny _ _ (exec (Stmt.Assign [Expr.Name _ _] (Expr.ListComp _ [⟨Expr.Name _ _, Expr.Tuple _ _ _, [], 0⟩] _ _) _) _) _ _ _); k_dflt (refine comp_tup_assign (by k_asm) (by rfl) (by with_unfolding_all rfl) (by with_unfolding_all rfl) (by decide) (by rfl) (by decide) (by rfl) (by rfl) (by rfl) ?_)))
  k_with "my call" => ((k_here; (with_reducible show wpAny _ _ (call (Value.ref 205) _) _ _ _); k_dflt (refine' put_all _ ?k1HK ?k2HK ?k3HK ?k4HK ?k5HK ?kKHK ?kpHK ?kpnHK ?tnHK ?taHK ?tbHK ?tcHK ?dtHK ?dsHK ?ddHK ?k13HK ?k14HK ?_); (case k1HK => k_asm); (case k2HK => k_asm); (case k3HK => k_asm); (case k4HK => k_asm); (case k5HK => k_asm); (case kKHK => first | exact rfl | assumption); (case ddHK => assumption); (case kpHK => assumption); (case taHK => assumption); (case tbHK => assumption); (case tcHK => assumption); (case kpnHK => k_extra "my sub"); (case tnHK => k_extra "my sub"); (case dtHK => k_mem); (case dsHK => assumption); (case k13HK => ktr_room); (case k14HK => ktr_units); k_whole; intro r' tl' h' tk' F' N' hlt' ht'; (try dsimp only [List.cons_append, List.nil_append] at N'); (try simp only [List.append_assoc, List.cons_append, List.nil_append] at N')))
  trivial
theorem pack {h₀ h : Heap} {L : Addr} {l : List (Addr × Obj)} {P : Prop} (N : News h₀ L h l) (k : ∀ B : List (Addr × Obj), (∀ p ∈ l, p ∈ B) → (∀ p ∈ B, p ∈ l) → News h₀ L h B → P) : P := k l (fun _ h => h) (fun _ h => h) N
theorem w89c : True := by
  k_with "my call" => ((k_here; (with_reducible show wpAny _ _ (call (Value.ref 195) _) _ _ _); k_dflt (refine' ones_n ?k1HL ?k2HL ?k3HL ?k4HL ?k5HL ?kKHL ?kiHL ?knHL ?ksHL ?kdHL ?keHL ?kxHL ?kyHL ?kzHL ?koHL ?k13HL ?k14HL ?_); (case k1HL => k_asm); (case k2HL => k_asm); (case k3HL => k_asm); (case k4HL => k_asm); (case k5HL => k_asm); (case kKHL => first | exact rfl | assumption); (case kiHL => exact TmIn.mono (by assumption) (by k_extra "my sub")); (case knHL => assumption); (case ksHL => assumption); (case kdHL => assumption); (case keHL => k_mem); (case kxHL => assumption); (case kyHL => assumption); (case kzHL => assumption); (case koHL => assumption); (case k13HL => ktr_room); (case k14HL => ktr_units); k_whole; intro t1' h' tk' F' N'))
  k_with "my call" => ((k_here; (with_reducible show wpAny _ _ (call (Value.ref 164) _) _ _ _); k_dflt (refine' val_n ?k1HM ?k2HM ?k3HM ?k4HM ?k5HM ?kKHM ?kiHM ?knHM ?ktHM ?kdHM ?keHM ?kxHM ?kyHM ?kzHM ?knaHM ?kndHM ?koHM ?k13HM ?k14HM ?_); (case k1HM => k_asm); (case k2HM => k_asm); (case k3HM => k_asm); (case k4HM => k_asm); (case k5HM => k_asm); (case kKHM => first | exact rfl | assumption); (case kiHM => exact TmIn.mono (by assumption) (by k_extra "my sub")); (case knHM => assumption); (case ktHM => assumption); (case kdHM => assumption); (case keHM => k_mem); (case kxHM => assumption); (case kyHM => assumption); (case kzHM => assumption); (case knaHM => k_mem); (case kndHM => k_mem); (case koHM => assumption); (case k13HM => ktr_room); (case k14HM => ktr_units); k_whole; intro t1' h' tk' F' N'))
  trivial
theorem rule_map2 {a b du so wi si ru : Option Value} {m0 : Str → Option Value} : (fun y => if y = Str.ofString "due" then a else if y = Str.ofString "some" then b else ruleMap du so wi si ru m0 y) = ruleMap a b wi si ru m0 := by
  funext y
  by_cases h1 : y = Str.ofString "due"
  · simp only [ruleMap, h1, if_true]
  by_cases h2 : y = Str.ofString "some"
  · simp only [ruleMap, if_neg h1, if_pos h2]
  simp only [ruleMap, if_neg h1, if_neg h2]
theorem TurnS.intro {h₀ : Heap} {L : Addr} {a b du so wi si ru : Option Value} {m0 : Str → Option Value} {s : Shared} {B all : List (Addr × Obj)} {h' : Heap} {tk' : Nat}
    (F : Fr h₀ L h' (fun y => if y = Str.ofString "due" then a else if y = Str.ofString "some" then b else ruleMap du so wi si ru m0 y)) (N : News h₀ L h' all) (hs : ∀ p ∈ B, p ∈ all) : TurnS h₀ L wi si ru m0 s B .next { s with heap := h', toks := tk' } :=
  ⟨rfl, h', tk', a, b, rfl, rule_map2 (du := du) (so := so) ▸ F, fun p hp => N p (hs p hp)⟩
theorem two_sides {e : Ev} {rest : List (Addr × Obj)} {S : Addr} {v1 v2 : Value} {k : Nat} {p q : Pat} {tA tB tC : Tm} (he : e.ok) (hA : tA.depth ≤ 1) (hB : tB.depth ≤ 1) (hC : tC.depth ≤ 1) (hval : ∀ a b c, p.pv a b c = q.pv a b c) (hfp : p.fits = true) (hfq : q.fits = true) (hpd : p.depth ≤ 3) (hqd : q.depth ≤ 3)
    (hS : (S, listOf #[v1, v2] k) ∈ rest) (h1 : TmIn rest v1 (p.put tA tB tC)) (h2 : TmIn rest v2 (q.put tA tB tC)) : TwoIn e rest (.ref S) := by
  have a1 := put_small he hA hB hC p hfp
  have a2 := put_small he hA hB hC q hfq
  have b1 := put_depth hA hB hC p
  have b2 := put_depth hA hB hC q
  exact ⟨S, v1, v2, k, _, _, _, rfl, hS, h1, h2, rfl, by rw [put_val, put_val, hval], a1.1, a2.1, Nat.le_trans a1.2 (by decide), Nat.le_trans a2.2 (by decide), by omega, by omega⟩
theorem wide_depth {t term : Tm} (h : t.depth ≤ 4) (hd : term.depth ≤ 3) : (wideT t term).depth ≤ 40 := by
  exact Nat.succ_le_succ (Nat.max_le.mpr ⟨Nat.succ_le_succ (Nat.max_le.mpr ⟨Nat.succ_le_succ (o1 h rfl), Nat.zero_le _⟩), o1 hd rfl⟩)
theorem two_wide {e : Ev} {rest : List (Addr × Obj)} {S : Addr} {v1 v2 : Value} {k : Nat} {p q : Pat} {tA tB tC term : Tm} (he : e.ok) (hA : tA.depth ≤ 1) (hB : tB.depth ≤ 1) (hC : tC.depth ≤ 1) (hval : ∀ a b c, p.pv a b c = q.pv a b c) (hfp : p.fits = true) (hfq : q.fits = true) (hpd : p.depth ≤ 3) (hqd : q.depth ≤ 3) (hp8 : p.pv 9 9 9 ≤ 800) (hq8 : q.pv 9 9 9 ≤ 800) (htd : term.depth ≤ 3)
    (hS : (S, listOf #[v1, v2] k) ∈ rest) (h1 : TmIn rest v1 (wideT (p.put tA tB tC) term)) (h2 : TmIn rest v2 (wideT (q.put tA tB tC) term)) : TwoIn e rest (.ref S) := by
  have a1 := put_small he hA hB hC p hfp
  have a2 := put_small he hA hB hC q hfq
  have b1 := put_depth hA hB hC p
  have b2 := put_depth hA hB hC q
  have c1 := wide_small he a1.1 a1.2 (Nat.le_trans (put_le he hA hB hC p) hp8) htd
  have c2 := wide_small he a2.1 a2.2 (Nat.le_trans (put_le he hA hB hC q) hq8) htd
  exact ⟨S, v1, v2, k, _, _, _, rfl, hS, h1, h2, rfl, wide_val (by rw [put_val, put_val, hval]), c1.1, c2.1, c1.2, c2.2, wide_depth (by omega) htd, wide_depth (by omega) htd⟩
theorem tm_wide {l : List (Addr × Obj)} {a b c d : Addr} {r v : Value} {k1 k2 k3 k4 : Tok} {e1 e2 e3 e4 : Nat} {t term : Tm} (h1 : (a, tupObj #[.str (Str.ofString "plus") k1, .ref b, v] e1) ∈ l) (h2 : (b, tupObj #[.str (Str.ofString "times") k2, .ref c, .ref d] e2) ∈ l) (h3 : (c, tupObj #[.str (Str.ofString "succ") k3, r] e3) ∈ l) (h4 : (d, tupObj #[.str (Str.ofString "x") k4] e4) ∈ l) (ht : TmIn l r t) (hv : TmIn l v term) : TmIn l (.ref a) (wideT t term) :=
  .plus h1 (.times h2 (.suc h3 ht) (.nm (n := .x) h4)) hv
theorem in_no {prog : Program} {w : World} {A : Around} {E : Value → Shared → Prop} {s : Shared} {h₀ : Heap} {L l : Addr} {vs : List Value} {ss : List Str} {k : Str} {t : Tok} {n : Nat} {news : List (Addr × Obj)} {Q : Value → Shared → Prop} (N : News h₀ L s.heap news) (hm : (l, listOf vs.toArray n) ∈ news) (hi : StrsAre vs ss) (hk : k ∉ ss) (h : Q (.bool false) s) :
    wpAny (model prog w) A (compareOp .In (.str k t) (.ref l)) Q E s := by
  refine in_list_strs ⟨_, (N _ hm).1, rfl, _, rfl⟩ hi ?_
  have : ss.any (· == k) = false := List.any_eq_false.mpr fun y hy => by
    intro e
    exact hk (eq_of_beq e ▸ hy)
  rw [this]; exact h
theorem w89d : True := by
  k_with "compareOp In str ref" => ((k_here; k_dflt (refine' in_no ?NHN ?mHN ?iHN ?kHN ?_; (case NHN => k_asm); (case mHN => k_mem); (case iHN => assumption); (case kHN => assumption))))
  trivial
theorem ne_gt {x a : Addr} {o : Obj} {l : List (Addr × Obj)} (h : ∀ p ∈ l, p.1 < x) (hm : (a, o) ∈ l) : @Ne Nat x a := Nat.ne_of_gt (h _ hm)
theorem w89e : True := by
  k_with "my k_ne" => (first | assumption | exact ne_gt (by assumption) (by k_mem))
  k_with "call builtin:list.append" => ((k_here; (with_reducible show wpAny _ _ (call (Value.builtin _) [Value.ref _, Value.str _ _]) _ _ _); k_dflt (refine' append_K ?k1HP ?k2HP ?k3HP ?_ ?zHP; (case k1HP => k_asm); (case k2HP => k_asm); (case k3HP => k_upd); (case zHP => (rw [List.size_toArray, StrsAre.len_eq (by assumption), sizeLine_eq]; omega)); k_whole); intro h' F' N'))
  trivial
theorem TurnR.intro {h₀ : Heap} {L l : Addr} {du so wi si ru : Option Value} {m0 : Str → Option Value} {s : Shared} {seen : List Value} {nm : Str} {t : Tok} {n : Nat} {B all : List (Addr × Obj)} {h' : Heap} {tk' : Nat}
    (F : Fr h₀ L h' (ruleMap du so wi si ru m0)) (N : News h₀ L h' all) (hl : (l, listOf (seen.toArray.push (Value.str nm t)) n) ∈ all) (hs : ∀ p ∈ B, p ∈ all) : TurnR h₀ L m0 s l seen nm B .next { s with heap := h', toks := tk' } :=
  ⟨rfl, h', tk', du, so, wi, si, ru, n, t, rfl, F, fun p hp => (List.mem_cons.mp hp).elim (fun e => by rw [e, ← List.push_toArray]; exact N _ hl) fun hp => N p (hs p hp)⟩
theorem len_ten {A : Around} {E : Value → Shared → Prop} {s : Shared} {h₀ : Heap} {L l : Addr} {vs : List Value} {ss : List Str} {n : Nat} {news : List (Addr × Obj)} {Q : Value → Shared → Prop} {prog : Program} {w : World} (N : News h₀ L s.heap news) (hm : (l, listOf vs.toArray n) ∈ news) (hi : StrsAre vs ss) (hk : ss.length = 10) (h : ∀ t h', Q (.int 10 t) { s with toks := h' }) :
    wpAny (model prog w) A (call (.builtin "len") [.ref l]) Q E s := by
  refine len_strsA ⟨_, (N _ hm).1, rfl, _, rfl⟩ hi ?_ ?_
  · rw [hk]; decide
  · rw [hk]; exact h _ _
theorem w89f : True := by
  k_with "call builtin:len" => ((k_here; (with_reducible show wpAny _ _ (call (Value.builtin "len") [Value.ref _]) _ _ _); k_dflt (refine' len_ten ?NHQ ?mHQ ?iHQ ?kHQ ?_; (case NHQ => k_asm); (case mHQ => k_mem); (case iHQ => assumption); (case kHQ => exact rfl)); intro t' tk'))
  trivial
theorem right_make {w : World} : RightSpec w := by
  intro mean mg mb dp un gd cn cs a ccd cl outer A₀ base h₀ L m news s Q E v de na nd dt oe ot e t1 t2 t3 t4 t5 t6 t7 t8 xa xb xc tA tB tC term B F X N T hk hin htd hA hB hC hAd hBd hCd hdt hts htt hde hds hdd hdf hna hnd he hd hu ret
  obtain ⟨sH, sG, sD, sT, sO⟩ := s
  (try dsimp only at F); (try dsimp only at N); (try dsimp only at ret)
  replace N := newsCons (newsCons (newsCons (newsCons N hdt) (List.mem_cons_of_mem _ hde)) (List.mem_cons_of_mem _ (List.mem_cons_of_mem _ hnd))) (List.mem_cons_of_mem _ (List.mem_cons_of_mem _ (List.mem_cons_of_mem _ hna)))
  refine ret_of (α := Unit) ?_
  refine wpAny_call ?_
  w_strict (k_dflt (k_extra "my enterC"))
  k_extra "my steps"
  unfold Stop
  refine rule_start hr'.off l1 (ne_l hlt' hDl' ?hl0) ?turn ?fin
  case hl0 =>
    first | assumption | k_extra "my lt9"
  case turn =>
    clear hr' hlt' hDl' hD' N' l1
    intro B v nm p q seen names du so wi si ru n h tk hsub hoff hrule hmem hseen hnew hlen F' N'
    obtain ⟨xr, rd, r1, r2, r3, r4, tn, vl, vr, nde, en, h9⟩ := hrule
    obtain rfl := h9.1
    have hx1 := h9.2.1; have hx2 := h9.2.2.1; have hx3 := h9.2.2.2.1; have hx4 := h9.2.2.2.2.1; have hx5 := h9.2.2.2.2.2
    have h8 := rules_ok _ hmem
    have hval := h8.1; have hfp := h8.2.1; have hfq := h8.2.2.1; have hp8 := h8.2.2.2.1; have hq8 := h8.2.2.2.2.1; have hpd := h8.2.2.2.2.2.1; have hqd := h8.2.2.2.2.2.2
    clear h8 h9
    dsimp only at hval hfp hfq hp8 hq8 hpd hqd
    have bna : (na, instObj 167 nd) ∈ B := hsub _ (by k_mem)
    have bnd : (nd, natObj w t7 t8 1000000) ∈ B := hsub _ (by k_mem)
    have bde : (de, oe) ∈ B := hsub _ (by k_mem)
    have bdt : (dt, ot) ∈ B := hsub _ (by k_mem)
    have bin : TmIn B v term := hin.mono (sub_tr (by k_extra "my sub") hsub)
    have bA : TmIn B xa tA := hA.mono (sub_tr (by k_extra "my sub") hsub)
    have bB : TmIn B xb tB := hB.mono (sub_tr (by k_extra "my sub") hsub)
    have bC : TmIn B xc tC := hC.mono (sub_tr (by k_extra "my sub") hsub)
    have bc1 := hsub _ (.head _)
    have bc2 := hsub _ (.tail _ (.head _))
    have bc3 := hsub _ (.tail _ (.tail _ (.head _)))
    have bc4 := hsub _ (.tail _ (.tail _ (.tail _ (.head _))))
    clear hsub hA hB hC hin
    replace N' := newsCons (newsCons (newsCons (newsCons (newsCons (newsCons N' (.tail _ bc1)) (.tail _ (.tail _ bc2))) (.tail _ (.tail _ (.tail _ bc3)))) (.tail _ (.tail _ (.tail _ (.tail _ bc4))))) (.tail _ (.tail _ (.tail _ (.tail _ (.tail _ hx2)))))) (.tail _ (.tail _ (.tail _ (.tail _ (.tail _ (.tail _ hx1))))))
    clear bc1 bc2 bc3 bc4
    k_extra "my steps"
    unfold Stop
    refine some_loop (e := e) rule_map3 l1 (fun u hu => ?good) ?turn2 ?fin2
    case good =>
      have sub2 : ∀ {l1 l2 l3 : List (Addr × Obj)}, (∀ p ∈ l1, p ∈ l3) → (∀ p ∈ l2, p ∈ l3) → ∀ p ∈ l1 ++ l2, p ∈ l3 := fun h1 h2 p hp => (List.mem_append.mp hp).elim (h1 p) (h2 p)
      simp only [List.mem_cons, List.not_mem_nil, or_false] at hu
      rcases hu with rfl | rfl
      · exact two_sides he hAd hBd hCd hval hfp hfq hpd hqd (by k_mem) (TmIn.mono (by assumption) (by k_extra "my sub3")) (TmIn.mono (by assumption) (by k_extra "my sub3"))
      · exact two_wide (p := p) (q := q) (tA := tA) (tB := tB) (tC := tC) he hAd hBd hCd hval hfp hfq hpd hqd hp8 hq8 htd (by k_mem) (tm_wide (by k_mem) (by k_mem) (by k_mem) (by k_mem) (TmIn.mono (by assumption) (by k_extra "my sub3")) (TmIn.mono bin (by k_extra "my sub3"))) (tm_wide (by k_mem) (by k_mem) (by k_mem) (by k_mem) (TmIn.mono (by assumption) (by k_extra "my sub3")) (TmIn.mono bin (by k_extra "my sub3")))
    case turn2 =>
      clear N'
      intro B2 u du2 so2 h2 tk2 hsub2 hgood F2 N2
      obtain ⟨S, v1, v2, k2, u1, u2, n, h9⟩ := hgood
      obtain rfl := h9.1
      have hS := h9.2.1; have hu1 := h9.2.2.1; have hu2 := h9.2.2.2.1; have hn1 := h9.2.2.2.2.1; have hn2 := h9.2.2.2.2.2.1; have hs1 := h9.2.2.2.2.2.2.1; have hs2 := h9.2.2.2.2.2.2.2.1; have ht1 := h9.2.2.2.2.2.2.2.2.1; have ht2 := h9.2.2.2.2.2.2.2.2.2.1; have hd1 := h9.2.2.2.2.2.2.2.2.2.2.1; have hd2 := h9.2.2.2.2.2.2.2.2.2.2.2
      clear h9
      have hn9 : n ≤ 900000 := hn1 ▸ Tm.small_val he hs1
      have c1 := hsub2 (L' + 1, _) (by k_mem)
      have c4 := hsub2 (L' + 1 + 1 + 1 + 1, _) (by k_mem)
      have ena : (na, instObj 167 nd) ∈ B2 := hsub2 _ (by k_mem)
      have ennd : (nd, natObj w t7 t8 1000000) ∈ B2 := hsub2 _ (by k_mem)
      have ede : (de, oe) ∈ B2 := hsub2 _ (by k_mem)
      clear hsub2 hx1 hx2 hx3 hx4 hx5 bna bnd bde bdt bin bA bB bC hoff
      replace N2 := newsCons (newsCons (newsCons N2 c4) (.tail _ c1)) (.tail _ (.tail _ hS))
      k_extra "my steps"
      all_goals first | exact TurnS.intro (by assumption) (by assumption) (by k_extra "my sub") | exact absurd rfl (by assumption)
    case fin2 =>
      intro du3 so3 h3 tk3 F3 N3
      clear N' l1
      have N4 : News _ _ _ ((_, listOf seen.toArray n) :: B) := newsSub N3 (fun p hp => (List.mem_cons.mp hp).elim (fun e => e ▸ (by k_mem)) fun hp => by simp only [List.mem_cons, List.mem_append, hp, true_or, or_true])
      clear N3
      replace N4 := newsCons (newsCons N4 (.tail _ hx2)) (.tail _ (.tail _ hx1))
      have nx := hoff _ hx1
      have nr := hoff _ hx2
      dsimp only at nx nr
      k_extra "my steps"
      all_goals (exact TurnR.intro (by assumption) (by assumption) (by k_mem) (by k_extra "my sub"))
  case fin =>
    intro seen du so wi si ru n h tk hseen F' N'
    have hlen : seen.length = 10 := hseen.len_eq
    clear hlt' hD' hDl' hr' l1
    k_extra "my steps"
    all_goals (refine ret _ _ _ (by assumption) (fun p hp => ?_); exact (by assumption : News _ _ _ _) p (by simp only [List.mem_cons, List.mem_append, hp, true_or, or_true]))
theorem w90 : True := by
  w_top off
  k_with_none
  k_with "my k_all" => (k_dflt (first | assumption | exact all_ne_sub9 (by assumption) (by k_extra "my sub") | exact all_ne_u0 (by assumption) (by k_extra "my sub") | exact all_ne_u1 (by assumption) (by k_extra "my sub") | exact all_ne_u2 (by assumption) (by k_extra "my sub") | exact all_ne_u3 (by assumption) (by k_extra "my sub") | exact all_ne_u4 (by assumption) (by k_extra "my sub") | (refine List.forall_mem_append.mpr ⟨?_, ?_⟩ <;> k_all)))
  k_with "my ktr_room" => (((try simp only [depth_under_make, depth_under_kw, depth_in1, depth_deeper, depth_caller]); (try dsimp only [ktrTop]); (try simp only [recursionLimit]); k_extra "my room"))
  k_with "my room" => (first | exact Nat.le_of_ble_eq_true rfl | exact rm0 hd rfl | exact rm1 hd rfl | exact rm5 hd rfl | exact rm6 hd rfl | exact rm4 hd rfl | exact rm2 hd rfl | exact rm3 hd rfl | exact rm7 hd rfl | exact rm8 (by assumption) rfl | omega)
  k_with "my units" => (first | exact Nat.le_of_ble_eq_true rfl | exact rm0 hu rfl | exact rm1 hu rfl | exact rm5 hu rfl | exact rm6 hu rfl | exact rm4 hu rfl | exact rm2 hu rfl | exact rm3 hu rfl | exact rm7 hu rfl | exact rm8 (by assumption) rfl | exact um1 hu rfl | exact um2 hu rfl | exact um3 hu rfl | exact um4 hu rfl | exact um5 hu rfl | (have hcL9 := cLine_is; omega))
  k_with "my dep" => (first | assumption | exact dm1 hdp | exact dm2 hdp | exact dm0 hdp | omega)
  k_with "my ktr_units" => (((try simp only [units_in1, units_deeper, Around.mark_units, units_caller]); (try dsimp only [ktrTop]); k_extra "my units"))
  k_with "my k_room" => (ktr_room)
  k_with "my k_units" => (ktr_units)
  k_with "my units_room" => (ktr_units)
  k_with "compareOp Eq ref ref" => ((k_here; (with_reducible show wpAny _ _ (compareOp CmpOp.Eq (Value.ref _) (Value.ref _)) _ _ _); first
      | refine' eq_zero_f (by assumption) (by assumption) (by k_extra "my sub") (by k_mem) (by first | rfl | exact mkOf_zero) (by omega) (by ktr_units) ?_
      | refine' eq_zero_t (by assumption) (by assumption) (by k_extra "my sub") (by k_mem) rfl (by omega) (by ktr_units) ?_))
  k_with "my k_ne" => (k_dflt (first | exact off_I (by assumption) (by k_mem) | exact off_C (by assumption) (by k_mem) | exact off_D (by assumption) (by k_mem) | assumption | exact ne_gt9 (by assumption) (by k_mem) | exact ne_lt9 (by assumption) (by k_mem) | exact ne_all9 (by assumption) (by k_mem) | exact ne_all9s (by assumption) (by k_mem) | exact ne_gt_u1 (by assumption) (by k_mem) | exact ne_lt_u1 (by assumption) (by k_mem) | exact ne_gt_u2 (by assumption) (by k_mem) | exact ne_lt_u2 (by assumption) (by k_mem) | exact ne_gt_u3 (by assumption) (by k_mem) | exact ne_lt_u3 (by assumption) (by k_mem) | exact ne_gt_u4 (by assumption) (by k_mem) | exact ne_lt_u4 (by assumption) (by k_mem)))
  k_with "my off" => (first | exact True.intro | (refine And.intro (off_at (by assumption) (by k_mem)) ?_; k_extra "my off") | (refine Off3.append ?_ ?_ <;> k_extra "my off") | (refine Off3.of_sub (by assumption) (fun p hp => ?_); simp only [List.mem_cons, List.mem_append, hp, true_or, or_true]; done) | (refine Off3.of_lt (by assumption) (by k_mem) (by k_mem) (by k_mem)))
  k_with "CompSrc" => ((k_here; k_dflt (refine LCg.CompSrc.range (by rfl) (by k_asm) (by k_asm) (by with_reducible assumption) (by first | decide | rfl) (by first | rfl | decide) (by first | size_fits | exact Nat.le_of_ble_eq_true rfl) ?_; intro g'; lcg_lit)))
  k_with "CompRest" => ((with_unfolding_all first
      | (refine CompRest_at (fun v9 h9 => (Option.some.inj h9).symm) ?_; intro I' oI' C' oC' D' m' h' tk' E' hC' hx' F' N' off' ne'; have offM := off'.mem; clear off')
      | (refine CompRest_ex (fun v9 h9 => h9) ?_; intro t9' I' oI' C' oC' D' m' h' tk' E' hC' hx' F' N' off' ne'; have offM := off'.mem; clear off')
      | (refine LCg.CompRest.succ ?_; intro v' I' oI' C' oC' D' m' h' tk' E' hv' hC' hx' F' N' off' ne'; have offM := off'.mem; (first | lcg_open hv' | (obtain ⟨t9', hv9'⟩ := hv'; subst hv9')); clear off')
      | refine LCg.CompRest.zero ?_))
  k_with "CompEnd" => ((k_here; (refine LCg.CompEnd.intro (by assumption) (by assumption) _ (fun p hp => hp) ?offAO ?srcAO ?_; (case offAO => k_extra "my off"); (case srcAO => first | lcg_src | ((try dsimp only); k_mem)))))
  k_with "my enter" => ((refine' code_def ?k1AP ?k2AP ?k3AP ?k4AP ?k5AP ?kAAP ?kFAP ?kKAP ?k6AP ?k7AP ?k8AP ?k9AP ?kBAP ?_ ?c2AP ?c3AP ?c4AP ?c5AP; (case kAAP => exact rfl); (case kFAP => exact rfl); (case kKAP => first | exact rfl | assumption); (case k1AP => k_asm); (case k2AP => k_asm); (case k3AP => k_asm); (case k4AP => k_asm); (case k5AP => k_asm); (case k6AP => k_is); (case k7AP => k_is); (case k8AP => ktr_room); (case k9AP => exact BindsTo.of_eq rfl); (case c5AP => decide); (case kBAP => exact locs rfl); (case c2AP => exact rfl); (case c3AP => exact rfl); (case c4AP => exact rfl); k_whole; intro g' L' h' FG' F' N' B' X' T'; (try dsimp only); (try k_fold)))
  k_with "my enterC" => ((refine' code_defC ?k1AQ ?k2AQ ?k3AQ ?k4AQ ?k5AQ ?kAAQ ?kFAQ ?kKAQ ?k6AQ ?k7AQ ?k8AQ ?k9AQ ?kBAQ ?kDAQ ?_ ?c2AQ ?c3AQ ?c4AQ; (case kAAQ => exact rfl); (case kFAQ => exact rfl); (case kKAQ => first | exact rfl | assumption); (case k1AQ => k_asm); (case k2AQ => k_asm); (case k3AQ => k_asm); (case k4AQ => k_asm); (case k5AQ => k_asm); (case k6AQ => k_is); (case k7AQ => k_is); (case k8AQ => ktr_room); (case k9AQ => exact BindsTo.of_eq rfl); (case kBAQ => exact rfl); (case kDAQ => decide +kernel); (case c2AQ => exact rfl); (case c3AQ => exact rfl); (case c4AQ => exact rfl); k_whole; intro g' L' h' tk' cells' FG' F'; (first | (refine cells_in1 ?_; intro o' d1' N') | (refine cells_in2 ?_; intro o' o2' d1' d2' N') | (refine cells_in3 ?_; intro o' o2' o3' d1' d2' d3' N') | (refine cells_in4 ?_; intro o' o2' o3' o4' d1' d2' d3' d4' N')); intro B' X' T' l1; (try k_lt l1); (try dsimp only); (try k_fold)))
  k_with "eval ListComp" => ((k_here; (with_reducible show wpAny _ _ (eval (Expr.ListComp _ [⟨Expr.Name _ _, Expr.Subscript _ (Expr.Slice (some _) _ _ _) _, [], 0⟩] _ _) _) _ _ _); k_dflt (refine comp_tup (by k_asm) (by with_unfolding_all rfl) (by decide) (by rfl) (by decide) (by rfl) ?_)))
  k_with "exec Assign cons ListComp" => ((k_here; (with_reducible show wpAny _ _ (exec (Stmt.Assign [Expr.Name _ _] (Expr.ListComp _ [⟨Expr.Name _ _, Expr.Subscript _ (Expr.Slice (some _) _ _ _) _, [], 0⟩] _ _) _) _) _ _ _); k_dflt (refine comp_tup_assign (by k_asm) (by rfl) (by with_unfolding_all rfl) (by with_unfolding_all rfl) (by decide) (by rfl) (by decide) (by rfl) (by rfl) (by rfl) ?_)))
  k_with "subscriptTail Name Slice ref ref" => ((k_here; (with_reducible show wpAny _ _ (subscriptTail _ (PySem.Expr.Slice (some _) none none _) (Value.ref _) (Value.ref _)) _ _ _); k_dflt (refine' slice_tup1 ?FAT ?NAT ?lAT ?pAT ?eAT ?_ ?sAT ?tAT ?zAT; (case FAT => k_asm); (case NAT => k_asm); (case lAT => k_mem); (case pAT => exact Nat.le_of_ble_eq_true rfl); (case eAT => kl_lit); (case sAT => with_unfolding_all rfl); (case tAT => kmk_pure); (case zAT => kmk_size)); intro D' h' F' N' l1; (try k_lt l1); (try k_sweep)))
  k_with "TupSrc" => ((k_here; k_dflt (refine TupSrc.of (by rfl) (by k_asm) (by k_asm) (by k_mem) (by first | size_fits | exact Nat.le_of_ble_eq_true rfl) ?_; intro g'; lcg_lit)))
  k_with "my steps" => (repeat' ((fail_if_success (with_reducible show Ret _ _ _)); first | ((with_reducible show wpAny _ _ (call (Value.ref _) _ _) _ _ _); k_extra "my call") | ((fail_if_success ((with_reducible show wpAny _ _ (call (Value.ref _) _ _) _ _ _); k_extra "my nocall")); first | (k_unfold; (try dsimp only)) | walk1 | (dsimp only; walk1) | (leave1; walk_say "STEP leave1"; try dsimp only))))
  k_with "my sub" => (first | (with_reducible exact sub_self _) | (with_reducible refine sub_cons ?_; k_extra "my sub") | (with_reducible refine sub_left ?_; k_extra "my sub") | (with_reducible refine sub_right ?_; k_extra "my sub") | (intro p hp; simp only [List.mem_cons, List.mem_append, hp, true_or, or_true]; done))
  k_with "my ord" => (k_dflt (first | assumption | exact lt_all (by assumption) (by k_mem) | exact lt_all_u1 (by assumption) (by k_mem) | exact lt_all_u2 (by assumption) (by k_mem) | omega))
  k_with "my allLt" => (first | exact allLt_of (by assumption) | exact allLt_sub (by assumption) (by k_extra "my sub") | tbn_find)
  k_with "FinE" => (((unfold LCg.FinE); intro D' h' tk' F' N' o1'; replace o1' := off1_mem o1'; (try dsimp only [List.nil_append, List.cons_append] at N'); (try dsimp only [List.nil_append, List.cons_append] at o1'); (try dsimp only)))
  k_with "FinA" => (((unfold LCg.FinA); intro D' h' tk' F' N' o1'; replace o1' := off1_mem o1'; (try dsimp only [List.nil_append, List.cons_append] at N'); (try dsimp only [List.nil_append, List.cons_append] at o1'); (try dsimp only)))
  k_with "my omega" => (first
      | ((with_reducible show @LE.le Nat _ _ _); first | exact Nat.le_of_ble_eq_true rfl | with_reducible (first | exact o1 ‹_› (by decide) | exact o4 ‹_› (by decide) | exact o7 ‹_› (by decide) | exact o8 ‹_› (by decide) | exact o9 ‹_› (by decide) | exact q6 ‹_› (by decide) | exact q0 ‹_› (by decide) | exact r0 ‹_› (by decide) | exact q1 ‹_› ‹_› (by decide) | exact q3 ‹_› ‹_› (by decide) | exact q7 ‹_› ‹_› (by decide) | exact q8 ‹_› ‹_› (by decide) | exact q9 ‹_› ‹_› | exact r1 ‹_› ‹_› (by decide) | exact r2 ‹_› ‹_› | exact r4 ‹_› ‹_› | exact r8 ‹_› ‹_› (by decide) | exact o0 ‹_› (by decide) | exact Nat.add_le_add ‹_› ‹_› | exact Nat.le_add_left _ _ | exact Nat.le_of_lt ‹_›))
      | ((with_reducible show @LT.lt Nat _ _ _); first | exact Nat.le_of_ble_eq_true rfl | with_reducible (first | exact o2 ‹_› (by decide) | exact o3 ‹_› (by decide) | exact o5 ‹_› (by decide) | exact o6 ‹_› (by decide) | exact p5 ‹_› (by decide) | exact j6 ‹_› (by decide) | exact q2 ‹_› ‹_› (by decide) | exact q4 ‹_› ‹_› (by decide) | exact q5 ‹_› ‹_› (by decide) | exact p1 ‹_› ‹_› (by decide) | exact p2 ‹_› ‹_› (by decide) | exact p3 ‹_› ‹_› (by decide) | exact p4 ‹_› ‹_› (by decide) | exact p6 ‹_› ‹_› (by decide)))
      | ((with_reducible show @LE.le Int _ _ _); first | decide +kernel | with_reducible (first | exact i1 ‹_› | exact i2 ‹_› | exact i6 | exact i7 | exact j7 ‹_› | exact j4 ‹_› (by decide +kernel) | exact i8 ‹_› (by decide +kernel) | exact i9 ‹_› (by decide +kernel) | exact i3 ‹_› ‹_› | exact i4 ‹_› ‹_› | exact i5 ‹_› ‹_›))
      | ((with_reducible show @LT.lt Int _ _ _); first | decide +kernel | with_reducible (first | exact j1 ‹_› | exact j5 (by decide +kernel) | exact j3 ‹_› (by decide +kernel) | exact j8 ‹_› (by decide +kernel) | exact j9 ‹_› (by decide +kernel) | exact l1 ‹_› (by decide +kernel) | exact l2 ‹_› (by decide +kernel) | exact l3 ‹_› (by decide +kernel) | exact j0 ‹_› ‹_› (by decide +kernel)))
      | ((with_reducible show @Ne Nat _ _); with_reducible (first | exact Nat.ne_of_gt ‹_› | exact Nat.ne_of_lt ‹_› | exact Nat.succ_ne_self _ | exact (Nat.succ_ne_self _).symm))
      | with_reducible (first | exact j2 ‹_› | exact z4 ‹_› ‹_› | exact z6 ‹_› ‹_› | exact z3 ‹_› | exact z2 ‹_› ‹_›))
  k_with "my call" => ((k_here; (with_reducible show wpAny _ _ (call (Value.ref 190) [Value.ref _, Value.int _ _, Value.ref _]) _ _ _); (rename TermSpec _ _ => ih9BF); k_dflt (refine' ih9BF ?k1BF ?k2BF ?k3BF ?k4BF ?k5BF ?kKBF ?k6BF ?k7BF ?k71BF ?k8BF ?k81BF ?k9BF ?k10BF ?k12BF ?k13BF ?k14BF ?k16BF ?k17BF ?_; (case k1BF => k_asm); (case k2BF => k_asm); (case k3BF => k_asm); (case k4BF => k_asm); (case k5BF => k_asm); (case kKBF => first | exact rfl | assumption); (case k6BF => k_mem); (case k7BF => k_mem); (case k71BF => k_mem); (case k8BF => assumption); (case k81BF => assumption); (case k9BF => assumption); (case k10BF => assumption); (case k12BF => omega); (case k13BF => omega); (case k14BF => omega); (case k16BF => ktr_room); (case k17BF => ktr_units); k_whole); intro v' t' tl' k' t1' h' tk' F' HN' htl' hnl' ht' hd' hk0' hk1'; obtain N' := HN' _ (by k_upd); clear HN'; (try dsimp only [List.cons_append, List.nil_append] at N'); (try simp only [List.append_assoc, List.cons_append, List.nil_append] at N'); (try k_sweep)))
  k_with "my call" => ((k_here; (with_reducible show wpAny _ _ (call (Value.ref 178) _ _) _ _ _); k_dflt (refine' kids_walk ?k1BG ?k2BG ?k3BG ?k4BG ?k5BG ?kKBG ?k16BG ?k17BG ?_; (case k1BG => k_asm); (case k2BG => k_asm); (case k3BG => k_asm); (case k4BG => k_asm); (case k5BG => k_asm); (case kKBG => first | exact rfl | assumption); (case k16BG => ktr_room); (case k17BG => ktr_units); k_whole); intro d' o' h' t1' t2' t3' t4' t5' t6' tk' F' N' l1 lo' hd' hf'; (try k_sweep)))
  k_with "my nocall" => (first | (with_reducible show wpAny _ _ (call (Value.ref 190) _ _) _ _ _) | (with_reducible show wpAny _ _ (call (Value.ref 178) _ _) _ _ _))
  k_with "my call" => ((k_here; (with_reducible show wpAny _ _ (call (Value.ref 195) [_, _]) _ _ _); (with_reducible rename OnesFor _ _ => ih9CA); (refine toks_up ?_); k_dflt (refine' ih9CA ?ktCA ?k1CA ?k2CA ?k3CA ?k4CA ?k5CA ?kKCA ?k6CA ?k7CA ?k8CA ?k9CA ?k10CA ?k11CA ?k12CA ?k125CA ?k13CA ?k14CA ?_; (case k1CA => k_asm); (case k2CA => k_asm); (case k3CA => k_asm); (case k4CA => k_asm); (case k5CA => k_asm); (case kKCA => first | exact rfl | assumption); (case k6CA => first | assumption | exact TmIn.mono (by assumption) (by k_extra "my sub")); (case ktCA => first | exact Or.inl rfl | exact Or.inr rfl | exact True.intro); (case k7CA => k_mem); (case k8CA => assumption); (case k9CA => assumption); (case k10CA => assumption); (case k11CA => assumption); (case k12CA => first | assumption | omega); (case k125CA => k_extra "my dep"); (case k13CA => ktr_room); (case k14CA => ktr_units); k_whole); intro t1' h' tk' ht0' ht1' F' N' hle'; (try dsimp only at hle'); (try k_sweep)))
  k_with "my nocall" => ((with_reducible show wpAny _ _ (call (Value.ref 195) _ _) _ _ _))
  k_with "my call" => ((k_here; (with_reducible show wpAny _ _ (call (Value.ref 200) [_, _]) _ _ _); (with_reducible rename GreatFor _ _ => ih9CD); k_dflt (refine' ih9CD ?ktCD ?k1CD ?k2CD ?k3CD ?k4CD ?k5CD ?kKCD ?k6CD ?k7CD ?k8CD ?k9CD ?k10CD ?k11CD ?k12CD ?k125CD ?k13CD ?k14CD ?_; (case k1CD => k_asm); (case k2CD => k_asm); (case k3CD => k_asm); (case k4CD => k_asm); (case k5CD => k_asm); (case kKCD => first | exact rfl | assumption); (case k6CD => first | assumption | exact TmIn.mono (by assumption) (by k_extra "my sub")); (case ktCD => first | exact Or.inl rfl | exact Or.inr rfl | exact True.intro); (case k7CD => k_mem); (case k8CD => assumption); (case k9CD => assumption); (case k10CD => assumption); (case k11CD => assumption); (case k12CD => first | assumption | omega); (case k125CD => k_extra "my dep"); (case k13CD => ktr_room); (case k14CD => ktr_units); k_whole); intro t1' h' tk' F' N'; (try k_sweep)))
  k_with "my nocall" => ((with_reducible show wpAny _ _ (call (Value.ref 200) _ _) _ _ _))
  k_with "call builtin:len" => ((k_here; (with_reducible show wpAny _ _ (call (Value.builtin "len") [Value.str (ones _) _]) _ _ _); refine len_ones (by assumption) ?_))
  k_with "my x_close" => ((refine EndX.use (by assumption) ?_; exact ⟨_, rfl, by assumption⟩))
  k_with "exec Raise some none" => ((k_here; (with_reducible show wpAny _ _ (exec (Stmt.Raise (some (Expr.Call (Expr.Name _ _) (_ :: _) [] _)) none _) _) _ _ _); k_dflt (refine raise_fault (w := ‹World›) rfl ?_)))
  k_with "my fault" => (((with_reducible show wpAny _ _ (call (Value.ref 60) [Value.str _ _]) _ _ _); refine' fault_make ?kBCJ ?kFCJ ?kXCJ ?kNCJ ?kTCJ ?kACJ ?kfCJ ?kkCJ ?khCJ ?kdCJ ?kuCJ ?_; (case kACJ => exact rfl); (case kBCJ => k_asm); (case kFCJ => k_asm); (case kXCJ => k_asm); (case kNCJ => k_asm); (case kTCJ => k_asm); (case kfCJ => exact rfl); (case kkCJ => exact rfl); (case khCJ => exact rfl); (case kdCJ => ktr_room); (case kuCJ => ktr_units); intro hv tkv xv tv dv Fv Nv lv lt; refine ⟨xv, tv, dv, rfl, Frag.In.keeps (by k_asm) (Fr.keep (by assumption)), (Nv _ (.head _)).1, ?_⟩; show wpAny _ _ (leaving _ _) _ _ _; refine leave_fault (by assumption) Fv Nv (fun p hp => Nat.ne_of_lt (lv p hp)) (fun p hp => Nat.ne_of_lt (lt p hp)) rfl (fun h9 R9 U9 => ?_); exact raise_end (by assumption) (by k_extra "my none") (by assumption) R9 U9 (by k_extra "my sub")))
  k_with "joinParts" => ((k_here; first
      | ((with_reducible refine joinParts_consE ?_); (with_reducible refine' joinParts_gen ?hoCK ?hnCK ?_); (case hoCK => first | assumption | exact (show Str.empty.length ≤ 0 from by decide +kernel)); (case hnCK => exact Nat.le_of_ble_eq_true rfl))
      | ((with_reducible show wpAny _ _ (joinParts _ (_ :: _)) _ _ _); (with_reducible refine' joinParts_gen ?hoCK ?hnCK ?_); (case hoCK => first | assumption | exact (show Str.empty.length ≤ 0 from by decide +kernel)); (case hnCK => exact Nat.le_of_ble_eq_true rfl))
      | ((try with_reducible refine joinParts_nilE ?_); (with_reducible refine' joinParts_last ?hoCK ?hnCK ?_); (case hoCK => assumption); (case hnCK => exact Nat.le_of_ble_eq_true rfl); intro msg' hmsg')))
  k_with "StrPart" => ((k_here; (with_unfolding_all refine StrPart.intro ?hyCL ?_); (case hyCL => first | omega | decide +kernel | exact int_text30 (by omega)); intro out' hout'))
  k_with "formatField str" => ((k_here; (with_reducible show wpAny _ _ (formatField (Value.str _ _) Str.empty) _ _ _); (refine formatField_str ?_ (by rw [sizeLine_eq]; omega)); intro _ _))
  k_with "exec Assign cons ListComp" => ((k_here; (with_reducible show wpAny _ _ (exec (Stmt.Assign [Expr.Name _ _] (Expr.ListComp _ [⟨Expr.Name _ _, Expr.Subscript _ (Expr.Slice _ _ _ _) _, [], 0⟩] _ _) _) _) _ _ _); k_dflt (refine comp_tup_assignE (by k_asm) (by k_asm) (by rfl) (by rfl) (by rfl) (by with_unfolding_all rfl) (by with_unfolding_all rfl) (by decide) (by rfl) (by decide) (by rfl) (by rfl) (by rfl) ?_)))
  k_with "my heldE" => ((intro er9 h9 tk9 p9 U9; show wpAny _ _ (leaving _ _) _ _ _; refine leave_upF (by assumption) rfl U9 (fun h8 x8 t8 vs8 e8 R8 V8 => ?_); subst e8; exact raise_end (by assumption) p9 (by assumption) R8 V8 (fun _ h => h)))
  k_with "TupSrcE" => ((k_here; k_dflt (first
      | refine TupSrcE.of (by assumption) (by rfl) (by k_asm) (by k_asm) (by k_mem) (by first | size_fits | exact Nat.le_of_ble_eq_true rfl) 1 (by rfl) ?hKCU ?hECU ?_
      | refine TupSrcE.of (by assumption) (by rfl) (by k_asm) (by k_asm) (by k_mem) (by first | size_fits | exact Nat.le_of_ble_eq_true rfl) 2 (by rfl) ?hKCU ?hECU ?_); (case hKCU => k_extra "my sub"); (case hECU => k_extra "my heldE"); intro g'))
  k_with "RestE" => ((with_unfolding_all first
      | (refine RestE.at (fun v9 h9 => (Option.some.inj h9).symm) ?_; intro I' oI' C' oC' D' m' h' tk' hT' hC' hx' F' N' off' ne'; have offM := off'.mem; clear off')
      | (refine RestE.succ ?_; intro v' I' oI' C' oC' D' m' h' tk' hT' hv' hC' hx' F' N' off' ne'; have offM := off'.mem; lcg_open hv'; clear off')
      | refine RestE.zero ?_))
  k_with "EndT" => ((k_here; (refine EndT.intro (by assumption) (by assumption) ?offCW ?srcCW ?_; (case offCW => k_extra "my off"); (case srcCW => ((try dsimp only); refine ⟨by k_mem, ?_⟩; k_extra "my sub")))))
  k_with "FinAT" => (((unfold FinAT); intro D' h' tk' hT' F' N' o1'; replace o1' := off1_mem o1'; (try dsimp only [List.nil_append, List.cons_append] at o1'); (try dsimp only [List.nil_append, List.cons_append] at N'); (try dsimp only)))
  k_with "my callE" => ((intro p9 er9 h9 tk9 U9; exact ElE.intro (by k_extra "my none") U9 (fun _ h => h)))
  k_with "my call" => ((k_here; (with_reducible show wpAny _ _ (call (Value.ref 164) [_, _, _]) _ _ _); (with_reducible rename ValFor _ _ _ _ => ih9DA); k_dflt (refine' ih9DA ?ktDA ?k1DA ?k2DA ?k3DA ?k4DA ?k5DA ?kKDA ?k6DA ?k7DA ?k8DA ?k9DA ?k10DA ?k11DA ?k12DA ?k125DA ?k13DA ?k14DA ?_ ?kEDA; (case k1DA => k_asm); (case k2DA => k_asm); (case k3DA => k_asm); (case k4DA => k_asm); (case k5DA => k_asm); (case kKDA => first | exact rfl | assumption); (case k6DA => first | assumption | exact TmIn.mono (by assumption) (by k_extra "my sub")); (case ktDA => first | exact Or.inl rfl | exact Or.inr rfl | exact True.intro); (case k7DA => k_mem); (case k8DA => assumption); (case k9DA => assumption); (case k10DA => assumption); (case k11DA => k_mem); (case k12DA => k_mem); (case k125DA => k_extra "my dep"); (case k13DA => ktr_room); (case k14DA => ktr_units); (case kEDA => k_extra "my callE"); k_whole); intro n' t1' h' tk' ho' F' N'; obtain hb' := ev_le (by assumption) (by assumption) ho'; (try k_sweep)))
  k_with "my nocall" => ((with_reducible show wpAny _ _ (call (Value.ref 164) _ _) _ _ _))
  k_with "my upE" => ((intro p9 er9 h9 tk9 U9; show wpAny _ _ (leaving _ _) _ _ _; refine leave_up (by assumption) rfl U9 (fun h8 x8 t8 vs8 e8 R8 V8 => ?_); subst e8; exact raise_end (by assumption) (by k_extra "my none") (by assumption) R8 V8 (by k_extra "my sub")))
  k_with "my call" => ((k_here; (with_reducible show wpAny _ _ (call (Value.ref 131) [_, _]) _ _ _); k_dflt (first
      | (refine' named_bad1 ?k1DK ?k2DK ?k3DK ?k4DK ?k5DK ?kKDK ?k6DK ?k7DK ?k8DK ?k9DK ?k10DK ?k11DK ?k12DK ?k13DK ?k14DK ?kEDK; (case k1DK => k_asm); (case k2DK => k_asm); (case k3DK => k_asm); (case k4DK => k_asm); (case k5DK => k_asm); (case kKDK => first | exact rfl | assumption); (case k6DK => k_mem); (case k7DK => k_mem); (case k8DK => assumption); (case k9DK => assumption); (case k10DK => assumption); (case k11DK => assumption); (case k12DK => assumption); (case k13DK => ktr_room); (case k14DK => ktr_units); (case kEDK => k_extra "my upE"))
      | (refine' named_bad2 ?k1DK ?k2DK ?k3DK ?k4DK ?k5DK ?kKDK ?k6DK ?k11DK ?k13DK ?k14DK ?kEDK; (case k1DK => k_asm); (case k2DK => k_asm); (case k3DK => k_asm); (case k4DK => k_asm); (case k5DK => k_asm); (case kKDK => first | exact rfl | assumption); (case k6DK => k_mem); (case k11DK => assumption); (case k13DK => ktr_room); (case k14DK => ktr_units); (case kEDK => k_extra "my upE"))
      | (refine' named_bad3 ?k1DK ?k2DK ?k3DK ?k4DK ?k5DK ?kKDK ?k6DK ?k11DK ?k13DK ?k14DK ?kEDK; (case k1DK => k_asm); (case k2DK => k_asm); (case k3DK => k_asm); (case k4DK => k_asm); (case k5DK => k_asm); (case kKDK => first | exact rfl | assumption); (case k6DK => k_mem); (case k11DK => assumption); (case k13DK => ktr_room); (case k14DK => ktr_units); (case kEDK => k_extra "my upE")))))
  k_with "my nocall" => ((with_reducible show wpAny _ _ (call (Value.ref 131) _ _) _ _ _))
  k_with "my call" => ((k_here; (with_reducible show wpAny _ _ (call (Value.ref 131) [_, _]) _ _ _); k_dflt (refine' named_good ?kxDR ?k1DR ?k2DR ?k3DR ?k4DR ?k5DR ?kKDR ?k6DR ?k7DR ?k8DR ?k9DR ?k10DR ?k13DR ?k14DR ?_; (case kxDR => assumption); (case k1DR => k_asm); (case k2DR => k_asm); (case k3DR => k_asm); (case k4DR => k_asm); (case k5DR => k_asm); (case kKDR => first | exact rfl | assumption); (case k6DR => k_mem); (case k7DR => k_mem); (case k8DR => assumption); (case k9DR => assumption); (case k10DR => assumption); (case k13DR => ktr_room); (case k14DR => ktr_units); k_whole); intro t1' h' tk' F' N'; (try k_sweep)))
  k_with "my nocall" => ((with_reducible show wpAny _ _ (call (Value.ref 131) _ _) _ _ _))
  k_with "my call" => ((k_here; (with_reducible show wpAny _ _ (call (Value.ref 164) [_, _, _]) _ _ _); (with_reducible rename BadOK _ _ _ _ => ih9DZ); k_dflt (refine' BadOK.use ih9DZ ?k1DZ ?k2DZ ?k3DZ ?k4DZ ?k5DZ ?kKDZ ?k6DZ ?k7DZ ?k8DZ ?k9DZ ?k10DZ ?k11DZ ?k12DZ ?k125DZ ?k13DZ ?k14DZ ?_ ?kEDZ; (case k1DZ => k_asm); (case k2DZ => k_asm); (case k3DZ => k_asm); (case k4DZ => k_asm); (case k5DZ => k_asm); (case kKDZ => first | exact rfl | assumption); (case k6DZ => exact ⟨_, _, _, rfl, by k_mem⟩); (case k7DZ => k_mem); (case k8DZ => assumption); (case k9DZ => assumption); (case k10DZ => assumption); (case k11DZ => k_mem); (case k12DZ => k_mem); (case k125DZ => k_extra "my dep"); (case k13DZ => ktr_room); (case k14DZ => ktr_units); (case kEDZ => k_extra "my callE"); k_whole); intro n' t1' h' tk' ho' F' N'; cases ho'))
  k_with "my call" => ((k_here; (with_reducible show wpAny _ _ (call (Value.ref 164) [_, _, _]) _ _ _); (with_reducible rename IsVal _ _ _ _ _ _ => ih9EA); k_dflt (refine' IsVal.use ih9EA ?k1EA ?k2EA ?k3EA ?k4EA ?k5EA ?kKEA ?k6EA ?k7EA ?k8EA ?k9EA ?k10EA ?k11EA ?k12EA ?k125EA ?k13EA ?k14EA ?_ ?kEEA; (case k1EA => k_asm); (case k2EA => k_asm); (case k3EA => k_asm); (case k4EA => k_asm); (case k5EA => k_asm); (case kKEA => first | exact rfl | assumption); (case k6EA => assumption); (case k7EA => k_mem); (case k8EA => assumption); (case k9EA => assumption); (case k10EA => assumption); (case k11EA => k_mem); (case k12EA => k_mem); (case k125EA => k_extra "my dep"); (case k13EA => ktr_room); (case k14EA => ktr_units); rotate_left; (intro p9 er9 h9 tk9 U9; obtain ⟨x9, t9, vs9, g9, e9, F9, R9, V9⟩ := U9; subst e9; (try dsimp only)); rotate_left; k_whole); intro n' t1' h' tk' ho' F' N'; (try k_sweep)))
  k_with "my nocall" => ((with_reducible show wpAny _ _ (call (Value.ref 164) _ _) _ _ _))
  k_with "my call" => ((k_here; (with_reducible show wpAny _ _ (call (Value.ref 205) [_, _]) _ _ _); (with_reducible rename PutFor _ _ => ih9EF); k_dflt (refine' ih9EF ?ktEF ?k1EF ?k2EF ?k3EF ?k4EF ?k5EF ?kKEF ?k6EF ?k7EF ?k8EF ?kAEF ?kBEF ?kCEF ?k9EF ?k10EF ?k11EF ?k13EF ?k14EF ?_; (case k1EF => k_asm); (case k2EF => k_asm); (case k3EF => k_asm); (case k4EF => k_asm); (case k5EF => k_asm); (case kKEF => first | exact rfl | assumption); (case k6EF => assumption); (case ktEF => first | exact Or.inl rfl | exact Or.inr rfl); (case k9EF => k_mem); (case k10EF => assumption); (case k11EF => assumption); (case kAEF => assumption); (case kBEF => assumption); (case kCEF => assumption); (case k7EF => k_extra "my sub2"); (case k8EF => k_extra "my sub2"); (case k13EF => ktr_room); (case k14EF => ktr_units); k_whole); intro r' tl' h' tk' F' N' htl' ht'; (try dsimp only [List.cons_append, List.nil_append] at N'); (try simp only [List.append_assoc, List.cons_append, List.nil_append] at N'); (try k_sweep)))
  k_with "my nocall" => ((with_reducible show wpAny _ _ (call (Value.ref 205) _ _) _ _ _))
  k_with "my call" => ((k_here; (with_reducible show wpAny _ _ (call (Value.ref 91) [_]) _ _ _); (with_reducible rename PartsFor _ _ => ih9ET); k_dflt (refine' ih9ET ?ktET ?k1ET ?k2ET ?k3ET ?k4ET ?k5ET ?kKET ?k6ET ?k7ET ?k8ET ?k13ET ?k14ET ?_; (case k1ET => k_asm); (case k2ET => k_asm); (case k3ET => k_asm); (case k4ET => k_asm); (case k5ET => k_asm); (case kKET => first | exact rfl | assumption); (case k6ET => assumption); (case ktET => assumption); (case k7ET => k_extra "my sub2"); (case k8ET => assumption); (case k13ET => ktr_room); (case k14ET => ktr_units); k_whole); intro D' vs' n' tl' h' tk' F' N' htl' hp'; have hvl' := hp'.length; (try dsimp only [List.cons_append, List.nil_append] at N'); (try simp only [List.append_assoc, List.cons_append, List.nil_append] at N'); (try k_sweep)))
  k_with "my nocall" => (first | (with_reducible show wpAny _ _ (call (Value.ref 91) _) _ _ _))
  k_with "my call" => ((k_here; (with_reducible show wpAny _ _ (call (Value.ref 91) [_]) _ _ _); k_dflt (refine' parts_all _ ?k1FC ?k2FC ?k3FC ?k4FC ?k5FC ?kKFC ?k6FC ?k7FC ?k8FC ?k13FC ?k14FC ?_; (case k1FC => k_asm); (case k2FC => k_asm); (case k3FC => k_asm); (case k4FC => k_asm); (case k5FC => k_asm); (case kKFC => first | exact rfl | assumption); (case k6FC => assumption); (case k7FC => k_extra "my sub2"); (case k8FC => omega); (case k13FC => ktr_room); (case k14FC => ktr_units); k_whole); intro D' vs' n' tl' h' tk' F' N' htl' hp'; have hvl' := hp'.length; (try dsimp only [List.cons_append, List.nil_append] at N'); (try simp only [List.append_assoc, List.cons_append, List.nil_append] at N'); (try k_sweep)))
  k_with "my call" => ((k_here; (with_reducible show wpAny _ _ (call (Value.ref 81) [_]) _ _ _); k_dflt (refine' isvar_all _ ?k1FD ?k2FD ?k3FD ?k4FD ?k5FD ?kKFD ?k6FD ?k13FD ?k14FD ?_; (case k1FD => k_asm); (case k2FD => k_asm); (case k3FD => k_asm); (case k4FD => k_asm); (case k5FD => k_asm); (case kKFD => first | exact rfl | assumption); (case k6FD => exact PatIn.mono (by assumption) (by k_extra "my sub2")); (case k13FD => ktr_room); (case k14FD => ktr_units); k_whole); intro h' tk' F' N'; (try k_sweep)))
  k_with "my nocall" => (first | (with_reducible show wpAny _ _ (call (Value.ref 91) _) _ _ _) | (with_reducible show wpAny _ _ (call (Value.ref 81) _) _ _ _))
  k_with "my call" => ((k_here; (with_reducible show wpAny _ _ (call (Value.ref 81) [_]) _ _ _); k_dflt (refine' isvar_no ?kvFP ?k1FP ?k2FP ?k3FP ?k4FP ?k5FP ?kKFP ?k6FP ?k13FP ?k14FP ?_; (case k1FP => k_asm); (case k2FP => k_asm); (case k3FP => k_asm); (case k4FP => k_asm); (case k5FP => k_asm); (case kKFP => first | exact rfl | assumption); (case k6FP => exact PatIn.mono (by assumption) (by k_extra "my sub2")); (case kvFP => assumption); (case k13FP => ktr_room); (case k14FP => ktr_units); k_whole); intro h' tk' F' N'; (try k_sweep)))
  k_with "my call" => ((k_here; (with_reducible show wpAny _ _ (call (Value.ref 86) [_]) _ _ _); k_dflt (refine' vars_all _ ?k1FQ ?k2FQ ?k3FQ ?k4FQ ?k5FQ ?kKFQ ?k6FQ ?k7FQ ?k8FQ ?k13FQ ?k14FQ ?_; (case k1FQ => k_asm); (case k2FQ => k_asm); (case k3FQ => k_asm); (case k4FQ => k_asm); (case k5FQ => k_asm); (case kKFQ => first | exact rfl | assumption); (case k6FQ => assumption); (case k7FQ => k_extra "my sub2"); (case k8FQ => assumption); (case k13FQ => ktr_room); (case k14FQ => ktr_units); k_whole); intro D' vs' ss' n' h' tk' d' F' N' l1 hs' hx' hl'; have l1a := l1; (try k_lt l1); (try k_sweep)))
  k_with "my nocall" => (first | (with_reducible show wpAny _ _ (call (Value.ref 86) _) _ _ _) | (with_reducible show wpAny _ _ (call (Value.ref 81) _) _ _ _))
  k_with "my nocall" => (first | (with_reducible show wpAny _ _ (call (Value.ref 113) _) _ _ _))
  k_with "my call" => ((k_here; (with_reducible show wpAny _ _ (call (Value.ref 138) _) _ _ _); k_dflt (first | (refine' laws_plus ?k1GQ ?k2GQ ?k3GQ ?k4GQ ?k5GQ ?kKGQ ?k13GQ ?k14GQ ?_) | (refine' laws_times ?k1GQ ?k2GQ ?k3GQ ?k4GQ ?k5GQ ?kKGQ ?k13GQ ?k14GQ ?_)); (case k1GQ => k_asm); (case k2GQ => k_asm); (case k3GQ => k_asm); (case k4GQ => k_asm); (case k5GQ => k_asm); (case kKGQ => first | exact rfl | assumption); (case k13GQ => ktr_room); (case k14GQ => ktr_units); k_whole; intro D' x1' x2' x3' n' tl' h' tk' d' F' N' hlt' hD' hDl' r1' r2' r3'; replace N' := newsCons N' hD'; (try dsimp only [List.cons_append, List.nil_append] at N'); (try simp only [List.append_assoc, List.cons_append, List.nil_append] at N' r1' r2' r3')))
  k_with "my nocall" => (first | (with_reducible show wpAny _ _ (call (Value.ref 113) _) _ _ _) | (with_reducible show wpAny _ _ (call (Value.ref 138) _) _ _ _))
  k_with "my call" => ((k_here; (with_reducible show wpAny _ _ (call (Value.ref 159) _) _ _ _); k_dflt (refine' rules_make ?k1HC ?k2HC ?k3HC ?k4HC ?k5HC ?kKHC ?k13HC ?k14HC ?_); (case k1HC => k_asm); (case k2HC => k_asm); (case k3HC => k_asm); (case k4HC => k_asm); (case k5HC => k_asm); (case kKHC => first | exact rfl | assumption); (case k13HC => ktr_room); (case k14HC => ktr_units); k_whole; intro D' vs' n' tl' h' tk' d' F' N' hlt' hD' hDl' hr'; replace N' := newsCons N' hD'; (try dsimp only [List.cons_append, List.nil_append] at N'); (try simp only [List.append_assoc, List.cons_append, List.nil_append] at N' hr')))
  k_with "my nocall" => (first | (with_reducible show wpAny _ _ (call (Value.ref 159) _) _ _ _) | (with_reducible show wpAny _ _ (call (Value.ref 164) _) _ _ _) | (with_reducible show wpAny _ _ (call (Value.ref 195) _) _ _ _) | (with_reducible show wpAny _ _ (call (Value.ref 205) _) _ _ _))
  k_with "my call" => ((k_here; (with_reducible show wpAny _ _ (call (Value.ref 205) _) _ _ _); k_dflt (refine' put_all _ ?k1HK ?k2HK ?k3HK ?k4HK ?k5HK ?kKHK ?kpHK ?kpnHK ?tnHK ?taHK ?tbHK ?tcHK ?dtHK ?dsHK ?ddHK ?k13HK ?k14HK ?_); (case k1HK => k_asm); (case k2HK => k_asm); (case k3HK => k_asm); (case k4HK => k_asm); (case k5HK => k_asm); (case kKHK => first | exact rfl | assumption); (case ddHK => assumption); (case kpHK => assumption); (case taHK => assumption); (case tbHK => assumption); (case tcHK => assumption); (case kpnHK => k_extra "my sub"); (case tnHK => k_extra "my sub"); (case dtHK => k_mem); (case dsHK => assumption); (case k13HK => ktr_room); (case k14HK => ktr_units); k_whole; intro r' tl' h' tk' F' N' hlt' ht'; (try dsimp only [List.cons_append, List.nil_append] at N'); (try simp only [List.append_assoc, List.cons_append, List.nil_append] at N')))
  k_with "my call" => ((k_here; (with_reducible show wpAny _ _ (call (Value.ref 195) _) _ _ _); k_dflt (refine' ones_n ?k1HL ?k2HL ?k3HL ?k4HL ?k5HL ?kKHL ?kiHL ?knHL ?ksHL ?kdHL ?keHL ?kxHL ?kyHL ?kzHL ?koHL ?k13HL ?k14HL ?_); (case k1HL => k_asm); (case k2HL => k_asm); (case k3HL => k_asm); (case k4HL => k_asm); (case k5HL => k_asm); (case kKHL => first | exact rfl | assumption); (case kiHL => exact TmIn.mono (by assumption) (by k_extra "my sub")); (case knHL => assumption); (case ksHL => assumption); (case kdHL => assumption); (case keHL => k_mem); (case kxHL => assumption); (case kyHL => assumption); (case kzHL => assumption); (case koHL => assumption); (case k13HL => ktr_room); (case k14HL => ktr_units); k_whole; intro t1' h' tk' F' N'))
  k_with "my call" => ((k_here; (with_reducible show wpAny _ _ (call (Value.ref 164) _) _ _ _); k_dflt (refine' val_n ?k1HM ?k2HM ?k3HM ?k4HM ?k5HM ?kKHM ?kiHM ?knHM ?ktHM ?kdHM ?keHM ?kxHM ?kyHM ?kzHM ?knaHM ?kndHM ?koHM ?k13HM ?k14HM ?_); (case k1HM => k_asm); (case k2HM => k_asm); (case k3HM => k_asm); (case k4HM => k_asm); (case k5HM => k_asm); (case kKHM => first | exact rfl | assumption); (case kiHM => exact TmIn.mono (by assumption) (by k_extra "my sub")); (case knHM => assumption); (case ktHM => assumption); (case kdHM => assumption); (case keHM => k_mem); (case kxHM => assumption); (case kyHM => assumption); (case kzHM => assumption); (case knaHM => k_mem); (case kndHM => k_mem); (case koHM => assumption); (case k13HM => ktr_room); (case k14HM => ktr_units); k_whole; intro t1' h' tk' F' N'))
  trivial
theorem ne_lt {x a : Addr} {o : Obj} {l : List (Addr × Obj)} (h : ∀ p ∈ l, p.1 < x) (hm : (a, o) ∈ l) : @Ne Nat a x := Nat.ne_of_lt (h _ hm)
theorem all_ne_lt {x : Addr} {l B : List (Addr × Obj)} (h : ∀ p ∈ l, p.1 < x) (hs : ∀ p ∈ B, p ∈ l) : ∀ p ∈ B, p.1 ≠ x := fun p hp => Nat.ne_of_lt (h p (hs p hp))
theorem lt_up {l : List (Addr × Obj)} {a b : Addr} (h : ∀ p ∈ l, p.1 < a) (h2 : a < b) : ∀ p ∈ l, p.1 < b := fun p hp => Nat.lt_trans (h p hp) h2
theorem ev_ok3 {a b c : Nat} (h1 : a ≤ 3) (h2 : b ≤ 3) (h3 : c ≤ 2) : Ev.ok ⟨a, b, c⟩ := ⟨h1, h2, h3⟩
theorem w90a : True := by
  k_with "my ok" => (first | exact ev_ok3 (le3i (by assumption)) (le3i (by assumption)) (le2i (by assumption)) | exact ev_ok3 (by omega) (by omega) (by omega))
  trivial
theorem max0 {prog : Program} {w : World} {A : Around} {E : Value → Shared → Prop} {s : Shared} {h₀ : Heap} {L : Addr} {m : Str → Option Value} {news : List (Addr × Obj)} {b : Int} {t u : Tok} {Q : Value → Shared → Prop} (hh : A.handled = none) (F : Fr h₀ L s.heap m) (N : News h₀ L s.heap news) (hb : b ≤ 1000000)
    (h : ∀ h' tk (M : Nat) t', M ≤ 1000000 → Fr h₀ L h' m → News h₀ L h' news → Q (.int (M : Int) t') { s with heap := h', toks := tk }) :
    wpAny (model prog w) A (call (.builtin "max") [.int 0 t, .int b u]) Q E s :=
  max_two_N hh F N fun h' tk F' N' => by
    by_cases c : b > 0
    · obtain ⟨n, rfl⟩ := Int.eq_ofNat_of_zero_le (Int.le_of_lt c)
      rw [if_pos c, if_pos c]
      exact h h' tk n u (Int.ofNat_le.mp hb) F' N'
    · rw [if_neg c, if_neg c]
      exact h h' tk 0 t (Nat.zero_le _) F' N'
theorem menu_le {a b : Nat} {n : Nat} (ha : a ≤ 6561) (hb : b ≤ 6561) : [(a : Int), (a : Int) - 1, (b : Int), 40].getD n 0 ≤ 1000000 := by
  match n with
  | 0 => exact j4 ha (by decide)
  | 1 => exact Int.le_trans (Int.sub_le_self _ (by decide)) (j4 ha (by decide))
  | 2 => exact j4 hb (by decide)
  | 3 => exact (by decide : (40 : Int) ≤ 1000000)
  | n + 4 => exact (by decide : (0 : Int) ≤ 1000000)
def CutEnd (h₀ : Heap) (L : Addr) (m : Str → Option Value) (news : List (Addr × Obj)) (s : Shared) (f : Flow) (s' : Shared) : Prop := f = .next ∧ ∃ h' tk', s' = { s with heap := h', toks := tk' } ∧ Fr h₀ L h' m ∧ News h₀ L h' news
theorem CutEnd.intro {h₀ : Heap} {L : Addr} {m : Str → Option Value} {news all : List (Addr × Obj)} {s : Shared} {h' : Heap} {tk' : Nat} (F : Fr h₀ L h' m) (N : News h₀ L h' all) (hs : ∀ p ∈ news, p ∈ all) : CutEnd h₀ L m news s .next { s with heap := h', toks := tk' } := ⟨rfl, h', tk', rfl, F, fun p hp => N p (hs p hp)⟩
theorem cut_next {M : Model} {A : Around} {E : Value → Shared → Prop} {s : Shared} {h₀ : Heap} {L : Addr} {m : Str → Option Value} {news : List (Addr × Obj)} {st : Stmt} {rest : List Stmt} {env : Env} {Q : Flow → Shared → Prop} (_ : Fr h₀ L s.heap m) (_ : News h₀ L s.heap news)
    (h1 : wpAny M A (exec st env) (CutEnd h₀ L m news s) E s) (h2 : ∀ h' tk', Fr h₀ L h' m → News h₀ L h' news → wpAny M A (execs rest env) Q E { s with heap := h', toks := tk' }) : wpAny M A (execs (st :: rest) env) Q E s := by
  refine wpAny_execs_cons (wpAny_mono h1 (fun f s' h => ?_) fun _ _ e => e)
  obtain ⟨rfl, h', tk', rfl, F', N'⟩ := h
  exact h2 h' tk' F' N'
theorem w90b : True := by
  k_with "my take" => ((k_here; (with_reducible show wpAny _ _ (call (Value.ref 185) [Value.ref _, Value.int _ _]) _ _ _); k_dflt (refine' take_use ?k1HS ?k2HS ?k3HS ?k4HS ?k5HS ?kKHS ?k6HS ?k7HS ?k8HS ?k9HS ?k10HS ?k12HS ?k13HS ?k14HS ?k15HS ?k16HS ?k17HS ?_; (case k1HS => k_asm); (case k2HS => k_asm); (case k3HS => k_asm); (case k4HS => k_asm); (case k5HS => k_asm); (case kKHS => first | exact rfl | assumption); (case k6HS => k_mem); (case k7HS => k_mem); (case k8HS => k_ne); (case k9HS => assumption); (case k10HS => (simp only [List.length_map, List.length_take]; first | exact Nat.min_le_left _ _ | omega)); (case k12HS => omega); (case k13HS => omega); (case k14HS => omega); (case k15HS => omega); (case k16HS => ktr_room); (case k17HS => ktr_units); k_whole); intro r' h' t1' t2' tk' F' HN' r0' r1'; obtain N' := HN' _ (by k_upd); clear HN'; obtain ⟨rn', hrn'⟩ := Int.eq_ofNat_of_zero_le r0'; subst hrn'; (try k_sweep)))
  k_with "my term" => ((k_here; (with_reducible show wpAny _ _ (call (Value.ref 190) [Value.ref _, Value.int _ _, Value.ref _]) _ _ _); k_dflt (first
      | (refine' term_all 3 ?k1HT ?k2HT ?k3HT ?k4HT ?k5HT ?kKHT ?k6HT ?k7HT ?k71HT ?k8HT ?k81HT ?k9HT ?k10HT ?k12HT ?k13HT ?k14HT ?k16HT ?k17HT ?_; (case k14HT => exact rfl))
      | (refine' term_all 1 ?k1HT ?k2HT ?k3HT ?k4HT ?k5HT ?kKHT ?k6HT ?k7HT ?k71HT ?k8HT ?k81HT ?k9HT ?k10HT ?k12HT ?k13HT ?k14HT ?k16HT ?k17HT ?_; (case k14HT => exact rfl))); (case k1HT => k_asm); (case k2HT => k_asm); (case k3HT => k_asm); (case k4HT => k_asm); (case k5HT => k_asm); (case kKHT => first | exact rfl | assumption); (case k6HT => k_mem); (case k7HT => k_mem); (case k71HT => k_mem); (case k8HT => k_ne); (case k81HT => k_ne); (case k9HT => assumption); (case k10HT => (simp only [List.length_map, List.length_take]; first | exact Nat.min_le_left _ _ | omega)); (case k12HT => omega); (case k13HT => first | (show _ + ((15 : Nat) : Int) < 900; omega) | (show _ + ((3 : Nat) : Int) < 900; omega)); (case k16HT => ktr_room); (case k17HT => ktr_units); k_whole; intro v' t' tl' k' t1' h' tk' F' HN' htl' hnl' ht' hd' hk0' hk1'; obtain N' := HN' _ (by k_upd); clear HN'; (first | replace hk1' : _ ≤ _ + ((15 : Nat) : Int) := hk1' | replace hk1' : _ ≤ _ + ((3 : Nat) : Int) := hk1'); (try dsimp only [List.cons_append, List.nil_append] at N'); (try simp only [List.append_assoc, List.cons_append, List.nil_append] at N'); (try k_sweep)))
  k_with "my ones" => ((k_here; (with_reducible show wpAny _ _ (call (Value.ref 195) [_, _]) _ _ _); (refine toks_up ?_); k_dflt (refine' ones_all (e := ⟨_, _, _⟩) _ ?k1HU ?k2HU ?k3HU ?k4HU ?k5HU ?kKHU ?k6HU ?k7HU ?k8HU ?k9HU ?k10HU ?k11HU ?k12HU ?k125HU ?k13HU ?k14HU ?_; (case k1HU => k_asm); (case k2HU => k_asm); (case k3HU => k_asm); (case k4HU => k_asm); (case k5HU => k_asm); (case kKHU => first | exact rfl | assumption); (case k6HU => first | assumption | exact TmIn.mono (by assumption) (by k_extra "my sub")); (case k7HU => k_mem); (case k8HU => assumption); (case k9HU => assumption); (case k10HU => assumption); (case k11HU => k_extra "my ok"); (case k12HU => exact Tm.small_of (by k_extra "my ok") _ (by assumption)); (case k125HU => k_extra "my dep"); (case k13HU => ktr_room); (case k14HU => ktr_units); k_whole); intro t1' h' tk' ht0' ht1' F' N' hle'; (try dsimp only at hle'); (try k_sweep)))
  k_with "my great" => ((k_here; (with_reducible show wpAny _ _ (call (Value.ref 200) [_, _]) _ _ _); k_dflt (refine' great_all (e := ⟨_, _, _⟩) _ ?k1HV ?k2HV ?k3HV ?k4HV ?k5HV ?kKHV ?k6HV ?k7HV ?k8HV ?k9HV ?k10HV ?k11HV ?k12HV ?k125HV ?k13HV ?k14HV ?_; (case k1HV => k_asm); (case k2HV => k_asm); (case k3HV => k_asm); (case k4HV => k_asm); (case k5HV => k_asm); (case kKHV => first | exact rfl | assumption); (case k6HV => first | assumption | exact TmIn.mono (by assumption) (by k_extra "my sub")); (case k7HV => k_mem); (case k8HV => assumption); (case k9HV => assumption); (case k10HV => assumption); (case k11HV => k_extra "my ok"); (case k12HV => exact Tm.small_of (by k_extra "my ok") _ (by assumption)); (case k125HV => k_extra "my dep"); (case k13HV => ktr_room); (case k14HV => ktr_units); k_whole); intro t1' h' tk' F' N'; (try k_sweep)))
  k_with "call builtin:max" => ((k_here; (with_reducible show wpAny _ _ (call (Value.builtin "max") [Value.int 0 _, Value.int _ _]) _ _ _); k_dflt (refine' max0 ?hHW ?FHW ?NHW ?bHW ?_; (case hHW => exact rfl); (case FHW => k_asm); (case NHW => k_asm); (case bHW => exact menu_le (Tm.top_le (by k_extra "my ok") _ (by assumption)) (Tm.val3 (by k_extra "my ok") (by assumption))); k_whole); intro h' tk' M' t' hM' F' N'; (try dsimp only)))
  k_with "execs cons" => ((k_here; (with_reducible show wpAny _ _ (execs (Stmt.If (Expr.Compare (Expr.Call _ _ _ _) [CmpOp.NotEq] _ _) _ _ _ :: _) _) _ _ _); k_dflt (refine' cut_next ?FHX ?NHX ?_ ?_; (case FHX => k_asm); (case NHX => k_asm)); rotate_left; (intro h' tk' F' N'; (try dsimp only)); rotate_left))
  k_with "CutEnd" => ((k_here; (exact CutEnd.intro (by assumption) (by assumption) (by k_extra "my sub"))))
  k_with "my nat" => ((k_here; (with_reducible show wpAny _ _ (call (Value.ref 167) [_]) _ _ _); k_dflt (refine' nat_make ?k1HZ ?k2HZ ?k3HZ ?k4HZ ?k5HZ ?kKHZ ?kiHZ ?k13HZ ?k14HZ ?_; (case k1HZ => k_asm); (case k2HZ => k_asm); (case k3HZ => k_asm); (case k4HZ => k_asm); (case k5HZ => k_asm); (case kKHZ => first | exact rfl | assumption); (case kiHZ => first | exact (rfl : (10 : Int) ^ Int.toNat 6 = ((1000000 : Nat) : Int)) | exact rfl); (case k13HZ => ktr_room); (case k14HZ => ktr_units); k_whole); intro na' nd' t1' t2' h' tk' F' N' l1' l2'; have l3' := lt_up l1' l2'; (try k_sweep)))
  k_with "my told" => ((k_here; (with_reducible show wpAny _ _ (call (Value.ref 212) [_, _, _]) _ _ _); k_dflt (refine' told_tm (e := ⟨_, _, _⟩) ?keIA ?kmIA _ ?k1IA ?k2IA ?k3IA ?k4IA ?k5IA ?kXBIA ?kTBIA ?kKIA ?k6IA ?k7IA ?k8IA ?k9IA ?k10IA ?k11IA ?k12IA ?k125IA ?k13IA ?k14IA ?_ ?_; (case k1IA => k_asm); (case k2IA => k_asm); (case k3IA => k_asm); (case k4IA => k_asm); (case k5IA => k_asm); (case kXBIA => assumption); (case kTBIA => assumption); (case kKIA => first | exact rfl | assumption); (case k6IA => exact TmIn.mono (by assumption) (by k_extra "my sub")); (case k7IA => k_mem); (case k8IA => assumption); (case k9IA => assumption); (case k10IA => assumption); (case k11IA => k_mem); (case k12IA => k_mem); (case keIA => k_extra "my ok"); (case kmIA => assumption); (case k125IA => k_extra "my dep"); (case k13IA => ktr_room); (case k14IA => ktr_units)); rotate_left; (intro h' tk' ho' F' N'; obtain hlt' := Tm.ev_none ho'; (try dsimp only)); rotate_left; (intro n' t1' h' tk' ho' F' N'; obtain ⟨hle', hval'⟩ := Tm.ev_some ho'; subst hval'; (try dsimp only))))
  k_with "my right" => ((k_here; (with_reducible show wpAny _ _ (call (Value.ref 217) [_, _, _, _]) _ _ _); k_dflt (refine' right_make (e := ⟨_, _, _⟩) ?k1IB ?k2IB ?k3IB ?k4IB ?k5IB ?kKIB ?kiIB ?kidIB ?taIB ?tbIB ?tcIB ?daIB ?dbIB ?dcIB ?dtIB ?dsIB ?ddIB ?enIB ?esIB ?edIB ?efIB ?naIB ?ndIB ?okIB ?k13IB ?k14IB ?_; (case k1IB => k_asm); (case k2IB => k_asm); (case k3IB => k_asm); (case k4IB => k_asm); (case k5IB => k_asm); (case kKIB => first | exact rfl | assumption); (case ddIB => assumption); (case kiIB => exact TmIn.mono (by assumption) (by k_extra "my sub")); (case kidIB => assumption); (case taIB => exact TmIn.mono (by assumption) (by k_extra "my sub")); (case tbIB => exact TmIn.mono (by assumption) (by k_extra "my sub")); (case tcIB => exact TmIn.mono (by assumption) (by k_extra "my sub")); (case daIB => assumption); (case dbIB => assumption); (case dcIB => assumption); (case dtIB => k_mem); (case dsIB => assumption); (case edIB => assumption); (case enIB => k_mem); (case esIB => assumption); (case efIB => assumption); (case naIB => k_mem); (case ndIB => k_mem); (case okIB => k_extra "my ok"); (case k13IB => ktr_room); (case k14IB => ktr_units); k_whole); intro h' tk' dr' F' N'))
  k_with "my call" => (first | k_extra "my bad" | k_extra "my right" | k_extra "my told" | k_extra "my nat" | k_extra "my take" | k_extra "my term" | k_extra "my ones" | k_extra "my great")
  k_with "call builtin:len" => ((k_here; (with_reducible show wpAny _ _ (call (Value.builtin "len") [Value.str (ones _) _]) _ _ _); refine len_ones (Nat.le_trans (Tm.val3 (by k_extra "my ok") (by assumption)) (by decide)) ?_))
  k_with "my nocall" => (first | (with_reducible show wpAny _ _ (call (Value.ref 167) _) _ _ _) | (with_reducible show wpAny _ _ (call (Value.ref 185) _) _ _ _) | (with_reducible show wpAny _ _ (call (Value.ref 190) _) _ _ _) | (with_reducible show wpAny _ _ (call (Value.ref 195) _) _ _ _) | (with_reducible show wpAny _ _ (call (Value.ref 200) _) _ _ _) | (with_reducible show wpAny _ _ (call (Value.ref 212) _) _ _ _) | (with_reducible show wpAny _ _ (call (Value.ref 217) _) _ _ _))
  k_with "my k_ne" => ((first | assumption | exact ne_all (by assumption) (by k_mem) | exact ne_gt (by assumption) (by k_mem) | exact ne_lt (by assumption) (by k_mem) | omega | (intro h9; omega)))
  trivial
theorem ne_all {x a : Addr} {o : Obj} {l : List (Addr × Obj)} (h : ∀ p ∈ l, p.1 ≠ a) (hm : (x, o) ∈ l) : @Ne Nat x a := h _ hm
theorem w90c : True := by
  k_with "my k_mem" => (first | ((change (_ : Addr × Obj) ∈ (_ : List (Addr × Obj))); with_reducible assumption) | ((with_reducible change (_ : Addr × Obj) ∈ (_ ++ _ : List (Addr × Obj))); first | (refine List.mem_append_left _ ?_; k_mem) | (refine List.mem_append_right _ ?_; k_mem)) | ((with_reducible change List.Mem (_ : Addr × Obj) (_ ++ _ : List (Addr × Obj))); first | (refine List.mem_append_left _ ?_; k_mem) | (refine List.mem_append_right _ ?_; k_mem)))
  k_with "my k_all" => (first | assumption | (refine' ne_of_lt_all (by assumption) ?hm9IH; (case hm9IH => k_mem)) | (refine List.forall_mem_append.mpr ⟨?_, ?_⟩ <;> k_all))
  k_with "eval Dict nil nil" => ((k_here; k_dflt (refine' newDict_K ?k1II ?k2II ?k3II ?_; (case k1II => k_asm); (case k2II => k_asm); (case k3II => exact TopRead.nolimit (by k_asm)); k_whole); intro d' h' o' F' N' l1 lo' hs' fs' hi' fi'; (first | (rename KMark _ _ => hK9II) | ((try k_lt l1); (try k_sweep)))))
  k_with "execs cons" => ((k_here; (with_reducible show wpAny _ _ (execs (Stmt.Assign [Expr.Tuple (Expr.Name (Str.ofString "numbers") _ :: _) _ _] _ _ :: _) _) _ _ _); refine Stop.use ?_))
  trivial
section
variable {prog : Program} {w : World} {A : Around} {E : Value → Shared → Prop} {s : Shared} {env : Env} {h₀ : Heap} {x : Str} {px : Pos} {body : List Stmt} {Q : Flow → Shared → Prop}
abbrev callMap (cv : Option Value) (m0 : Str → Option Value) : Str → Option Value := fun y => if y = Str.ofString "call" then cv else m0 y
theorem callMap_self (m0 : Str → Option Value) : callMap (m0 (Str.ofString "call")) m0 = m0 := by
  funext y
  simp only [callMap]
  by_cases h : y = Str.ofString "call"
  · rw [if_pos h, h]
  · rw [if_neg h]
theorem callMap_again {a b : Option Value} {m0 : Str → Option Value} : (fun y => if y = Str.ofString "call" then a else callMap b m0 y) = callMap a m0 := by
  funext y
  by_cases h : y = Str.ofString "call"
  · simp only [callMap, if_pos h]
  · simp only [callMap, if_neg h]
def TurnT (prog : Program) (w : World) (h₀ : Heap) (L : Addr) (m0 : Str → Option Value) (s : Shared) (ls lc dt : Addr) (k : Int) (kv : List (Str × Value)) (key : Str) (o : Obj) (B : List (Addr × Obj)) (f : Flow) (s₂ : Shared) : Prop :=
  f = .next ∧ ∃ h' tk' cv k' t1 o' tl v t, s₂ = { s with heap := h', toks := tk' } ∧ Fr h₀ L h' (callMap cv m0) ∧ News h₀ L h' ((ls, stockObj lc k' t1 0) :: (dt, o') :: (B ++ tl)) ∧ (∀ q ∈ (ls, o) :: (dt, o) :: B, ∀ p ∈ tl, q.1 < p.1) ∧
    o'.IsDictOf (PySem.strKind prog w) (stored kv key v) ∧ TmIn tl v t ∧ t.depth ≤ 1 ∧ 0 ≤ k' ∧ k' ≤ k + 3
def CallTurn (prog : Program) (w : World) (A : Around) (E : Value → Shared → Prop) (s : Shared) (env : Env) (h₀ : Heap) (x : Str) (px : Pos) (body : List Stmt) (m0 : Str → Option Value) (ls lc dt : Addr) (rest : List (Addr × Obj)) : Prop :=
  ∀ B key tkk k tk o kv cv h tk', (∀ p ∈ rest, p ∈ B) → (∀ p ∈ B, p.1 ≠ ls) → (∀ p ∈ B, p.1 ≠ dt) → o.IsDictOf (PySem.strKind prog w) kv → kv.length ≤ 10 → 0 ≤ k → k < 880 → Fr h₀ env.locals h (callMap cv m0) → News h₀ env.locals h ((ls, stockObj lc k tk 0) :: (dt, o) :: B) →
    wpAny (model prog w) A (assign (.Name x px) env (.str key tkk)) (fun _ s₂ => wpAny (model prog w) A (execs body env) (TurnT prog w h₀ env.locals m0 { s with heap := h, toks := tk' } ls lc dt k kv key o B) E s₂) E { s with heap := h, toks := tk' }
theorem call_step {I D ls lc dt : Addr} {oD o : Obj} {m0 : Str → Option Value} {rest r0 : List (Addr × Obj)} {cv : Option Value} {k : Int} {tk tkk : Tok} {key : Str} {kv : List (Str × Value)} {r : List Value}
    (hr : ∀ p ∈ r0, p ∈ rest) (hI : ∀ p ∈ (D, oD) :: (ls, o) :: (dt, o) :: rest, p.1 ≠ I) (h1 : ∀ p ∈ (D, oD) :: rest, p.1 ≠ ls) (h2 : ∀ p ∈ (D, oD) :: rest, p.1 ≠ dt)
    (hd : o.IsDictOf (PySem.strKind prog w) kv) (hl : kv.length ≤ 10) (hk : 0 ≤ k) (hk2 : k < 880) (turn : CallTurn prog w A E s env h₀ x px body m0 ls lc dt r0)
    (next : ∀ cv k' t1 o' tl v t, (∀ q ∈ (I, oD) :: (ls, o) :: (dt, o) :: (D, oD) :: rest, ∀ p ∈ tl, q.1 < p.1) → o'.IsDictOf (PySem.strKind prog w) (stored kv key v) → TmIn tl v t → t.depth ≤ 1 → 0 ≤ k' → k' ≤ k + 3 →
      TurnsOf prog w A E h₀ env (.Name x px) body Q s [I] (D, oD) (valItems r) (callMap cv m0) ((D, oD) :: (ls, stockObj lc k' t1 0) :: (dt, o') :: (rest ++ tl))) :
    TurnsOf prog w A E h₀ env (.Name x px) body Q s [I] (D, oD) (valItems (.str key tkk :: r)) (callMap cv m0) ((D, oD) :: (ls, stockObj lc k tk 0) :: (dt, o) :: rest) := by
  refine TurnsOf.val fun h tk0 oI F N off => ?_
  refine wpAny_mono (turn ((I, oI) :: (D, oD) :: rest) key tkk k tk o kv cv h tk0 (fun p hp => .tail _ (.tail _ (hr p hp))) (fun p hp => ?_) (fun p hp => ?_) hd hl hk hk2 F (fun p hp => N p ?_)) (fun _ s₂ h₂ => wpAny_mono h₂ (fun f s₃ h₃ => ?_) fun _ _ e => e) fun _ _ e => e
  · rcases List.mem_cons.mp hp with rfl | hp
    · exact fun e => hI _ (.tail _ (.head _)) e.symm
    · exact h1 p hp
  · rcases List.mem_cons.mp hp with rfl | hp
    · exact fun e => hI _ (.tail _ (.tail _ (.head _))) e.symm
    · exact h2 p hp
  · simp only [List.mem_cons] at hp ⊢
    rcases hp with h | h | h | h | h <;> simp [h]
  obtain ⟨rfl, h', tk', cv', k', t1, o', tl, v, t, rfl, F', N', hlt, hd', hv, hvd, hk0, hk1⟩ := h₃
  refine ⟨h', tk', _, (D, oD) :: (ls, stockObj lc k' t1 0) :: (dt, o') :: (rest ++ tl), rfl, F', fun p hp => N' p ?_, fun p hp hw => ?_, .head _, next cv' k' t1 o' tl v t (fun q hq p hp => ?_) hd' hv hvd hk0 hk1⟩
  · simp only [List.mem_cons, List.mem_append, List.cons_append, List.nil_append] at hp ⊢
    rcases hp with h | h | h | h | h | h <;> simp [h]
  · rw [List.mem_singleton] at hw
    rcases List.mem_cons.mp hp with rfl | hp
    · exact hI _ (.head _) hw
    rcases List.mem_cons.mp hp with rfl | hp
    · exact hI _ (.tail _ (.head _)) hw
    rcases List.mem_cons.mp hp with rfl | hp
    · exact hI _ (.tail _ (.tail _ (.head _))) hw
    rcases List.mem_append.mp hp with hp | hp
    · exact hI _ (.tail _ (.tail _ (.tail _ hp))) hw
    · exact Nat.ne_of_gt (hlt (I, oI) (.tail _ (.tail _ (.head _))) p hp) hw
  · rcases List.mem_cons.mp hq with rfl | hq
    · exact hlt (I, oI) (.tail _ (.tail _ (.head _))) p hp
    rcases List.mem_cons.mp hq with rfl | hq
    · exact hlt _ (.head _) p hp
    rcases List.mem_cons.mp hq with rfl | hq
    · exact hlt (dt, o) (.tail _ (.head _)) p hp
    · exact hlt q (.tail _ (.tail _ (.tail _ hq))) p hp
theorem TurnsOf.sub {x : PySem.Expr} {ws : List Addr} {src : Addr × Obj} {xs : List (Value → Heap → Prop)} {m : Str → Option Value} {news news' : List (Addr × Obj)} (hs : ∀ p ∈ news, p ∈ news')
    (H : TurnsOf prog w A E h₀ env x body Q s ws src xs m news) : TurnsOf prog w A E h₀ env x body Q s ws src xs m news' := by
  cases xs with
  | nil => exact fun h tk F N => H h tk F fun p hp => N p (hs p hp)
  | cons P r => exact fun v h tk own hP ho F N off => H v h tk own hP ho F (fun p hp => N p ((List.mem_append.mp hp).elim (List.mem_append_left _) fun h => List.mem_append_right _ (hs p h))) fun p hp => off p (hs p hp)
theorem TurnT.intro {L ls lc dt : Addr} {m0 : Str → Option Value} {k k' : Int} {kv : List (Str × Value)} {key : Str} {o o' ol od : Obj} {B tl l0 : List (Addr × Obj)} {h' : Heap} {tk' : Nat} {a cv : Option Value} {t1 : Tok} {v : Value} {t : Tm}
    (F : Fr h₀ L h' (fun y => if y = Str.ofString "call" then a else callMap cv m0 y)) (N : News h₀ L h' ((ls, stockObj lc k' t1 0) :: (dt, o') :: (B ++ tl))) (hlt : ∀ q ∈ l0, ∀ p ∈ tl, q.1 < p.1) (m1 : (ls, ol) ∈ l0) (m2 : (dt, od) ∈ l0) (m3 : ∀ p ∈ B, p ∈ l0)
    (hd : o'.IsDictOf (PySem.strKind prog w) (stored kv key v)) (ht : TmIn tl v t) (hdp : t.depth ≤ 1) (hk : 0 ≤ k') (hk' : k' ≤ k + 3) : TurnT prog w h₀ L m0 s ls lc dt k kv key o B .next { s with heap := h', toks := tk' } :=
  ⟨rfl, h', tk', a, k', t1, o', tl, v, t, rfl, callMap_again (b := cv) ▸ F, N, fun q hq p hp => by
    rcases List.mem_cons.mp hq with rfl | hq
    · exact hlt _ m1 p hp
    rcases List.mem_cons.mp hq with rfl | hq
    · exact hlt _ m2 p hp
    · exact hlt q (m3 q hq) p hp, hd, ht, hdp, hk, hk'⟩
theorem up_ne {I D ls dt : Addr} {oD oD2 o' o2 ol' : Obj} {r tl : List (Addr × Obj)} (h1 : ∀ p ∈ (D, oD) :: (ls, o2) :: (dt, o2) :: r, p.1 ≠ I) (h2 : ∀ q ∈ (I, oD2) :: (ls, o2) :: (dt, o2) :: (D, oD2) :: r, ∀ p ∈ tl, q.1 < p.1) : ∀ p ∈ (D, oD) :: (ls, ol') :: (dt, o') :: (r ++ tl), p.1 ≠ I := fun p hp => by
  rcases List.mem_cons.mp hp with rfl | hp
  · exact h1 _ (.head _)
  rcases List.mem_cons.mp hp with rfl | hp
  · exact h1 (ls, o2) (.tail _ (.head _))
  rcases List.mem_cons.mp hp with rfl | hp
  · exact h1 (dt, o2) (.tail _ (.tail _ (.head _)))
  rcases List.mem_append.mp hp with hp | hp
  · exact h1 p (.tail _ (.tail _ (.tail _ hp)))
  · exact Nat.ne_of_gt (h2 _ (.head _) p hp)
theorem mem_dict0 {o : Obj} {a : Addr} {l : List (Addr × Obj)} (_ : o.IsDictOf (PySem.strKind prog w) []) (h : (a, o) ∈ l) : (a, o) ∈ l := h
theorem mem3 {a b c : Addr × Obj} {B l : List (Addr × Obj)} (h1 : a ∈ l) (h2 : b ∈ l) (h3 : c ∈ l) (h4 : ∀ p ∈ B, p ∈ l) : ∀ p ∈ a :: b :: c :: B, p ∈ l := fun p hp => by
  rcases List.mem_cons.mp hp with rfl | hp
  · exact h1
  rcases List.mem_cons.mp hp with rfl | hp
  · exact h2
  rcases List.mem_cons.mp hp with rfl | hp
  · exact h3
  · exact h4 p hp
theorem call_start {I D ls lc dt : Addr} {oD o : Obj} {m0 : Str → Option Value} {l rest : List (Addr × Obj)} {k : Int} {tk ta tb tc : Tok}
    (hD : (D, oD) ∈ l) (hls : (ls, stockObj lc k tk 0) ∈ l) (hdt : (dt, o) ∈ l) (hr : ∀ p ∈ rest, p ∈ l) (hI : ∀ p ∈ l, p.1 < I) (h1 : ∀ p ∈ (D, oD) :: rest, p.1 ≠ ls) (h2 : ∀ p ∈ (D, oD) :: rest, p.1 ≠ dt)
    (hd : o.IsDictOf (PySem.strKind prog w) []) (hk : 0 ≤ k) (hk2 : k < 850) (turn : CallTurn prog w A E s env h₀ x px body m0 ls lc dt rest)
    (fin : ∀ cv o' tl va vb vc tA tB tC h tk, (∀ q ∈ (D, oD) :: rest, ∀ p ∈ tl, q.1 < p.1) → o'.IsDictOf (PySem.strKind prog w) (tabKV va vb vc) → TmIn tl va tA → TmIn tl vb tB → TmIn tl vc tC → tA.depth ≤ 1 → tB.depth ≤ 1 → tC.depth ≤ 1 →
      Fr h₀ env.locals h (callMap cv m0) → News h₀ env.locals h ((dt, o') :: (rest ++ tl)) → Q .next { s with heap := h, toks := tk }) :
    TurnsOf prog w A E h₀ env (.Name x px) body Q s [I] (D, oD) (valItems [.str (Str.ofString "?a") ta, .str (Str.ofString "?b") tb, .str (Str.ofString "?c") tc]) m0 l := by
  have hI3 : ∀ p ∈ (D, oD) :: (ls, o) :: (dt, o) :: rest, p.1 ≠ I := fun p hp => by
    rcases List.mem_cons.mp hp with rfl | hp
    · exact Nat.ne_of_lt (hI _ hD)
    rcases List.mem_cons.mp hp with rfl | hp
    · exact Nat.ne_of_lt (hI (ls, stockObj lc k tk 0) hls)
    rcases List.mem_cons.mp hp with rfl | hp
    · exact Nat.ne_of_lt (hI _ hdt)
    · exact Nat.ne_of_lt (hI _ (hr p hp))
  refine TurnsOf.sub (news := (D, oD) :: (ls, stockObj lc k tk 0) :: (dt, o) :: rest) (fun p hp => ?_) ?_
  · rcases List.mem_cons.mp hp with rfl | hp
    · exact hD
    rcases List.mem_cons.mp hp with rfl | hp
    · exact hls
    rcases List.mem_cons.mp hp with rfl | hp
    · exact hdt
    · exact hr p hp
  have upl : ∀ {a : Addr} {oa : Obj} {l0 r tl : List (Addr × Obj)}, (∀ p ∈ (D, oD) :: r, p.1 ≠ a) → (∀ q ∈ l0, ∀ p ∈ tl, q.1 < p.1) → (a, oa) ∈ l0 → ∀ p ∈ (D, oD) :: (r ++ tl), p.1 ≠ a := fun h1 h2 hm p hp => by
    rcases List.mem_cons.mp hp with rfl | hp
    · exact h1 _ (.head _)
    rcases List.mem_append.mp hp with hp | hp
    · exact h1 p (.tail _ hp)
    · exact Nat.ne_of_gt (h2 _ hm p hp)
  rw [← callMap_self m0]
  refine call_step (r0 := rest) (fun _ h => h) hI3 h1 h2 hd (Nat.zero_le _) hk (by omega) turn fun cv1 k1 t1 o1 l1 va tA hlt1 hd1 hva hA hk1 hk1' => ?_
  refine call_step (r0 := rest) (fun _ h => List.mem_append_left _ h) (up_ne hI3 hlt1) (upl h1 hlt1 (.tail _ (.head _))) (upl h2 hlt1 (.tail _ (.tail _ (.head _)))) hd1 ?_ hk1 (by omega) turn fun cv2 k2 t2 o2 l2 vb tB hlt2 hd2 hvb hB hk2 hk2' => ?_
  · exact Nat.le_of_ble_eq_true (by with_unfolding_all rfl)
  refine call_step (r0 := rest) (fun _ h => List.mem_append_left _ (List.mem_append_left _ h)) (up_ne (up_ne hI3 hlt1) hlt2) (upl (upl h1 hlt1 (.tail _ (.head _))) hlt2 (.tail _ (.head _))) (upl (upl h2 hlt1 (.tail _ (.tail _ (.head _)))) hlt2 (.tail _ (.tail _ (.head _)))) hd2 ?_ hk2 (by omega) turn fun cv3 k3 t3 o3 l3 vc tC hlt3 hd3 hvc hC hk3 hk3' => ?_
  · exact Nat.le_of_ble_eq_true (by with_unfolding_all rfl)
  intro h tk F N
  refine fin cv3 o3 (l1 ++ (l2 ++ l3)) va vb vc tA tB tC h tk (fun q hq p hp => ?_) hd3 (hva.mono fun p hp => List.mem_append_left _ hp) (hvb.mono fun p hp => List.mem_append_right _ (List.mem_append_left _ hp)) (hvc.mono fun p hp => List.mem_append_right _ (List.mem_append_right _ hp)) hA hB hC F (fun p hp => N p ?_)
  · rcases List.mem_cons.mp hq with rfl | hq
    · rcases List.mem_append.mp hp with hp | hp
      · exact hlt1 (D, oD) (.tail _ (.tail _ (.tail _ (.head _)))) p hp
      rcases List.mem_append.mp hp with hp | hp
      · exact hlt2 (D, oD) (.tail _ (.tail _ (.tail _ (.head _)))) p hp
      · exact hlt3 (D, oD) (.tail _ (.tail _ (.tail _ (.head _)))) p hp
    · rcases List.mem_append.mp hp with hp | hp
      · exact hlt1 q (.tail _ (.tail _ (.tail _ (.tail _ hq)))) p hp
      rcases List.mem_append.mp hp with hp | hp
      · exact hlt2 q (.tail _ (.tail _ (.tail _ (.tail _ (List.mem_append_left _ hq))))) p hp
      · exact hlt3 q (.tail _ (.tail _ (.tail _ (.tail _ (List.mem_append_left _ (List.mem_append_left _ hq)))))) p hp
  · simp only [List.mem_cons, List.mem_append] at hp ⊢
    rcases hp with h | h | h | h | h <;> simp [h]
end
theorem w90d : True := by
  k_with "ite" => ((k_closed; k_dflt (first | refine ite_pos (by decide) ?_ | refine ite_neg (by decide) ?_)))
  k_with "pyIter ref" => ((k_here; k_dflt (refine' tup_turns ?hIL ?FIL ?NIL ?mIL ?_; (case hIL => exact rfl); (case FIL => k_asm); (case NIL => k_asm); (case mIL => k_mem)); intro I' l1; refine Stop.use ?_))
  k_with "exec For Name Tuple cons nil" => ((k_here; (rename Fr _ _ _ _ => lF'IM); k_dflt (refine' For_turns lF'IM ?_ ?hsIM ?hEIM; (case hsIM => intro _; rfl); (case hEIM => first | exact PassesOwn.leaving | passes_own))))
  k_with "newTuple" => (((rename KMark _ _ => hK9IN); k_here; k_dflt (refine' kup_newTuple ?FIN ?NIN ?_ ?zIN; (case FIN => k_asm); (case NIN => k_asm); (case zIN => kmk_size)); intro D' h' F' N' l1))
  k_with "setItem ref str" => ((k_here; k_dflt (refine' kda_set (knd := PySem.strKind _ _) ?FIO ?NIO ?UIO ?dIO (strKind_is _ _ _ _) ?zIO ?_; (case FIO => k_asm); (case NIO => k_asm); (case UIO => k_updF); (case dIO => assumption); (case zIO => (rw [sizeLine_eq]; omega))); intro h' o' F' N' hd'))
  trivial
def BadTold (w : World) (e : Ev) (l : List (Addr × Obj)) (v : Value) : Prop := ∃ R d, ToldSpec w R none 1000000 e d ∧ R l v ∧ (∀ l l' v, R l v → (∀ p ∈ l, p ∈ l') → R l' v) ∧ d ≤ 31
theorem BadTold.mono {w : World} {e : Ev} {l l' : List (Addr × Obj)} {v : Value} (h : BadTold w e l v) (hs : ∀ p ∈ l, p ∈ l') : BadTold w e l' v := by
  obtain ⟨R, d, h1, h2, h3, h4⟩ := h
  exact ⟨R, d, h1, h3 _ _ _ h2 hs, h3, h4⟩
theorem BadL.mono' {op : Str} : ∀ l l' v, BadL op l v → (∀ p ∈ l, p ∈ l') → BadL op l' v := by
  rintro l l' v ⟨a, tk, e, rfl, h⟩ hs
  exact ⟨a, tk, e, rfl, hs _ h⟩
theorem Bad1.mono' {op : Str} : ∀ l l' v, Bad1 op l v → (∀ p ∈ l, p ∈ l') → Bad1 op l' v := by
  rintro l l' v ⟨a, tk, e, u, t, rfl, h, h2, h3⟩ hs
  exact ⟨a, tk, e, u, t, rfl, hs _ h, h2.mono hs, h3⟩
theorem Bad2.mono' {op : Str} : ∀ l l' v, Bad2 op l v → (∀ p ∈ l, p ∈ l') → Bad2 op l' v := by
  rintro l l' v ⟨a, tk, e, u, t, u2, r, rfl, h, h2, h3, h4, h5⟩ hs
  exact ⟨a, tk, e, u, t, u2, r, rfl, hs _ h, h2.mono hs, h3, h4.mono hs, h5⟩
theorem bad_leaf {w : World} {e : Ev} {op : Str} {l : List (Addr × Obj)} {a : Addr} {tk : Tok} {n : Nat} (hop : PyData.canLay0 (.str op) = true) (hol : op.length ≤ 10) (hoz : (op == Str.ofString "zero") = false) (hk1 : PyData.canLay0 (.tuple [.str op, .int 1]) = true) (hk2 : (!opsD.any fun y => PyData.eqv y (.tuple [.str op, .int 1])) = true)
    (hno0 : ∀ t1 t2 t3 t4 t5 t6, (Spec.lookup (PyData.str op) (strData (envKV e t1 t2 t3 t4 t5 t6))).isSome = false) (h : (a, tupObj #[.str op tk] n) ∈ l) : BadTold w e l (.ref a) :=
  ⟨_, 0, told_of (val_badl hop hol hoz hk1 hk2 hno0) BadL.mono', ⟨a, tk, n, rfl, h⟩, BadL.mono', by decide⟩
theorem bad_one {w : World} {e : Ev} {op : Str} {l : List (Addr × Obj)} {a : Addr} {tk : Tok} {n : Nat} {u : Value} {t : Tm} (hop : PyData.canLay0 (.str op) = true) (hol : op.length ≤ 10) (hk1 : PyData.canLay0 (.tuple [.str op, .int 2]) = true) (hk2 : (!opsD.any fun y => PyData.eqv y (.tuple [.str op, .int 2])) = true)
    (h : (a, tupObj #[.str op tk, u] n) ∈ l) (hu : TmIn l u t) (ht : t.depth ≤ 3) : BadTold w e l (.ref a) :=
  ⟨_, 0, told_of (val_bad1 hop hol hk1 hk2) Bad1.mono', ⟨a, tk, n, u, t, rfl, h, hu, Nat.le_trans ht (by decide)⟩, Bad1.mono', by decide⟩
theorem bad_two {w : World} {e : Ev} {op : Str} {l : List (Addr × Obj)} {a : Addr} {tk : Tok} {n : Nat} {u : Value} {t : Tm} (hop : PyData.canLay0 (.str op) = true) (hol : op.length ≤ 10) (hk1 : PyData.canLay0 (.tuple [.str op, .int 3]) = true) (hk2 : (!opsD.any fun y => PyData.eqv y (.tuple [.str op, .int 3])) = true)
    (h : (a, tupObj #[.str op tk, u, u] n) ∈ l) (hu : TmIn l u t) (ht : t.depth ≤ 3) : BadTold w e l (.ref a) :=
  ⟨_, 0, told_of (val_bad2 hop hol hk1 hk2) Bad2.mono', ⟨a, tk, n, u, t, u, t, rfl, h, hu, Nat.le_trans ht (by decide), hu, Nat.le_trans ht (by decide)⟩, Bad2.mono', by decide⟩
theorem no_w {e : Ev} {t1 t2 t3 t4 t5 t6 : Tok} : (Spec.lookup (PyData.str (Str.ofString "w")) (strData (envKV e t1 t2 t3 t4 t5 t6))).isSome = false := by with_unfolding_all rfl
theorem no_plus {e : Ev} {t1 t2 t3 t4 t5 t6 : Tok} : (Spec.lookup (PyData.str (Str.ofString "plus")) (strData (envKV e t1 t2 t3 t4 t5 t6))).isSome = false := by with_unfolding_all rfl
theorem TimesW.mono' {op : Str} : ∀ l l' v, TimesW op l v → (∀ p ∈ l, p ∈ l') → TimesW op l' v := by
  rintro l l' v ⟨a, tk, e, u, t, b, tk2, e2, rfl, h, h2, h3, h4⟩ hs
  exact ⟨a, tk, e, u, t, b, tk2, e2, rfl, hs _ h, h2.mono hs, h3, hs _ h4⟩
theorem bad_times {w : World} {e : Ev} {op : Str} {l : List (Addr × Obj)} {a b : Addr} {tk tk2 : Tok} {n n2 : Nat} {u : Value} {t : Tm} (he : e.ok) (hop : PyData.canLay0 (.str op) = true) (hol : op.length ≤ 10) (hoz : (op == Str.ofString "zero") = false) (hk1 : PyData.canLay0 (.tuple [.str op, .int 1]) = true) (hk2 : (!opsD.any fun y => PyData.eqv y (.tuple [.str op, .int 1])) = true)
    (hno0 : ∀ t1 t2 t3 t4 t5 t6, (Spec.lookup (PyData.str op) (strData (envKV e t1 t2 t3 t4 t5 t6))).isSome = false) (h : (a, tupObj #[.str (Str.ofString "times") tk, u, .ref b] n) ∈ l) (hu : TmIn l u t) (ht : t.depth ≤ 3) (hb : (b, tupObj #[.str op tk2] n2) ∈ l) : BadTold w e l (.ref a) :=
  ⟨_, 31, told_of (val_timesw he (Nat.le_refl _) (val_badl hop hol hoz hk1 hk2 hno0) hop) TimesW.mono', ⟨a, tk, n, u, t, b, tk2, n2, rfl, h, hu, Nat.le_trans ht (by decide), hb⟩, TimesW.mono', Nat.le_refl _⟩
theorem restT_noneV {prog : Program} {w : World} {A : Around} {h₀ : Heap} {L : Addr} {m : Str → Option Value} {env : Env} {s : Shared} {ct elt : PySem.Expr} {x : Str} {scope : Scope} {cl : List (Str × Addr)} {Fin : List Value → List (Addr × Obj) → Prop} {S : List (Addr × Obj) → Prop}
    {vs : List Value} {base : List (Addr × Obj)} {G : Value → Prop} (hG : ∀ y ∈ vs, G y) (hS : S base)
    (step : ∀ y I oI C oC D m₂ h tk (E' : Value → Shared → Prop), G y → LCg.NsObj oC m₂ → m₂ x = some y → Fr h₀ L h m → News h₀ L h ((I, oI) :: (C, oC) :: (D, LCg.lst []) :: base) →
      wpAny (model prog w) A (isTrue ct (compEnvC scope cl C env) (eval ct (compEnvC scope cl C env))) (fun ok s₃ => BoolE false ok True (VarN h₀ L m { s with heap := h, toks := tk } ((I, oI) :: (C, oC) :: (D, LCg.lst []) :: base) s₃)) E' { s with heap := h, toks := tk })
    (fin : Fin [] base) : LCt.CompRestT prog w A h₀ L m env ct elt x scope cl s S (fun i v => vs.toArray[i]? = some v) Fin vs.toArray.size 0 [] base := by
  have main : ∀ k i, LCt.CompRestT prog w A h₀ L m env ct elt x scope cl s S (fun i v => vs.toArray[i]? = some v) Fin k i [] base := by
    intro k
    induction k with
    | zero => intro i; exact fin
    | succ k ih =>
      intro i v I oI C oC D m₂ h tk E' hv hC hx F N off ne
      have hv' : vs[i]? = some v := by simpa using hv
      refine wpAny_mono (step v I oI C oC D m₂ h tk E' (hG v (List.mem_of_getElem? hv')) hC hx F N) (fun ok s₃ h₃ => ?_) fun _ _ e => e
      obtain ⟨rfl, h₃⟩ := h₃
      obtain ⟨h', tk', rfl, F', N'⟩ := (show VarN _ _ _ _ _ _ from h₃)
      simp only [Bool.false_eq_true, if_false]
      exact LCg.CompEnd.intro F' N' base (fun p hp => hp) off hS (ih (i + 1))
  exact main _ 0
theorem w90e : True := by
  k_with "eval ListComp" => ((k_here; (with_reducible show wpAny _ _ (eval (Expr.ListComp _ [⟨Expr.Name _ _, Expr.Name _ _, [_], 0⟩] _ _) _) _ _ _); k_dflt (refine LCt.ListComp_T (F₀ := by k_asm) (by with_unfolding_all rfl) (by decide) (by rfl) (by decide) (by rfl) ?_)))
  k_with "CompSrcT" => ((refine Stop.use ?_))
  k_with "my bad" => ((k_here; (with_reducible show wpAny _ _ (call (Value.ref 212) [_, _, _]) _ _ _); (with_reducible rename ToldSpec _ _ _ _ _ _ => hsp9IR); k_dflt (refine' hsp9IR ?k1IR ?k2IR ?k3IR ?k4IR ?k5IR ?kXBIR ?kTBIR ?kKIR ?k6IR ?k7IR ?k8IR ?k9IR ?k10IR ?k11IR ?k12IR ?k125IR ?k13IR ?k14IR ?ksIR ?_; (case k1IR => k_asm); (case k2IR => k_asm); (case k3IR => k_asm); (case k4IR => k_asm); (case k5IR => k_asm); (case kXBIR => assumption); (case kTBIR => assumption); (case kKIR => first | exact rfl | assumption); (case k6IR => exact hmono9 _ _ _ hR9 (by k_extra "my sub")); (case k7IR => k_mem); (case k8IR => assumption); (case k9IR => assumption); (case k10IR => assumption); (case k11IR => k_mem); (case k12IR => k_mem); (case k125IR => omega); (case k13IR => ktr_room); (case k14IR => ktr_units); (case ksIR => (intro n' t1' h' tk' ho'; cases ho'))); intro h' tk' ho' F' N'))
  trivial
abbrev evOf {prog : Program} {w : World} {o : Obj} {x y z : Nat} {t1 t2 t3 t4 t5 t6 : Tok} (_ : Obj.IsDictOf (PySem.strKind prog w) o (strPairs (envKV ⟨x, y, z⟩ t1 t2 t3 t4 t5 t6))) : Ev := ⟨x, y, z⟩
theorem pack2 {h₀ h : Heap} {L : Addr} {l : List (Addr × Obj)} {a b : Addr} {oa ob : Obj} {P : Prop} (N : News h₀ L h l) (ha : (a, oa) ∈ l) (hb : (b, ob) ∈ l) (hab : @Ne Nat a b)
    (k : ∀ B : List (Addr × Obj), (∀ p ∈ l, p.1 ≠ a → p.1 ≠ b → p ∈ B) → (∀ p ∈ B, p.1 ≠ a) → (∀ p ∈ B, p.1 ≠ b) → @Ne Nat a b → News h₀ L h ((a, oa) :: (b, ob) :: B) → P) : P := by
  classical
  refine k (l.filter fun p => decide (p.1 ≠ a) && decide (p.1 ≠ b)) (fun p hp h1 h2 => List.mem_filter.mpr ⟨hp, by simp [h1, h2]⟩) (fun p hp => ?_) (fun p hp => ?_) hab (fun p hp => ?_)
  · have := (List.mem_filter.mp hp).2; simp at this; exact this.1
  · have := (List.mem_filter.mp hp).2; simp at this; exact this.2
  · rcases List.mem_cons.mp hp with rfl | hp
    · exact N _ ha
    rcases List.mem_cons.mp hp with rfl | hp
    · exact N _ hb
    · exact N _ (List.mem_filter.mp hp).1
theorem mem_env {prog : Program} {w : World} {o : Obj} {x y z : Nat} {t1 t2 t3 t4 t5 t6 : Tok} {a : Addr} {l : List (Addr × Obj)} (_ : Obj.IsDictOf (PySem.strKind prog w) o (strPairs (envKV ⟨x, y, z⟩ t1 t2 t3 t4 t5 t6))) (h : (a, o) ∈ l) : (a, o) ∈ l := h
theorem mem_cell {o : Obj} {v : Option Value} {a : Addr} {l : List (Addr × Obj)} (_ : o.data = .cell v) (h : (a, o) ∈ l) : (a, o) ∈ l := h
theorem law_walk : PySem.Challenge.rw_pq0002_01.Holds := hd (by
  k_go0
  (all_goals try k_fold)
  k_extra "my steps"
  exact absurd rfl (by assumption)
  unfold Stop
  (rename World => w)
  refine pack2 (oa := stockObj _ _ _ _) (b := _ + 1 + 1) (by assumption) (by k_mem) (by k_mem) (by first | k_ne | omega) fun B SB BA BB BN NB => ?_
  have blc : (_, listOf ys.toArray _) ∈ B := SB _ (by k_mem) (by k_ne) (by k_ne)
  have bln : (_, namesObj _ _ _ _ _) ∈ B := SB _ (by k_mem) (by k_ne) (by k_ne)
  have bde : (_, _) ∈ B := SB (_, _) (mem_env (by assumption) (by k_mem)) (by k_ne) (by k_ne)
  have bce : (_ + 1, _) ∈ B := SB (_ + 1, _) (mem_cell (v := some _) (by assumption) (by k_mem)) (by k_ne) (by k_ne)
  have bin : TmIn B _ _ := TmIn.mono (by assumption) fun p hp => SB p (by simp only [List.mem_cons, hp, or_true]) ((by assumption : ∀ p ∈ _, p.1 ≠ _) p hp) (Nat.ne_of_gt ((by assumption : ∀ q ∈ _, ∀ p ∈ _, q.1 < p.1) (_ + 1 + 1, _) (by k_mem) p hp))
  clear SB
  (rename Fr _ _ _ _ => FK)
  revert NB FK
  (repeat (rename News _ _ _ _ => z9; clear z9))
  (repeat (rename Fr _ _ _ _ => z9; clear z9))
  (repeat (rename (_ ∧ _) => z9; clear z9))
  intro NB FK
  have hK : KMark [] True := True.intro
  refine wpAny_execs_cons ?_
  (try dsimp only)
  k_extra "my steps"
  unfold Stop
  refine call_start (rest := (_, instObj 167 _) :: (_, natObj w _ _ _) :: (_ + 1 + 1, _) :: B) (by k_mem) (by k_mem) (mem_dict0 (by assumption) (by k_mem)) (mem3 (by k_mem) (by k_mem) (by k_mem) (by k_extra "my sub")) l1 ?h1 ?h2 (by assumption) ?hk0 ?hk1 ?turn ?fin
  case h1 => (repeat (refine List.forall_mem_cons.mpr ⟨by k_ne, ?_⟩)); first | assumption | exact all_ne_lt (by assumption) (by k_extra "my sub")
  case h2 => (repeat (refine List.forall_mem_cons.mpr ⟨by k_ne, ?_⟩)); first | assumption | exact all_ne_lt (by assumption) (by k_extra "my sub")
  case hk0 => omega
  case hk1 => omega
  case turn =>
    intro B1 key tkk k tk o kv cv h tk1 hsub hls hdt hd hl hk0 hk1 F1 N1
    have hb1 := hsub _ (.tail _ (.tail _ (.tail _ (by exact blc))))
    have hb2 := hsub _ (.tail _ (.tail _ (.tail _ (by exact bln))))
    clear l1
    k_extra "my steps"
    all_goals (exact TurnT.intro (by assumption) (by assumption) (by assumption) (by k_mem) (by k_mem) (by k_extra "my sub") (by assumption) (by assumption) (by assumption) (by omega) (by omega))
  case fin =>
    intro cv o4 tl va vb vc tA tB tC h tk hlt hd4 hva hvb hvc hA hB hC F4 N4
    k_extra "my steps"
    unfold Stop
    refine pack (by assumption : News _ _ _ _) fun B5 SB5 _ NB5 => ?_
    have hB5 : ∀ p ∈ B, p ∈ B5 := fun p hp => SB5 p (by simp only [List.mem_cons, List.mem_append, hp, true_or, or_true])
    have c1 := hB5 _ bce
    have c2 := SB5 (_ + 1 + 1, _) (by k_mem)
    have bde5 := hB5 _ bde
    have bna := SB5 (_, instObj 167 _) (by k_mem)
    have bnd := SB5 (_, natObj w _ _ 1000000) (by k_mem)
    have bli := SB5 (_, listOf #[_, _, _, _, _, _, _] _) (by k_mem)
    have bin5 := bin.mono hB5
    replace NB5 := newsCons (newsCons (newsCons NB5 bli) (.tail _ c2)) (.tail _ (.tail _ c1))
    k_dflt (refine LCt.CompSrcT.ledger (by rfl) (by k_asm) NB5 (by k_mem) (by (rw [sizeLine_eq]; exact Nat.le_of_ble_eq_true rfl)) ?_)
    intro g'
    refine restT_noneV (G := BadTold w (evOf (by assumption)) B5) ?hG (.inr ⟨_, by k_mem, rfl, _, rfl⟩) ?step ?fin2
    case hG =>
      intro y hy
      simp only [List.mem_cons, List.not_mem_nil, or_false] at hy
      rcases hy with rfl | rfl | rfl | rfl | rfl | rfl | rfl
      · exact bad_leaf (op := Str.ofString "w") (by decide +kernel) (by decide +kernel) (by decide +kernel) (by decide +kernel) (by decide +kernel) (fun _ _ _ _ _ _ => no_w) (SB5 _ (by k_mem))
      · exact bad_leaf (op := Str.ofString "plus") (by decide +kernel) (by decide +kernel) (by decide +kernel) (by decide +kernel) (by decide +kernel) (fun _ _ _ _ _ _ => no_plus) (SB5 _ (by k_mem))
      · exact bad_one (op := Str.ofString "zero") (by decide +kernel) (by decide +kernel) (by decide +kernel) (by decide +kernel) (SB5 _ (by k_mem)) bin5 (by assumption)
      · exact bad_two (op := Str.ofString "succ") (by decide +kernel) (by decide +kernel) (by decide +kernel) (by decide +kernel) (SB5 _ (by k_mem)) bin5 (by assumption)
      · exact bad_one (op := Str.ofString "plus") (by decide +kernel) (by decide +kernel) (by decide +kernel) (by decide +kernel) (SB5 _ (by k_mem)) bin5 (by assumption)
      · exact bad_times (op := Str.ofString "w") (by k_extra "my ok") (by decide +kernel) (by decide +kernel) (by decide +kernel) (by decide +kernel) (by decide +kernel) (fun _ _ _ _ _ _ => no_w) (SB5 _ (by k_mem)) bin5 (by assumption) (SB5 _ (by k_mem))
      · exact bad_one (op := Str.ofString "x") (by decide +kernel) (by decide +kernel) (by decide +kernel) (by decide +kernel) (SB5 _ (by k_mem)) bin5 (by assumption)
    case step =>
      intro y I5 oI5 C5 oC5 D5 m5 h5 tk5 E5 hG hC5 hx5 F5 N5
      obtain ⟨R9, d9, hsp, hR9, hmono9, hd31⟩ := hG
      clear SB5
      k_extra "my steps"
      all_goals (exact BoolE.intro (fun h9 => nomatch h9) fun _ => VarN.intro (by assumption) (by assumption) (fun _ h9 => h9))
    case fin2 =>
      intro D5 h5 tk5 F5 N5 off5
      clear SB5
      k_extra "my steps"
      all_goals wrow_close)
end Mine
theorem PySem.Challenge.cw_pq0002_01_holds : PySem.Challenge.rw_pq0002_01.Holds :=
  Mine.law_walk
