import PyProof.Rows.All
import Wide.All
import OpenK.AllK
import Wide.FinOn
import KE.KDictOf
import Lean
import PySem.Challenge.RW_pq0195_01
set_option Elab.async false
set_option maxRecDepth 100000
set_option genSizeOf false
set_option genInjectivity false
set_option linter.all false
set_option tactic.hygienic false
namespace Mine.Internal
section
universe u v w x
variable {α : Type u} {β : Type v} {γ : Type w} {δ : Type x} {P : Prop}
theorem no_none {v : α} (h : (none : Option α) = some v) : P := nomatch h
theorem no_some {v : α} (h : some v = none) : P := nomatch h
theorem no_ff (h : false = true) : P := nomatch h
theorem bnd {o : Option α} {f : α → Option β} {v : β} (h : o.bind f = some v) (k : ∀ x, o = some x → f x = some v → P) : P := match o, h with
  | some x, h => k x rfl h
noncomputable def ob (o : Option α) (f : α → Bool) : Bool := match o with
  | some x => f x
  | none => false
noncomputable def ob2 (o : Option (α × β)) (f : α → β → Bool) : Bool := match o with
  | some (x, y) => f x y
  | none => false
noncomputable def ob3 (o : Option (α × β × γ)) (f : α → β → γ → Bool) : Bool := match o with
  | some (x, y, z) => f x y z
  | none => false
theorem ob_t {o : Option α} {f : α → Bool} (h : ob o f = true) (k : ∀ x, o = some x → f x = true → P) : P := match o, h with
  | some x, h => k x rfl h
theorem ob2_t {o : Option (α × β)} {f : α → β → Bool} (h : ob2 o f = true) (k : ∀ x y, o = some (x, y) → f x y = true → P) : P := match o, h with
  | some (x, y), h => k x y rfl h
theorem ob3_t {o : Option (α × β × γ)} {f : α → β → γ → Bool} (h : ob3 o f = true) (k : ∀ x y z, o = some (x, y, z) → f x y z = true → P) : P := match o, h with
  | some (x, y, z), h => k x y z rfl h
theorem b2 {a b : Bool} (h : (a && b) = true) (k : a = true → b = true → P) : P := match a, b, h with
  | true, true, _ => k rfl rfl
theorem b3 {a b c : Bool} (h : (a && b && c) = true) (k : a = true → b = true → c = true → P) : P := b2 h fun h z => b2 h fun x y => k x y z
theorem b4 {a b c d : Bool} (h : (a && b && c && d) = true) (k : a = true → b = true → c = true → d = true → P) : P := b2 h fun h z => b3 h fun x y t => k x y t z
theorem b5 {a b c d e : Bool} (h : (a && b && c && d && e) = true) (k : a = true → b = true → c = true → d = true → e = true → P) : P := b2 h fun h z => b4 h fun x y t s => k x y t s z
theorem b6 {a b c d e f : Bool} (h : (a && b && c && d && e && f) = true) (k : a = true → b = true → c = true → d = true → e = true → f = true → P) : P := b2 h fun h z => b5 h fun x y t s r => k x y t s r z
theorem b8 {a b c d e f g i : Bool} (h : (a && b && c && d && e && f && g && i) = true) (k : a = true → b = true → c = true → d = true → e = true → f = true → g = true → i = true → P) : P := b2 h fun h z => b2 h fun h z' => b6 h fun x y t s r q => k x y t s r q z' z
theorem ite_s {p : Prop} [Decidable p] {a : Option α} {v : α} (h : (if p then a else none) = some v) (k : p → a = some v → P) : P := if q : p then k q ((if_pos q).symm.trans h) else no_none ((if_neg q).symm.trans h)
theorem ex1 {α : Sort u} {p : α → Prop} (h : ∃ x, p x) (k : ∀ x, p x → P) : P := let ⟨x, y⟩ := h; k x y
theorem ex2 {α : Sort u} {p q : α → Prop} (h : ∃ x, p x ∧ q x) (k : ∀ x, p x → q x → P) : P := let ⟨x, y, z⟩ := h; k x y z
theorem ex3 {α : Sort u} {p q r : α → Prop} (h : ∃ x, p x ∧ q x ∧ r x) (k : ∀ x, p x → q x → r x → P) : P := let ⟨x, y, z, t⟩ := h; k x y z t
theorem an3 {A B C : Prop} (h : A ∧ B ∧ C) (k : A → B → C → P) : P := k h.1 h.2.1 h.2.2
theorem hid {T : Prop} (h : ∀ G : Prop, (T → G) → G) : T := h T fun x => x
theorem ex4 {α : Sort u} {p q r s : α → Prop} (h : ∃ x, p x ∧ q x ∧ r x ∧ s x) (k : ∀ x, p x → q x → r x → s x → P) : P := let ⟨x, y, z, t, u⟩ := h; k x y z t u
noncomputable def bC {α : Type u} (f : α → List α → Bool) (l : List α) : Bool := match l with
  | [] => false
  | a :: r => f a r
@[elab_as_elim] theorem bC_el {α : Type u} {f : α → List α → Bool} {l : List α} {P : List α → Prop} (h : bC f l = true) (k : ∀ a r, f a r = true → P (a :: r)) : P l := match l, h with
  | a :: r, h => k a r h
noncomputable def bN {α : Type u} (l : List α) : Bool := match l with
  | [] => true
  | _ :: _ => false
@[elab_as_elim] theorem bN_el {α : Type u} {l : List α} {P : List α → Prop} (h : bN l = true) (k : P []) : P l := match l, h with
  | [], _ => k
theorem eid {α : Type u} {β : Type v} {E : α → β → Prop} (a : α) (b : β) (h : E a b) : E a b := h
theorem an2 {A B : Prop} (h : A ∧ B) (k : A → B → P) : P := k h.1 h.2
theorem an5 {A B C D E : Prop} (h : A ∧ B ∧ C ∧ D ∧ E) (k : A → B → C → D → E → P) : P := k h.1 h.2.1 h.2.2.1 h.2.2.2.1 h.2.2.2.2
theorem an4 {A B C D : Prop} (h : A ∧ B ∧ C ∧ D) (k : A → B → C → D → P) : P := k h.1 h.2.1 h.2.2.1 h.2.2.2
end
end Mine.Internal
namespace Mine.Internal
inductive PV where
  | none
  | bool (b : Bool)
  | int (i : Int)
  | tup (l : List PV)
  | lst (l : List PV)
  | itr (l : List PV)
inductive BO | add | sub | mul | fdiv | mod | pow
inductive CO | eq | ne | lt | le | gt | ge
inductive Gl | half | r0 | most
inductive Tg | one (i : Nat) | two (i j : Nat)
inductive Fn
  | f_gcd | f_gcd_all | f_rat | f_radd | f_rsub | f_rmul | f_rcompare | f_rfloor | f_ztrim | f_zdegree | f_zlead | f_zadd | f_zneg | f_zsub | f_zscale | f_zraise | f_zcontent | f_zdivided | f_zprimitive | f_zderive | f_check_bottom | f_zexact | f_pseudo | f_zpseudo_rest | f_next_height | f_subresultants | f_zgcd | f_sign_of | f_value_sign | f_sign_at | f_simple_part | f_lessened | f_next_of_row | f_sturm_row | f_changes_at | f_count_by_row | f_root_bound | f_middle | f_linear_of | f_is_inside | f_split_roots | f_halved | f_kept_off | f_sorted_intervals | f_isolate | f_refine | f_tried_roots | f_sorted_roots | f_rational_roots | f_law_lowest | f_law_times
  deriving DecidableEq
inductive PE where
  | bad | non | tru | fls
  | lit (v : Int) | var (i : Nat) | glb (g : Gl)
  | bin (o : BO) (a b : PE) | neg (a : PE)
  | cmp (o : CO) (a b : PE) | notNone (a : PE)
  | and (a b : PE) | or (a b : PE) | ite (c a b : PE)
  | nil | cons (a l : PE) | tup (l : PE) | lst (l : PE)
  | idx (a i : PE) | «from» (a i : PE) | upto (a i : PE)
  | call (f : Fn) (l : PE)
  | abs (a : PE) | len (a : PE) | list (a : PE) | max2 (a b : PE) | maxl (a : PE) | any (a : PE) | isstr (a : PE)
  | rng1 (a : PE) | rng2 (a b : PE) | enum (a : PE) | rev (a : PE)
  | comp (elt : PE) (t : Tg) (it : PE) | compIf (elt : PE) (t : Tg) (it c : PE)
inductive PS where
  | bad | skip | seq (a b : PS)
  | asg (i : Nat) (e : PE) | asgT (is : List Nat) (l : PE) | unp (is : List Nat) (e : PE) | pop (is : List Nat) (i : Nat)
  | seti (i : Nat) (ix e : PE) | aug (i : Nat) (o : BO) (e : PE)
  | app (i : Nat) (e : PE) | ins (i : Nat) (at' e : PE) | exp (e : PE) | ret (e : PE)
  | ife (c : PE) (t e : PS) | whl (c : PE) (b : PS) | forr (t : Tg) (it : PE) (b : PS) | forI (t : Tg) (items : List PV) (b : PS)
open Fn
noncomputable def b_gcd : PS :=
  (.seq (.asgT [0, 1] (.cons (.abs (.var 0)) (.cons (.abs (.var 1)) .nil))) (.seq (.whl (.cmp .ne (.var 1) (.lit 0)) (.seq (.asgT [0, 1] (.cons (.var 1) (.cons (.bin .mod (.var 0) (.var 1)) .nil))) .skip)) (.seq (.ret (.var 0)) .skip)))
noncomputable def b_gcd_all : PS :=
  (.seq (.asg 1 (.lit 0)) (.seq (.forr (.one 2) (.var 0) (.seq (.asg 1 (.call .f_gcd (.cons (.var 1) (.cons (.var 2) .nil)))) .skip)) (.seq (.ret (.var 1)) .skip)))
noncomputable def b_rat : PS :=
  (.seq (.ife (.cmp .eq (.var 1) (.lit 0)) (.seq .bad .skip) .skip) (.seq (.asg 2 (.ite (.cmp .gt (.var 1) (.lit 0)) (.call .f_gcd (.cons (.var 0) (.cons (.var 1) .nil))) (.bin .sub (.lit 0) (.call .f_gcd (.cons (.var 0) (.cons (.var 1) .nil)))))) (.seq (.ret (.tup (.cons (.bin .fdiv (.var 0) (.var 2)) (.cons (.bin .fdiv (.var 1) (.var 2)) .nil)))) .skip)))
noncomputable def b_radd : PS :=
  (.seq (.ret (.call .f_rat (.cons (.bin .add (.bin .mul (.idx (.var 0) (.lit 0)) (.idx (.var 1) (.lit 1))) (.bin .mul (.idx (.var 1) (.lit 0)) (.idx (.var 0) (.lit 1)))) (.cons (.bin .mul (.idx (.var 0) (.lit 1)) (.idx (.var 1) (.lit 1))) .nil)))) .skip)
noncomputable def b_rsub : PS :=
  (.seq (.ret (.call .f_rat (.cons (.bin .sub (.bin .mul (.idx (.var 0) (.lit 0)) (.idx (.var 1) (.lit 1))) (.bin .mul (.idx (.var 1) (.lit 0)) (.idx (.var 0) (.lit 1)))) (.cons (.bin .mul (.idx (.var 0) (.lit 1)) (.idx (.var 1) (.lit 1))) .nil)))) .skip)
noncomputable def b_rmul : PS :=
  (.seq (.ret (.call .f_rat (.cons (.bin .mul (.idx (.var 0) (.lit 0)) (.idx (.var 1) (.lit 0))) (.cons (.bin .mul (.idx (.var 0) (.lit 1)) (.idx (.var 1) (.lit 1))) .nil)))) .skip)
noncomputable def b_rcompare : PS :=
  (.seq (.asg 2 (.bin .sub (.bin .mul (.idx (.var 0) (.lit 0)) (.idx (.var 1) (.lit 1))) (.bin .mul (.idx (.var 1) (.lit 0)) (.idx (.var 0) (.lit 1))))) (.seq (.ret (.bin .sub (.cmp .gt (.var 2) (.lit 0)) (.cmp .lt (.var 2) (.lit 0)))) .skip))
noncomputable def b_rfloor : PS :=
  (.seq (.ret (.bin .fdiv (.idx (.var 0) (.lit 0)) (.idx (.var 0) (.lit 1)))) .skip)
noncomputable def b_ztrim : PS :=
  (.seq (.asg 1 (.len (.var 0))) (.seq (.whl (.and (.cmp .gt (.var 1) (.lit 0)) (.cmp .eq (.idx (.var 0) (.bin .sub (.var 1) (.lit 1))) (.lit 0))) (.seq (.aug 1 .sub (.lit 1)) .skip)) (.seq (.ret (.list (.upto (.var 0) (.var 1)))) .skip)))
noncomputable def b_zdegree : PS :=
  (.seq (.ret (.bin .sub (.len (.var 0)) (.lit 1))) .skip)
noncomputable def b_zlead : PS :=
  (.seq (.ret (.ite (.cmp .gt (.len (.var 0)) (.lit 0)) (.idx (.var 0) (.neg (.lit 1))) (.lit 0))) .skip)
noncomputable def b_zadd : PS :=
  (.seq (.asg 2 (.max2 (.len (.var 0)) (.len (.var 1)))) (.seq (.ret (.call .f_ztrim (.cons (.comp (.bin .add (.ite (.cmp .lt (.var 3) (.len (.var 0))) (.idx (.var 0) (.var 3)) (.lit 0)) (.ite (.cmp .lt (.var 3) (.len (.var 1))) (.idx (.var 1) (.var 3)) (.lit 0))) (.one 3) (.rng1 (.var 2))) .nil))) .skip))
noncomputable def b_zneg : PS :=
  (.seq (.ret (.comp (.neg (.var 1)) (.one 1) (.var 0))) .skip)
noncomputable def b_zsub : PS :=
  (.seq (.ret (.call .f_zadd (.cons (.var 0) (.cons (.call .f_zneg (.cons (.var 1) .nil)) .nil)))) .skip)
noncomputable def b_zscale : PS :=
  (.seq (.ret (.ite (.cmp .ne (.var 1) (.lit 0)) (.comp (.bin .mul (.var 2) (.var 1)) (.one 2) (.var 0)) (.lst .nil))) .skip)
noncomputable def b_zraise : PS :=
  (.seq (.ret (.ite (.cmp .gt (.len (.var 0)) (.lit 0)) (.bin .add (.bin .mul (.lst (.cons (.lit 0) .nil)) (.var 1)) (.list (.var 0))) (.lst .nil))) .skip)
noncomputable def b_zcontent : PS :=
  (.seq (.ret (.call .f_gcd_all (.cons (.var 0) .nil))) .skip)
noncomputable def b_zdivided : PS :=
  (.seq (.ret (.comp (.bin .fdiv (.var 2) (.var 1)) (.one 2) (.var 0))) .skip)
noncomputable def b_zprimitive : PS :=
  (.seq (.ife (.cmp .eq (.len (.var 0)) (.lit 0)) (.seq (.ret (.lst .nil)) .skip) .skip) (.seq (.asg 1 (.call .f_zcontent (.cons (.var 0) .nil))) (.seq (.ret (.call .f_zdivided (.cons (.var 0) (.cons (.ite (.cmp .gt (.idx (.var 0) (.neg (.lit 1))) (.lit 0)) (.var 1) (.neg (.var 1))) .nil)))) .skip)))
noncomputable def b_zderive : PS :=
  (.seq (.ret (.«from» (.comp (.bin .mul (.var 2) (.var 1)) (.two 1 2) (.enum (.var 0))) (.lit 1))) .skip)
noncomputable def b_check_bottom : PS :=
  (.seq (.ife (.cmp .eq (.len (.var 0)) (.lit 0)) (.seq .bad .skip) .skip) .skip)
noncomputable def b_zexact : PS :=
  (.seq (.exp (.call .f_check_bottom (.cons (.var 1) .nil))) (.seq (.asgT [2, 3] (.cons (.list (.var 0)) (.cons (.bin .mul (.lst (.cons (.lit 0) .nil)) (.max2 (.lit 0) (.bin .add (.bin .sub (.len (.var 0)) (.len (.var 1))) (.lit 1)))) .nil))) (.seq (.whl (.cmp .ge (.len (.var 2)) (.len (.var 1))) (.seq (.ife (.cmp .ne (.bin .mod (.idx (.var 2) (.neg (.lit 1))) (.idx (.var 1) (.neg (.lit 1)))) (.lit 0)) (.seq (.ret .non) .skip) .skip) (.seq (.asgT [4, 5] (.cons (.bin .fdiv (.idx (.var 2) (.neg (.lit 1))) (.idx (.var 1) (.neg (.lit 1)))) (.cons (.bin .sub (.len (.var 2)) (.len (.var 1))) .nil))) (.seq (.seti 3 (.var 5) (.var 4)) (.seq (.asg 2 (.call .f_zsub (.cons (.var 2) (.cons (.call .f_zraise (.cons (.call .f_zscale (.cons (.var 1) (.cons (.var 4) .nil))) (.cons (.var 5) .nil))) .nil)))) .skip))))) (.seq (.ret (.ite (.cmp .eq (.len (.var 2)) (.lit 0)) (.call .f_ztrim (.cons (.var 3) .nil)) .non)) .skip))))
noncomputable def b_pseudo : PS :=
  (.seq (.exp (.call .f_check_bottom (.cons (.var 1) .nil))) (.seq (.asg 2 (.max2 (.lit 0) (.bin .add (.bin .sub (.len (.var 0)) (.len (.var 1))) (.lit 1)))) (.seq (.asgT [3, 4, 5, 6] (.cons (.list (.var 0)) (.cons (.lst .nil) (.cons (.var 2) (.cons (.call .f_zlead (.cons (.var 1) .nil)) .nil))))) (.seq (.whl (.cmp .ge (.len (.var 3)) (.len (.var 1))) (.seq (.asgT [7, 8] (.cons (.idx (.var 3) (.neg (.lit 1))) (.cons (.bin .sub (.len (.var 3)) (.len (.var 1))) .nil))) (.seq (.asg 4 (.call .f_zsub (.cons (.call .f_zscale (.cons (.var 4) (.cons (.var 6) .nil))) (.cons (.call .f_zraise (.cons (.lst (.cons (.neg (.var 7)) .nil)) (.cons (.var 8) .nil))) .nil)))) (.seq (.asg 3 (.call .f_zsub (.cons (.call .f_zscale (.cons (.var 3) (.cons (.var 6) .nil))) (.cons (.call .f_zraise (.cons (.call .f_zscale (.cons (.var 1) (.cons (.var 7) .nil))) (.cons (.var 8) .nil))) .nil)))) (.seq (.aug 5 .sub (.lit 1)) .skip))))) (.seq (.asg 9 (.bin .pow (.var 6) (.var 5))) (.seq (.ret (.tup (.cons (.call .f_zscale (.cons (.var 4) (.cons (.var 9) .nil))) (.cons (.call .f_zscale (.cons (.var 3) (.cons (.var 9) .nil))) (.cons (.var 2) .nil))))) .skip))))))
noncomputable def b_zpseudo_rest : PS :=
  (.seq (.ret (.idx (.call .f_pseudo (.cons (.var 0) (.cons (.var 1) .nil))) (.lit 1))) .skip)
noncomputable def b_next_height : PS :=
  (.seq (.ife (.cmp .eq (.var 1) (.lit 0)) (.seq (.ret (.var 2)) .skip) .skip) (.seq (.ret (.bin .fdiv (.bin .pow (.var 0) (.var 1)) (.bin .pow (.var 2) (.bin .sub (.var 1) (.lit 1))))) .skip))
noncomputable def b_subresultants : PS :=
  (.seq (.ife (.cmp .lt (.len (.var 0)) (.len (.var 1))) (.seq (.asgT [0, 1] (.cons (.var 1) (.cons (.var 0) .nil))) .skip) .skip) (.seq (.asgT [2, 3, 4] (.cons (.lst (.cons (.list (.var 0)) (.cons (.list (.var 1)) .nil))) (.cons (.lit 1) (.cons (.lit 1) .nil)))) (.seq (.whl (.cmp .gt (.len (.var 1)) (.lit 1)) (.seq (.asg 5 (.bin .sub (.len (.var 0)) (.len (.var 1)))) (.seq (.asg 6 (.call .f_zpseudo_rest (.cons (.var 0) (.cons (.var 1) .nil)))) (.seq (.ife (.cmp .eq (.len (.var 6)) (.lit 0)) (.seq (.ret (.var 2)) .skip) .skip) (.seq (.asgT [0, 1] (.cons (.var 1) (.cons (.call .f_zdivided (.cons (.var 6) (.cons (.bin .mul (.var 3) (.bin .pow (.var 4) (.var 5))) .nil))) .nil))) (.seq (.app 2 (.var 1)) (.seq (.asg 3 (.call .f_zlead (.cons (.var 0) .nil))) (.seq (.asg 4 (.call .f_next_height (.cons (.var 3) (.cons (.var 5) (.cons (.var 4) .nil))))) .skip)))))))) (.seq (.ret (.var 2)) .skip))))
noncomputable def b_zgcd : PS :=
  (.seq (.ife (.or (.cmp .eq (.len (.var 0)) (.lit 0)) (.cmp .eq (.len (.var 1)) (.lit 0))) (.seq (.asg 2 (.ite (.cmp .eq (.len (.var 0)) (.lit 0)) (.var 1) (.var 0))) (.seq (.ret (.call .f_zscale (.cons (.call .f_zprimitive (.cons (.var 2) .nil)) (.cons (.call .f_zcontent (.cons (.var 2) .nil)) .nil)))) .skip)) .skip) (.seq (.asg 3 (.call .f_gcd (.cons (.call .f_zcontent (.cons (.var 0) .nil)) (.cons (.call .f_zcontent (.cons (.var 1) .nil)) .nil)))) (.seq (.asg 4 (.idx (.call .f_subresultants (.cons (.call .f_zprimitive (.cons (.var 0) .nil)) (.cons (.call .f_zprimitive (.cons (.var 1) .nil)) .nil))) (.neg (.lit 1)))) (.seq (.ret (.ite (.cmp .gt (.len (.var 4)) (.lit 1)) (.call .f_zscale (.cons (.call .f_zprimitive (.cons (.var 4) .nil)) (.cons (.var 3) .nil))) (.lst (.cons (.var 3) .nil)))) .skip))))
noncomputable def b_sign_of : PS :=
  (.seq (.ret (.bin .sub (.cmp .gt (.var 0) (.lit 0)) (.cmp .lt (.var 0) (.lit 0)))) .skip)
noncomputable def b_value_sign : PS :=
  (.seq (.unp [2, 3] (.var 1)) (.seq (.asgT [4, 5] (.cons (.lit 0) (.cons (.lit 1) .nil))) (.seq (.forr (.one 6) (.rev (.var 0)) (.seq (.asg 4 (.bin .add (.bin .mul (.var 4) (.var 2)) (.bin .mul (.var 6) (.var 5)))) (.seq (.asg 5 (.bin .mul (.var 5) (.var 3))) .skip))) (.seq (.ret (.call .f_sign_of (.cons (.var 4) .nil))) .skip))))
noncomputable def b_sign_at : PS :=
  (.seq (.ret (.ite (.isstr (.var 1)) .bad (.call .f_value_sign (.cons (.var 0) (.cons (.var 1) .nil))))) .skip)
noncomputable def b_simple_part : PS :=
  (.seq (.asg 1 (.call .f_zgcd (.cons (.var 0) (.cons (.call .f_zderive (.cons (.var 0) .nil)) .nil)))) (.seq (.ret (.ite (.cmp .gt (.call .f_zdegree (.cons (.var 1) .nil)) (.lit 0)) (.call .f_zexact (.cons (.var 0) (.cons (.var 1) .nil))) (.var 0))) .skip))
noncomputable def b_lessened : PS :=
  (.seq (.asg 1 (.call .f_zcontent (.cons (.var 0) .nil))) (.seq (.ret (.ite (.cmp .gt (.var 1) (.lit 1)) (.comp (.bin .fdiv (.var 2) (.var 1)) (.one 2) (.var 0)) (.var 0))) .skip))
noncomputable def b_next_of_row : PS :=
  (.seq (.unp [2, 3, 4] (.call .f_pseudo (.cons (.var 0) (.cons (.var 1) .nil)))) (.seq (.ife (.and (.cmp .eq (.bin .mod (.var 4) (.lit 2)) (.lit 1)) (.cmp .lt (.call .f_zlead (.cons (.var 1) .nil)) (.lit 0))) (.seq (.ret (.call .f_lessened (.cons (.var 3) .nil))) .skip) .skip) (.seq (.ret (.call .f_lessened (.cons (.call .f_zneg (.cons (.var 3) .nil)) .nil))) .skip)))
noncomputable def b_sturm_row : PS :=
  (.seq (.asgT [1, 2] (.cons (.lst (.cons (.var 0) .nil)) (.cons (.call .f_zderive (.cons (.var 0) .nil)) .nil))) (.seq (.whl (.cmp .ne (.var 2) (.lst .nil)) (.seq (.app 1 (.var 2)) (.seq (.asg 2 (.call .f_next_of_row (.cons (.idx (.var 1) (.neg (.lit 2))) (.cons (.idx (.var 1) (.neg (.lit 1))) .nil)))) .skip))) (.seq (.ret (.var 1)) .skip)))
noncomputable def b_changes_at : PS :=
  (.seq (.asg 2 (.comp (.call .f_sign_at (.cons (.var 3) (.cons (.var 1) .nil))) (.one 3) (.var 0))) (.seq (.asg 2 (.compIf (.var 4) (.one 4) (.var 2) (.cmp .ne (.var 4) (.lit 0)))) (.seq (.ret (.len (.compIf (.lit 1) (.one 5) (.rng2 (.lit 1) (.len (.var 2))) (.cmp .ne (.idx (.var 2) (.var 5)) (.idx (.var 2) (.bin .sub (.var 5) (.lit 1))))))) .skip)))
noncomputable def b_count_by_row : PS :=
  (.seq (.ret (.bin .sub (.call .f_changes_at (.cons (.var 0) (.cons (.var 1) .nil))) (.call .f_changes_at (.cons (.var 0) (.cons (.var 2) .nil))))) .skip)
noncomputable def b_root_bound : PS :=
  (.seq (.asg 1 (.maxl (.comp (.abs (.var 2)) (.one 2) (.var 0)))) (.seq (.ret (.bin .add (.lit 2) (.bin .fdiv (.var 1) (.abs (.call .f_zlead (.cons (.var 0) .nil)))))) .skip))
noncomputable def b_middle : PS :=
  (.seq (.ret (.call .f_rmul (.cons (.call .f_radd (.cons (.var 0) (.cons (.var 1) .nil))) (.cons (.glb .half) .nil)))) .skip)
noncomputable def b_linear_of : PS :=
  (.seq (.ret (.lst (.cons (.neg (.idx (.var 0) (.lit 0))) (.cons (.idx (.var 0) (.lit 1)) .nil)))) .skip)
noncomputable def b_is_inside : PS :=
  (.seq (.ret (.and (.cmp .le (.call .f_rcompare (.cons (.idx (.var 1) (.lit 0)) (.cons (.var 0) .nil))) (.lit 0)) (.cmp .le (.call .f_rcompare (.cons (.var 0) (.cons (.idx (.var 1) (.lit 1)) .nil))) (.lit 0)))) .skip)
noncomputable def b_split_roots : PS :=
  (.seq (.asgT [1, 2] (.cons (.call .f_sturm_row (.cons (.var 0) .nil)) (.cons (.call .f_root_bound (.cons (.var 0) .nil)) .nil))) (.seq (.asgT [3, 4] (.cons (.lst (.cons (.tup (.cons (.tup (.cons (.neg (.var 2)) (.cons (.lit 1) .nil))) (.cons (.tup (.cons (.var 2) (.cons (.lit 1) .nil))) .nil))) .nil)) (.cons (.lst .nil) .nil))) (.seq (.whl (.cmp .ne (.var 3) (.lst .nil)) (.seq (.pop [5, 6] 3) (.seq (.asg 7 (.call .f_count_by_row (.cons (.var 1) (.cons (.var 5) (.cons (.var 6) .nil))))) (.seq (.ife (.cmp .eq (.var 7) (.lit 1)) (.seq (.app 4 (.tup (.cons (.var 5) (.cons (.var 6) .nil)))) .skip) (.seq (.ife (.cmp .gt (.var 7) (.lit 1)) (.seq (.asg 8 (.call .f_middle (.cons (.var 5) (.cons (.var 6) .nil)))) (.seq (.ife (.cmp .eq (.call .f_value_sign (.cons (.var 0) (.cons (.var 8) .nil))) (.lit 0)) (.seq (.ret (.tup (.cons (.lst .nil) (.cons (.var 8) .nil)))) .skip) .skip) (.seq (.app 3 (.tup (.cons (.var 8) (.cons (.var 6) .nil)))) (.seq (.app 3 (.tup (.cons (.var 5) (.cons (.var 8) .nil)))) .skip)))) .skip) .skip)) .skip)))) (.seq (.ret (.tup (.cons (.var 4) (.cons .non .nil)))) .skip))))
noncomputable def b_halved : PS :=
  (.seq (.unp [2, 3] (.var 1)) (.seq (.asg 4 (.call .f_middle (.cons (.var 2) (.cons (.var 3) .nil)))) (.seq (.asg 5 (.call .f_value_sign (.cons (.var 0) (.cons (.var 4) .nil)))) (.seq (.ife (.cmp .eq (.var 5) (.lit 0)) (.seq (.ret (.tup (.cons (.var 4) (.cons (.var 4) .nil)))) .skip) .skip) (.seq (.ret (.ite (.cmp .eq (.var 5) (.call .f_value_sign (.cons (.var 0) (.cons (.var 2) .nil)))) (.tup (.cons (.var 4) (.cons (.var 3) .nil))) (.tup (.cons (.var 2) (.cons (.var 4) .nil))))) .skip)))))
noncomputable def b_kept_off : PS :=
  (.seq (.whl (.and (.cmp .ne (.idx (.var 1) (.lit 0)) (.idx (.var 1) (.lit 1))) (.any (.comp (.call .f_is_inside (.cons (.var 3) (.cons (.var 1) .nil))) (.one 3) (.var 2)))) (.seq (.asg 1 (.call .f_halved (.cons (.var 0) (.cons (.var 1) .nil)))) .skip)) (.seq (.ret (.var 1)) .skip))
noncomputable def b_sorted_intervals : PS :=
  (.seq (.asg 1 (.lst .nil)) (.seq (.forr (.one 2) (.var 0) (.seq (.asg 3 (.lit 0)) (.seq (.whl (.and (.cmp .lt (.var 3) (.len (.var 1))) (.cmp .lt (.call .f_rcompare (.cons (.idx (.idx (.var 1) (.var 3)) (.lit 1)) (.cons (.idx (.var 2) (.lit 1)) .nil))) (.lit 0))) (.seq (.aug 3 .add (.lit 1)) .skip)) (.seq (.ins 1 (.var 3) (.var 2)) .skip)))) (.seq (.ret (.var 1)) .skip)))
noncomputable def b_isolate : PS :=
  (.seq (.ife (.cmp .eq (.var 0) (.lst .nil)) (.seq .bad .skip) .skip) (.seq (.asgT [1, 2] (.cons (.call .f_simple_part (.cons (.var 0) .nil)) (.cons (.lst .nil) .nil))) (.seq (.unp [3, 4] (.ite (.cmp .gt (.call .f_zdegree (.cons (.var 1) .nil)) (.lit 0)) (.call .f_split_roots (.cons (.var 1) .nil)) (.tup (.cons (.lst .nil) (.cons .non .nil))))) (.seq (.whl (.notNone (.var 4)) (.seq (.app 2 (.var 4)) (.seq (.asg 1 (.call .f_zexact (.cons (.var 1) (.cons (.call .f_linear_of (.cons (.var 4) .nil)) .nil)))) (.seq (.unp [3, 4] (.ite (.cmp .gt (.call .f_zdegree (.cons (.var 1) .nil)) (.lit 0)) (.call .f_split_roots (.cons (.var 1) .nil)) (.tup (.cons (.lst .nil) (.cons .non .nil))))) .skip)))) (.seq (.asg 5 (.bin .add (.comp (.tup (.cons (.var 6) (.cons (.var 6) .nil))) (.one 6) (.var 2)) (.comp (.call .f_kept_off (.cons (.var 1) (.cons (.var 7) (.cons (.var 2) .nil)))) (.one 7) (.var 3)))) (.seq (.ret (.call .f_sorted_intervals (.cons (.var 5) .nil))) .skip))))))
noncomputable def b_refine : PS :=
  (.seq (.ife (.cmp .le (.call .f_rcompare (.cons (.var 2) (.cons (.glb .r0) .nil))) (.lit 0)) (.seq .bad .skip) .skip) (.seq (.asg 3 (.call .f_simple_part (.cons (.var 0) .nil))) (.seq (.whl (.cmp .gt (.call .f_rcompare (.cons (.call .f_rsub (.cons (.idx (.var 1) (.lit 1)) (.cons (.idx (.var 1) (.lit 0)) .nil))) (.cons (.var 2) .nil))) (.lit 0)) (.seq (.asg 1 (.call .f_halved (.cons (.var 3) (.cons (.var 1) .nil)))) .skip)) (.seq (.ret (.var 1)) .skip))))
noncomputable def b_tried_roots : PS :=
  (.seq (.ife (.cmp .eq (.call .f_zdegree (.cons (.var 0) .nil)) (.lit 1)) (.seq (.ret (.lst (.cons (.call .f_rat (.cons (.neg (.idx (.var 0) (.lit 0))) (.cons (.idx (.var 0) (.lit 1)) .nil))) .nil))) .skip) .skip) (.seq (.ife (.or (.cmp .lt (.call .f_zdegree (.cons (.var 0) .nil)) (.lit 1)) (.cmp .le (.max2 (.abs (.idx (.var 0) (.lit 0))) (.abs (.idx (.var 0) (.neg (.lit 1))))) (.glb .most))) (.seq (.ret .bad) .skip) .skip) (.seq (.asgT [1, 2] (.cons (.lst .nil) (.cons (.abs (.idx (.var 0) (.neg (.lit 1)))) .nil))) (.seq (.forr (.one 3) (.call .f_isolate (.cons (.var 0) .nil)) (.seq (.asg 4 (.idx (.call .f_refine (.cons (.var 0) (.cons (.var 3) (.cons (.tup (.cons (.lit 1) (.cons (.bin .mul (.lit 2) (.var 2)) .nil))) .nil)))) (.lit 1))) (.seq (.app 1 (.call .f_rat (.cons (.call .f_rfloor (.cons (.call .f_rmul (.cons (.var 4) (.cons (.tup (.cons (.var 2) (.cons (.lit 1) .nil))) .nil))) .nil)) (.cons (.var 2) .nil)))) .skip))) (.seq (.ret (.var 1)) .skip)))))
noncomputable def b_sorted_roots : PS :=
  (.seq (.asg 1 (.lst .nil)) (.seq (.forr (.one 2) (.var 0) (.seq (.asg 3 (.lit 0)) (.seq (.whl (.and (.cmp .lt (.var 3) (.len (.var 1))) (.cmp .lt (.call .f_rcompare (.cons (.idx (.idx (.var 1) (.var 3)) (.lit 0)) (.cons (.idx (.var 2) (.lit 0)) .nil))) (.lit 0))) (.seq (.aug 3 .add (.lit 1)) .skip)) (.seq (.ins 1 (.var 3) (.var 2)) .skip)))) (.seq (.ret (.var 1)) .skip)))
noncomputable def b_rational_roots : PS :=
  (.seq (.asgT [1, 2] (.cons (.var 0) (.cons (.lst .nil) .nil))) (.seq (.whl (.and (.cmp .gt (.len (.var 1)) (.lit 0)) (.cmp .eq (.idx (.var 1) (.lit 0)) (.lit 0))) (.seq (.asg 1 (.«from» (.var 1) (.lit 1))) .skip)) (.seq (.ife (.cmp .lt (.len (.var 1)) (.len (.var 0))) (.seq (.app 2 (.tup (.cons (.tup (.cons (.lit 0) (.cons (.lit 1) .nil))) (.cons (.bin .sub (.len (.var 0)) (.len (.var 1))) .nil)))) .skip) .skip) (.seq (.forr (.one 3) (.call .f_tried_roots (.cons (.var 1) .nil)) (.seq (.asg 4 (.lit 0)) (.seq (.whl (.and (.cmp .gt (.call .f_zdegree (.cons (.var 1) .nil)) (.lit 0)) (.cmp .eq (.call .f_value_sign (.cons (.var 1) (.cons (.var 3) .nil))) (.lit 0))) (.seq (.asg 1 (.call .f_zexact (.cons (.var 1) (.cons (.call .f_linear_of (.cons (.var 3) .nil)) .nil)))) (.seq (.aug 4 .add (.lit 1)) .skip))) (.seq (.ife (.cmp .gt (.var 4) (.lit 0)) (.seq (.app 2 (.tup (.cons (.var 3) (.cons (.var 4) .nil)))) .skip) .skip) .skip)))) (.seq (.ret (.call .f_sorted_roots (.cons (.var 2) .nil))) .skip)))))
noncomputable def b_law_lowest : PS :=
  (.seq (.asgT [2, 3] (.cons (.abs (.var 0)) (.cons (.var 1) .nil))) (.seq (.whl (.cmp .gt (.var 3) (.lit 0)) (.seq (.asgT [2, 3] (.cons (.var 3) (.cons (.bin .mod (.var 2) (.var 3)) .nil))) .skip)) (.seq (.ret (.tup (.cons (.bin .fdiv (.var 0) (.var 2)) (.cons (.bin .fdiv (.var 1) (.var 2)) .nil)))) .skip)))
noncomputable def b_law_times : PS :=
  (.seq (.asg 2 (.bin .mul (.lst (.cons (.lit 0) .nil)) (.bin .sub (.bin .add (.len (.var 0)) (.len (.var 1))) (.lit 1)))) (.seq (.forr (.two 3 4) (.enum (.var 0)) (.seq (.forr (.two 5 6) (.enum (.var 1)) (.seq (.seti 2 (.bin .add (.var 3) (.var 5)) (.bin .add (.idx (.var 2) (.bin .add (.var 3) (.var 5))) (.bin .mul (.var 4) (.var 6)))) .skip)) .skip)) (.seq (.ret (.var 2)) .skip)))
noncomputable def Fn.body : Fn → PS
  | f_gcd => b_gcd
  | f_gcd_all => b_gcd_all
  | f_rat => b_rat
  | f_radd => b_radd
  | f_rsub => b_rsub
  | f_rmul => b_rmul
  | f_rcompare => b_rcompare
  | f_rfloor => b_rfloor
  | f_ztrim => b_ztrim
  | f_zdegree => b_zdegree
  | f_zlead => b_zlead
  | f_zadd => b_zadd
  | f_zneg => b_zneg
  | f_zsub => b_zsub
  | f_zscale => b_zscale
  | f_zraise => b_zraise
  | f_zcontent => b_zcontent
  | f_zdivided => b_zdivided
  | f_zprimitive => b_zprimitive
  | f_zderive => b_zderive
  | f_check_bottom => b_check_bottom
  | f_zexact => b_zexact
  | f_pseudo => b_pseudo
  | f_zpseudo_rest => b_zpseudo_rest
  | f_next_height => b_next_height
  | f_subresultants => b_subresultants
  | f_zgcd => b_zgcd
  | f_sign_of => b_sign_of
  | f_value_sign => b_value_sign
  | f_sign_at => b_sign_at
  | f_simple_part => b_simple_part
  | f_lessened => b_lessened
  | f_next_of_row => b_next_of_row
  | f_sturm_row => b_sturm_row
  | f_changes_at => b_changes_at
  | f_count_by_row => b_count_by_row
  | f_root_bound => b_root_bound
  | f_middle => b_middle
  | f_linear_of => b_linear_of
  | f_is_inside => b_is_inside
  | f_split_roots => b_split_roots
  | f_halved => b_halved
  | f_kept_off => b_kept_off
  | f_sorted_intervals => b_sorted_intervals
  | f_isolate => b_isolate
  | f_refine => b_refine
  | f_tried_roots => b_tried_roots
  | f_sorted_roots => b_sorted_roots
  | f_rational_roots => b_rational_roots
  | f_law_lowest => b_law_lowest
  | f_law_times => b_law_times
noncomputable def Fn.arity : Fn → Nat
  | f_gcd => 2
  | f_gcd_all => 1
  | f_rat => 2
  | f_radd => 2
  | f_rsub => 2
  | f_rmul => 2
  | f_rcompare => 2
  | f_rfloor => 1
  | f_ztrim => 1
  | f_zdegree => 1
  | f_zlead => 1
  | f_zadd => 2
  | f_zneg => 1
  | f_zsub => 2
  | f_zscale => 2
  | f_zraise => 2
  | f_zcontent => 1
  | f_zdivided => 2
  | f_zprimitive => 1
  | f_zderive => 1
  | f_check_bottom => 1
  | f_zexact => 2
  | f_pseudo => 2
  | f_zpseudo_rest => 2
  | f_next_height => 3
  | f_subresultants => 2
  | f_zgcd => 2
  | f_sign_of => 1
  | f_value_sign => 2
  | f_sign_at => 2
  | f_simple_part => 1
  | f_lessened => 1
  | f_next_of_row => 2
  | f_sturm_row => 1
  | f_changes_at => 2
  | f_count_by_row => 3
  | f_root_bound => 1
  | f_middle => 2
  | f_linear_of => 1
  | f_is_inside => 2
  | f_split_roots => 1
  | f_halved => 2
  | f_kept_off => 3
  | f_sorted_intervals => 1
  | f_isolate => 1
  | f_refine => 3
  | f_tried_roots => 1
  | f_sorted_roots => 1
  | f_rational_roots => 1
  | f_law_lowest => 2
  | f_law_times => 2
noncomputable def Fn.slots (_ : Fn) : Nat := 10
noncomputable def Fn.rank : Fn → Nat
  | f_gcd => 0
  | f_gcd_all => 1
  | f_rat => 2
  | f_radd => 3
  | f_rsub => 4
  | f_rmul => 5
  | f_rcompare => 6
  | f_rfloor => 7
  | f_ztrim => 8
  | f_zdegree => 9
  | f_zlead => 10
  | f_zadd => 11
  | f_zneg => 12
  | f_zsub => 13
  | f_zscale => 14
  | f_zraise => 15
  | f_zcontent => 16
  | f_zdivided => 17
  | f_zprimitive => 18
  | f_zderive => 19
  | f_check_bottom => 20
  | f_zexact => 21
  | f_pseudo => 22
  | f_zpseudo_rest => 23
  | f_next_height => 24
  | f_subresultants => 25
  | f_zgcd => 26
  | f_sign_of => 27
  | f_value_sign => 28
  | f_sign_at => 29
  | f_simple_part => 30
  | f_lessened => 31
  | f_next_of_row => 32
  | f_sturm_row => 33
  | f_changes_at => 34
  | f_count_by_row => 35
  | f_root_bound => 36
  | f_middle => 37
  | f_linear_of => 38
  | f_is_inside => 39
  | f_split_roots => 40
  | f_halved => 41
  | f_kept_off => 42
  | f_sorted_intervals => 43
  | f_isolate => 44
  | f_refine => 45
  | f_tried_roots => 46
  | f_sorted_roots => 47
  | f_rational_roots => 48
  | f_law_lowest => 49
  | f_law_times => 50
noncomputable def Fn.name : Fn → String
  | f_gcd => "gcd"
  | f_gcd_all => "gcd_all"
  | f_rat => "rat"
  | f_radd => "radd"
  | f_rsub => "rsub"
  | f_rmul => "rmul"
  | f_rcompare => "rcompare"
  | f_rfloor => "rfloor"
  | f_ztrim => "ztrim"
  | f_zdegree => "zdegree"
  | f_zlead => "zlead"
  | f_zadd => "zadd"
  | f_zneg => "zneg"
  | f_zsub => "zsub"
  | f_zscale => "zscale"
  | f_zraise => "zraise"
  | f_zcontent => "zcontent"
  | f_zdivided => "zdivided"
  | f_zprimitive => "zprimitive"
  | f_zderive => "zderive"
  | f_check_bottom => "check_bottom"
  | f_zexact => "zexact"
  | f_pseudo => "pseudo"
  | f_zpseudo_rest => "zpseudo_rest"
  | f_next_height => "next_height"
  | f_subresultants => "subresultants"
  | f_zgcd => "zgcd"
  | f_sign_of => "sign_of"
  | f_value_sign => "value_sign"
  | f_sign_at => "sign_at"
  | f_simple_part => "simple_part"
  | f_lessened => "lessened"
  | f_next_of_row => "next_of_row"
  | f_sturm_row => "sturm_row"
  | f_changes_at => "changes_at"
  | f_count_by_row => "count_by_row"
  | f_root_bound => "root_bound"
  | f_middle => "middle"
  | f_linear_of => "linear_of"
  | f_is_inside => "is_inside"
  | f_split_roots => "split_roots"
  | f_halved => "halved"
  | f_kept_off => "kept_off"
  | f_sorted_intervals => "sorted_intervals"
  | f_isolate => "isolate"
  | f_refine => "refine"
  | f_tried_roots => "tried_roots"
  | f_sorted_roots => "sorted_roots"
  | f_rational_roots => "rational_roots"
  | f_law_lowest => "_law_lowest"
  | f_law_times => "_law_times"
noncomputable def Fn.all : List Fn := [f_gcd, f_gcd_all, f_rat, f_radd, f_rsub, f_rmul, f_rcompare, f_rfloor, f_ztrim, f_zdegree, f_zlead, f_zadd, f_zneg, f_zsub, f_zscale, f_zraise, f_zcontent, f_zdivided, f_zprimitive, f_zderive, f_check_bottom, f_zexact, f_pseudo, f_zpseudo_rest, f_next_height, f_subresultants, f_zgcd, f_sign_of, f_value_sign, f_sign_at, f_simple_part, f_lessened, f_next_of_row, f_sturm_row, f_changes_at, f_count_by_row, f_root_bound, f_middle, f_linear_of, f_is_inside, f_split_roots, f_halved, f_kept_off, f_sorted_intervals, f_isolate, f_refine, f_tried_roots, f_sorted_roots, f_rational_roots, f_law_lowest, f_law_times]
noncomputable def Fn.vars : Fn → List String
  | f_gcd => ["a", "b"]
  | f_gcd_all => ["numbers", "found", "number"]
  | f_rat => ["top", "bottom", "g"]
  | f_radd => ["a", "b"]
  | f_rsub => ["a", "b"]
  | f_rmul => ["a", "b"]
  | f_rcompare => ["a", "b", "off"]
  | f_rfloor => ["a"]
  | f_ztrim => ["row", "size"]
  | f_zdegree => ["p"]
  | f_zlead => ["p"]
  | f_zadd => ["a", "b", "size"]
  | f_zneg => ["p"]
  | f_zsub => ["a", "b"]
  | f_zscale => ["p", "k"]
  | f_zraise => ["p", "many"]
  | f_zcontent => ["p"]
  | f_zdivided => ["p", "k"]
  | f_zprimitive => ["p", "content"]
  | f_zderive => ["p"]
  | f_check_bottom => ["p"]
  | f_zexact => ["a", "b", "rest", "found", "number", "power"]
  | f_pseudo => ["a", "b", "many", "rest", "found", "left", "first", "number", "power", "more"]
  | f_zpseudo_rest => ["a", "b"]
  | f_next_height => ["front", "step", "height"]
  | f_subresultants => ["a", "b", "row", "front", "height", "step", "rest"]
  | f_zgcd => ["a", "b", "only", "number", "last"]
  | f_sign_of => ["number"]
  | f_value_sign => ["p", "x", "top", "bottom", "found", "scale", "coefficient"]
  | f_sign_at => ["p", "x"]
  | f_simple_part => ["f", "common"]
  | f_lessened => ["p", "content"]
  | f_next_of_row => ["a", "b", "quotient", "rest", "power"]
  | f_sturm_row => ["f", "found", "later"]
  | f_changes_at => ["row", "x", "signs"]
  | f_count_by_row => ["row", "low", "high"]
  | f_root_bound => ["f", "most"]
  | f_middle => ["low", "high"]
  | f_linear_of => ["x"]
  | f_is_inside => ["x", "interval"]
  | f_split_roots => ["f", "row", "bound", "waiting", "found", "low", "high", "many", "x"]
  | f_halved => ["f", "interval", "low", "high", "x", "here"]
  | f_kept_off => ["f", "interval", "numbers"]
  | f_sorted_intervals => ["pieces", "found", "piece", "at"]
  | f_isolate => ["f", "left", "exact", "found", "met", "pieces"]
  | f_refine => ["f", "interval", "width", "left"]
  | f_tried_roots => ["f", "found", "lead", "interval", "high"]
  | f_sorted_roots => ["pairs", "found", "pair", "at"]
  | f_rational_roots => ["f", "left", "found", "x", "many"]
  | f_law_lowest => ["top", "bottom", "one", "other"]
  | f_law_times => ["one", "other", "found", "at", "left", "spot", "right"]
inductive Slot where
  | un
  | val (v : PV)
  | own (l : List PV)
noncomputable def LL : Nat := 2 ^ 20
noncomputable def BB : Nat := 1044388881413152506691752710716624382579964249047383780384233483283953907971557456848826811934997558340890106714439262837987573438185793607263236087851365277945956976543709998340361590134383718314428070011855946226376318839397712745672334684344586617496807908705803704071284048740118609114467977783598029006686938976881787785946905630190260940599579453432823469303026696443059025015972399867714215541693835559885291486318237914434496734087811872639496475100189041349008417061675093668333850551032972088269550769983616369411933015213796825837188091833656751221318492846368125550225998300412344784862595674492194617023806505913245610825731835380087608622102834270197698202313169017678006675195485079921636419370285375124784014907159135459982790513399611551794271106831134090584272884279791554849782954323534517065223269061394905987693002122963395687782878948440616007412945674919823050571642377154816321380631045902916136926708342856440730447899971901781465763473223850267253059899795996090799469201774624817718449867455659250178329070473119433165550807568221846571746373296884912819520317457002440926616910874148385078411929804522981857338977648103126085903001302413467189726673216491511131602920781738033436090243804708340403154190336
noncomputable def sm (x : Int) : Bool := Nat.ble x.natAbs BB
noncomputable def mul (x y : Int) : Option Int := if sm x && sm y then some (x * y) else none
noncomputable def pow? (x y : Int) : Option Int := if sm x && decide (0 ≤ y) && decide (y ≤ 100) then some (x ^ y.toNat) else none
noncomputable def sd (x : Int) : Bool := Nat.ble x.natAbs BB
noncomputable def b2i (b : Bool) : Int := if b then 1 else 0
noncomputable def fit (l : List PV) : Option PV := if l.length ≤ LL then some (.lst l) else none
noncomputable def bop (o : BO) (x y : PV) : Option PV := match x with
  | .int a => (match y with
    | .int b => (match o with
      | .add => some (.int (a + b))
      | .sub => some (.int (a - b))
      | .mul => (mul a b).map .int
      | .fdiv => if b = 0 then none else if sd b then some (.int (Int.fdiv a b)) else none
      | .mod => if b = 0 then none else some (.int (Int.fmod a b))
      | .pow => (pow? a b).map .int)
    | _ => none)
  | .lst a => (match o with
    | .add => (match y with
      | .lst b => fit (a ++ b)
      | _ => none)
    | .mul => (match a with
      | [] => none
      | x :: r => (match r with
        | [] => (match y with
          | .int n => if n < 0 then none else fit (List.replicate n.toNat x)
          | _ => none)
        | _ :: _ => none))
    | _ => none)
  | .bool a => (match o with
    | .sub => (match y with
      | .bool b => some (.int (b2i a - b2i b))
      | _ => none)
    | _ => none)
  | _ => none
theorem bA (a b : Int) : bop .add (.int a) (.int b) = some (.int (a + b)) := rfl
theorem bS (a b : Int) : bop .sub (.int a) (.int b) = some (.int (a - b)) := rfl
theorem bM (a b : Int) : bop .mul (.int a) (.int b) = (mul a b).map .int := rfl
theorem bF (a b : Int) : bop .fdiv (.int a) (.int b) = if b = 0 then none else if sd b then some (.int (Int.fdiv a b)) else none := rfl
theorem bO (a b : Int) : bop .mod (.int a) (.int b) = if b = 0 then none else some (.int (Int.fmod a b)) := rfl
theorem bP (a b : Int) : bop .pow (.int a) (.int b) = (pow? a b).map .int := rfl
noncomputable def i2? (l : List PV) : Option (Int × Int) := match l with
  | [] => none
  | x :: r => match r with
    | [] => none
    | y :: t => match t with
      | _ :: _ => none
      | [] => match x with
        | .int a => (match y with
          | .int b => some (a, b)
          | _ => none)
        | _ => none
theorem i2_eq {l : List PV} {p : Int × Int} (h : i2? l = some p) : l = [.int p.1, .int p.2] := by
  cases l with
  | nil => exact no_none h
  | cons x r => cases r with
    | nil => exact no_none h
    | cons y t => cases t with
      | cons _ _ => exact no_none h
      | nil => cases x with
        | int a => cases y with
          | int b => exact congrArg (fun p : Int × Int => [PV.int p.1, .int p.2]) (Option.some.inj h)
          | _ => exact no_none h
        | _ => exact no_none h
noncomputable def cop (o : CO) (x y : PV) : Option Bool := match x with
  | .int a => (match y with
    | .int b => some (match o with
      | .eq => decide (a = b)
      | .ne => decide (a ≠ b)
      | .lt => decide (a < b)
      | .le => decide (a ≤ b)
      | .gt => decide (b < a)
      | .ge => decide (b ≤ a))
    | _ => none)
  | .lst a => (match y with
    | .lst b => (match b with
      | [] => (match o with
        | .eq => some a.isEmpty
        | .ne => some (!a.isEmpty)
        | _ => none)
      | _ :: _ => none)
    | _ => none)
  | .tup l => (match o with
    | .ne => (match y with
      | .tup m => (i2? l).bind fun p => (i2? m).bind fun q => some (!(decide (p.1 = q.1) && decide (p.2 = q.2)))
      | _ => none)
    | _ => none)
  | _ => none
theorem cE (a b : Int) : cop .eq (.int a) (.int b) = some (decide (a = b)) := rfl
theorem cN (a b : Int) : cop .ne (.int a) (.int b) = some (decide (a ≠ b)) := rfl
theorem cL (a b : Int) : cop .lt (.int a) (.int b) = some (decide (a < b)) := rfl
noncomputable def glv : Gl → PV
  | .half => .tup [.int 1, .int 2]
  | .r0 => .tup [.int 0, .int 1]
  | .most => .int 10000000000
noncomputable def pget : List Slot → Nat → Slot
  | [], _ => .un
  | a :: _, 0 => a
  | _ :: l, n + 1 => pget l n
noncomputable def pset : List Slot → Nat → Slot → List Slot
  | [], _, _ => []
  | _ :: l, 0, s => s :: l
  | a :: l, n + 1, s => a :: pset l n s
noncomputable def pidx (l : List PV) (i : Int) : Option PV := if 0 ≤ i then l[i.toNat]? else if -(l.length : Int) ≤ i then l[((l.length : Int) + i).toNat]? else none
noncomputable def ptg (ρ : List Slot) : Tg → PV → Option (List Slot)
  | .one i, v => some (pset ρ i (.val v))
  | .two i j, .tup [a, b] => some (pset (pset ρ i (.val a)) j (.val b))
  | _, _ => none
noncomputable def maxInts : List PV → Option Int
  | [.int a] => some a
  | .int a :: r => (maxInts r).map fun m => if a < m then m else a
  | _ => none
noncomputable def anyB : List PV → Option Bool
  | [] => some false
  | .bool b :: r => (anyB r).map fun c => b || c
  | _ => none
noncomputable abbrev Den := Fn → List PV → Option PV
noncomputable def peek (ρ : List Slot) : PE → Option (List PV)
  | .var i => match pget ρ i with | .own l => some l | _ => none
  | _ => none
noncomputable def enumPV : Nat → List PV → List PV
  | _, [] => []
  | n, x :: r => .tup [.int n, x] :: enumPV (n + 1) r
noncomputable def rngPV (a b : Int) : List PV := (List.range (b - a).toNat).map fun (k : Nat) => PV.int (a + (k : Int))
noncomputable def compGo (ρ : List Slot) (t : Tg) (f : List Slot → Option PV) : List PV → Option (List PV)
  | [] => some []
  | x :: r => (ptg ρ t x).bind fun ρ' => (f ρ').bind fun y => (compGo ρ t f r).map fun z => y :: z
noncomputable def compIfGo (ρ : List Slot) (t : Tg) (f c : List Slot → Option PV) : List PV → Option (List PV)
  | [] => some []
  | x :: r => (ptg ρ t x).bind fun ρ' => (c ρ').bind fun b => match b with
    | .bool true => (f ρ').bind fun y => (compIfGo ρ t f c r).map fun z => y :: z
    | .bool false => compIfGo ρ t f c r
    | _ => none
noncomputable def isFresh (p : PE) : Bool := match p with
  | .lst _ => true
  | .bin o a _ => (match o with
    | .mul => (match a with
      | .lst _ => true
      | _ => false)
    | _ => false)
  | .list _ => true
  | _ => false
theorem isFresh_el {p : PE} {P : PE → Prop} (h : isFresh p = true) (k1 : ∀ q, P (.lst q)) (k2 : ∀ q b, P (.bin .mul (.lst q) b)) (k3 : ∀ q, P (.list q)) : P p := by
  cases p with
  | lst q => exact k1 q
  | list q => exact k3 q
  | bin o a b => cases o with
    | mul => cases a with
      | lst q => exact k2 q b
      | _ => exact no_ff h
    | _ => exact no_ff h
  | _ => exact no_ff h
noncomputable def hide : List Slot → List Slot
  | [] => []
  | .own _ :: r => .un :: hide r
  | s :: r => s :: hide r
noncomputable def clr : Tg → List Slot → List Slot
  | .one i, ρ => pset ρ i .un
  | .two i j, ρ => pset (pset ρ i .un) j .un
noncomputable def isI {β : Type} (f : Int → Option β) (v : PV) : Option β := match v with | .int i => f i | _ => none
noncomputable def isB {β : Type} (f : Bool → Option β) (v : PV) : Option β := match v with | .bool i => f i | _ => none
noncomputable def isL {β : Type} (f : List PV → Option β) (v : PV) : Option β := match v with | .lst i => f i | _ => none
noncomputable def isT {β : Type} (f : List PV → Option β) (v : PV) : Option β := match v with | .tup i => f i | _ => none
noncomputable def isM {β : Type} (f : List PV → Option β) (v : PV) : Option β := match v with | .lst i => f i | .itr i => f i | _ => none
noncomputable def isS {β : Type} (f : List PV → Option β) (v : PV) : Option β := match v with | .lst i => f i | .tup i => f i | _ => none
noncomputable def nI {β : Type} (v : PV) (o : Option β) : Option β := match v with | .itr _ => none | _ => o
theorem jI {β : Type} {f : Int → Option β} {i : Int} : isI f (.int i) = f i := rfl
theorem jB {β : Type} {f : Bool → Option β} {i : Bool} : isB f (.bool i) = f i := rfl
theorem jL {β : Type} {f : List PV → Option β} {i : List PV} : isL f (.lst i) = f i := rfl
theorem jT {β : Type} {f : List PV → Option β} {i : List PV} : isT f (.tup i) = f i := rfl
theorem jS {β : Type} {f : List PV → Option β} {i : List PV} : isS f (.lst i) = f i := rfl
theorem jN {β : Type} {i : Int} {o : Option β} : nI (.int i) o = o := rfl
theorem isI_t {β : Type} {f : Int → Option β} {v : PV} {r : β} {P : Prop} (h : isI f v = some r) (k : ∀ i, v = .int i → f i = some r → P) : P := by
  cases v with | int i => exact k i rfl h | _ => exact no_none h
theorem isB_t {β : Type} {f : Bool → Option β} {v : PV} {r : β} {P : Prop} (h : isB f v = some r) (k : ∀ i, v = .bool i → f i = some r → P) : P := by
  cases v with | bool i => exact k i rfl h | _ => exact no_none h
theorem isL_t {β : Type} {f : List PV → Option β} {v : PV} {r : β} {P : Prop} (h : isL f v = some r) (k : ∀ i, v = .lst i → f i = some r → P) : P := by
  cases v with | lst i => exact k i rfl h | _ => exact no_none h
theorem isT_t {β : Type} {f : List PV → Option β} {v : PV} {r : β} {P : Prop} (h : isT f v = some r) (k : ∀ i, v = .tup i → f i = some r → P) : P := by
  cases v with | tup i => exact k i rfl h | _ => exact no_none h
theorem isM_t {β : Type} {f : List PV → Option β} {v : PV} {r : β} {P : Prop} (h : isM f v = some r) (k : ∀ i, v = .lst i ∨ v = .itr i → f i = some r → P) : P := by
  cases v with | lst i => exact k i (.inl rfl) h | itr i => exact k i (.inr rfl) h | _ => exact no_none h
theorem nI_t {β : Type} {v : PV} {o : Option β} {r : β} (h : nI v o = some r) : (∀ l, v ≠ .itr l) ∧ o = some r := by
  cases v with | itr i => exact no_none h | _ => exact ⟨nofun, h⟩
noncomputable def pev (D : Den) (ρ : List Slot) : PE → Option PV
  | .bad => none
  | .non => some .none
  | .tru => some (.bool true)
  | .fls => some (.bool false)
  | .lit v => some (.int v)
  | .var i => match pget ρ i with | .val v => some v | _ => none
  | .glb g => some (glv g)
  | .bin o a b => (pev D ρ a).bind fun x => (pev D ρ b).bind fun y => bop o x y
  | .neg a => (pev D ρ a).bind (isI fun i => some (.int (-i)))
  | .cmp o a b => (match peek ρ a with | some l => some (PV.lst l) | none => pev D ρ a).bind fun x => (pev D ρ b).bind fun y => (cop o x y).map .bool
  | .notNone a => (pev D ρ a).map fun x => .bool (match x with | .none => false | _ => true)
  | .and a b => (pev D ρ a).bind (isB fun t => match t with | true => (pev D ρ b).bind (isB fun c => some (.bool c)) | false => some (.bool false))
  | .or a b => (pev D ρ a).bind (isB fun t => match t with | false => (pev D ρ b).bind (isB fun c => some (.bool c)) | true => some (.bool true))
  | .ite c a b => (pev D ρ c).bind (isB fun t => match t with | true => pev D ρ a | false => pev D ρ b)
  | .nil => some (.tup [])
  | .cons a l => (pev D ρ a).bind fun x => (pev D ρ l).bind (isT fun r => nI x (some (.tup (x :: r))))
  | .tup l => pev D ρ l
  | .lst l => (pev D ρ l).bind (isT fun r => fit r)
  | .idx a i => (match peek ρ a with | some l => some (PV.lst l) | none => pev D ρ a).bind fun x => (pev D ρ i).bind (isI fun k => isS (fun l => pidx l k) x)
  | .«from» a i => (pev D ρ a).bind fun x => (pev D ρ i).bind (isI fun k => isL (fun l => if 0 ≤ k then some (.lst (l.drop k.toNat)) else none) x)
  | .upto a i => (pev D ρ a).bind fun x => (pev D ρ i).bind (isI fun k => isL (fun l => if 0 ≤ k then some (.lst (l.take k.toNat)) else none) x)
  | .call f l => (pev D ρ l).bind (isT fun r => D f r)
  | .abs a => (pev D ρ a).bind (isI fun i => some (.int (if i < 0 then -i else i)))
  | .len a => (match peek ρ a with | some l => some (PV.lst l) | none => pev D ρ a).bind (isL fun l => some (.int l.length))
  | .list a => (pev D ρ a).bind (isL fun l => some (.lst l))
  | .max2 a b => (pev D ρ a).bind fun x => (pev D ρ b).bind fun y => isI (fun a => isI (fun b => some (.int (if b > a then b else a))) y) x
  | .maxl a => (pev D ρ a).bind (isL fun l => (maxInts l).map .int)
  | .any a => (pev D ρ a).bind (isL fun l => (anyB l).map .bool)
  | .isstr a => (pev D ρ a).bind (isT fun o0 => some (.bool false))
  | .rng1 a => (pev D ρ a).bind (isI fun n => if 0 ≤ n ∧ n ≤ LL then some (.itr (rngPV 0 n)) else none)
  | .rng2 a b => (pev D ρ a).bind fun x => (pev D ρ b).bind fun y => isI (fun a => isI (fun b => if 0 ≤ a ∧ a ≤ LL ∧ 0 ≤ b ∧ b ≤ LL then some (.itr (rngPV a b)) else none) y) x
  | .enum a => (pev D ρ a).bind (isL fun l => some (.itr (enumPV 0 l)))
  | .rev a => (pev D ρ a).bind (isL fun l => some (.itr l.reverse))
  | .comp e t it => (pev D ρ it).bind (isM fun l => if l.length ≤ LL then (compGo (clr t (hide ρ)) t (fun ρ' => pev D ρ' e) l).map .lst else none)
  | .compIf e t it c => (pev D ρ it).bind (isM fun l => if l.length ≤ LL then (compIfGo (clr t (hide ρ)) t (fun ρ' => pev D ρ' e) (fun ρ' => pev D ρ' c) l).map .lst else none)
section
variable {D : Den} {ρ : List Slot}
theorem pv_lit {v} : pev D ρ (.lit v) = (some (.int v)) := rfl
theorem pv_var {i} : pev D ρ (.var i) = (match pget ρ i with | .val v => some v | _ => none) := rfl
theorem pv_bin {o a b} : pev D ρ (.bin o a b) = ((pev D ρ a).bind fun x => (pev D ρ b).bind fun y => bop o x y) := rfl
theorem pv_neg {a} : pev D ρ (.neg a) = ((pev D ρ a).bind (isI fun i => some (.int (-i)))) := rfl
theorem pv_cmp {o a b} : pev D ρ (.cmp o a b) = ((match peek ρ a with | some l => some (PV.lst l) | none => pev D ρ a).bind fun x => (pev D ρ b).bind fun y => (cop o x y).map .bool) := rfl
theorem pv_notNone {a} : pev D ρ (.notNone a) = ((pev D ρ a).map fun x => .bool (match x with | .none => false | _ => true)) := rfl
theorem pv_and {a b} : pev D ρ (.and a b) = ((pev D ρ a).bind (isB fun t => match t with | true => (pev D ρ b).bind (isB fun c => some (.bool c)) | false => some (.bool false))) := rfl
theorem pv_or {a b} : pev D ρ (.or a b) = ((pev D ρ a).bind (isB fun t => match t with | false => (pev D ρ b).bind (isB fun c => some (.bool c)) | true => some (.bool true))) := rfl
theorem pv_ite {c a b} : pev D ρ (.ite c a b) = ((pev D ρ c).bind (isB fun t => match t with | true => pev D ρ a | false => pev D ρ b)) := rfl
theorem pv_nil : pev D ρ (.nil) = (some (.tup [])) := rfl
theorem pv_cons {a l} : pev D ρ (.cons a l) = ((pev D ρ a).bind fun x => (pev D ρ l).bind (isT fun r => nI x (some (.tup (x :: r))))) := rfl
theorem pv_tup {l} : pev D ρ (.tup l) = (pev D ρ l) := rfl
theorem pv_lst {l} : pev D ρ (.lst l) = ((pev D ρ l).bind (isT fun r => fit r)) := rfl
theorem pv_idx {a i} : pev D ρ (.idx a i) = ((match peek ρ a with | some l => some (PV.lst l) | none => pev D ρ a).bind fun x => (pev D ρ i).bind (isI fun k => isS (fun l => pidx l k) x)) := rfl
theorem pv_from {a i} : pev D ρ (.«from» a i) = ((pev D ρ a).bind fun x => (pev D ρ i).bind (isI fun k => isL (fun l => if 0 ≤ k then some (.lst (l.drop k.toNat)) else none) x)) := rfl
theorem pv_upto {a i} : pev D ρ (.upto a i) = ((pev D ρ a).bind fun x => (pev D ρ i).bind (isI fun k => isL (fun l => if 0 ≤ k then some (.lst (l.take k.toNat)) else none) x)) := rfl
theorem pv_call {f l} : pev D ρ (.call f l) = ((pev D ρ l).bind (isT fun r => D f r)) := rfl
theorem pv_abs {a} : pev D ρ (.abs a) = ((pev D ρ a).bind (isI fun i => some (.int (if i < 0 then -i else i)))) := rfl
theorem pv_len {a} : pev D ρ (.len a) = ((match peek ρ a with | some l => some (PV.lst l) | none => pev D ρ a).bind (isL fun l => some (.int l.length))) := rfl
theorem pv_list {a} : pev D ρ (.list a) = ((pev D ρ a).bind (isL fun l => some (.lst l))) := rfl
theorem pv_max2 {a b} : pev D ρ (.max2 a b) = ((pev D ρ a).bind fun x => (pev D ρ b).bind fun y => isI (fun a => isI (fun b => some (.int (if b > a then b else a))) y) x) := rfl
theorem pv_maxl {a} : pev D ρ (.maxl a) = ((pev D ρ a).bind (isL fun l => (maxInts l).map .int)) := rfl
theorem pv_any {a} : pev D ρ (.any a) = ((pev D ρ a).bind (isL fun l => (anyB l).map .bool)) := rfl
theorem pv_isstr {a} : pev D ρ (.isstr a) = ((pev D ρ a).bind (isT fun o0 => some (.bool false))) := rfl
theorem pv_rng1 {a} : pev D ρ (.rng1 a) = ((pev D ρ a).bind (isI fun n => if 0 ≤ n ∧ n ≤ LL then some (.itr (rngPV 0 n)) else none)) := rfl
theorem pv_rng2 {a b} : pev D ρ (.rng2 a b) = ((pev D ρ a).bind fun x => (pev D ρ b).bind fun y => isI (fun a => isI (fun b => if 0 ≤ a ∧ a ≤ LL ∧ 0 ≤ b ∧ b ≤ LL then some (.itr (rngPV a b)) else none) y) x) := rfl
theorem pv_enum {a} : pev D ρ (.enum a) = ((pev D ρ a).bind (isL fun l => some (.itr (enumPV 0 l)))) := rfl
theorem pv_rev {a} : pev D ρ (.rev a) = ((pev D ρ a).bind (isL fun l => some (.itr l.reverse))) := rfl
theorem pv_comp {e t it} : pev D ρ (.comp e t it) = ((pev D ρ it).bind (isM fun l => if l.length ≤ LL then (compGo (clr t (hide ρ)) t (fun ρ' => pev D ρ' e) l).map .lst else none)) := rfl
theorem pv_compIf {e t it c} : pev D ρ (.compIf e t it c) = ((pev D ρ it).bind (isM fun l => if l.length ≤ LL then (compIfGo (clr t (hide ρ)) t (fun ρ' => pev D ρ' e) (fun ρ' => pev D ρ' c) l).map .lst else none)) := rfl
theorem pX {i v} (h : pget ρ i = .val v) : pev D ρ (.var i) = some v := by rw [pv_var, h]
end
noncomputable def pit (D : Den) (ρ : List Slot) (e : PE) : Option (List PV) := (pev D ρ e).bind (isM some)
inductive Fl where
  | next
  | ret (v : PV)
noncomputable def psets : List Slot → List (Nat × Slot) → List Slot
  | ρ, [] => ρ
  | ρ, (i, s) :: r => psets (pset ρ i s) r
noncomputable def PV.ok : PV → Bool
  | .itr _ => false
  | _ => true
noncomputable def augOk : BO → Bool
  | .add | .sub => true
  | _ => false
noncomputable def pevs (D : Den) (ρ : List Slot) : List Bool → PE → Option (List Slot)
  | _, .nil => some []
  | fs, .cons a l => (match fs with
    | [] => none
    | f :: fs => (pev D ρ a).bind fun x => (pevs D ρ fs l).bind fun r => match f with
      | true => isL (fun xs => if isFresh a then some (.own xs :: r) else none) x
      | false => nI x (some (.val x :: r)))
  | _, _ => none
termination_by structural _ p => p
structure ExC (D : Den) (P : List Slot → PS → Fl → List Slot → Prop) : Prop where
  skip : ∀ {ρ}, P ρ .skip .next ρ
  seq : ∀ {ρ ρ1 ρ2 a b fl}, P ρ a .next ρ1 → P ρ1 b fl ρ2 → P ρ (.seq a b) fl ρ2
  seqR : ∀ {ρ ρ1 a b v}, P ρ a (.ret v) ρ1 → P ρ (.seq a b) (.ret v) ρ1
  frz : ∀ {ρ i l s fl ρ1}, pget ρ i = .own l → P (pset ρ i (.val (.lst l))) s fl ρ1 → P ρ s fl ρ1
  asg : ∀ {ρ i e v}, pev D ρ e = some v → v.ok = true → P ρ (.asg i e) .next (pset ρ i (.val v))
  asgO : ∀ {ρ i e l}, isFresh e = true → pev D ρ e = some (.lst l) → P ρ (.asg i e) .next (pset ρ i (.own l))
  asgT : ∀ {ρ is e ss} (fs : List Bool), pevs D ρ fs e = some ss → is.length = ss.length → P ρ (.asgT is e) .next (psets ρ (is.zip ss))
  unp : ∀ {ρ is e l}, pev D ρ e = some (.tup l) → is.length = l.length → P ρ (.unp is e) .next (psets ρ (is.zip (l.map .val)))
  pop : ∀ {ρ is i l t}, pget ρ i = .own (l ++ [.tup t]) → is.length = t.length → P ρ (.pop is i) .next (psets (pset ρ i (.own l)) (is.zip (t.map .val)))
  seti : ∀ {ρ i ix e v k l}, pev D ρ e = some v → v.ok = true → pget ρ i = .own l → pev D ρ ix = some (.int k) → 0 ≤ k → k.toNat < l.length → P ρ (.seti i ix e) .next (pset ρ i (.own (l.set k.toNat v)))
  aug : ∀ {ρ i o e a b r}, pget ρ i = .val (.int a) → pev D ρ e = some (.int b) → augOk o = true → bop o (.int a) (.int b) = some (.int r) → P ρ (.aug i o e) .next (pset ρ i (.val (.int r)))
  app : ∀ {ρ i e v l}, pget ρ i = .own l → pev D ρ e = some v → v.ok = true → l.length < LL → P ρ (.app i e) .next (pset ρ i (.own (l ++ [v])))
  ins : ∀ {ρ i a e k v l}, pget ρ i = .own l → pev D ρ a = some (.int k) → pev D ρ e = some v → v.ok = true → 0 ≤ k → k.toNat ≤ l.length → l.length < LL → P ρ (.ins i a e) .next (pset ρ i (.own (l.take k.toNat ++ v :: l.drop k.toNat)))
  exp : ∀ {ρ e}, pev D ρ e = some .none → P ρ (.exp e) .next ρ
  ret : ∀ {ρ e v}, pev D ρ e = some v → v.ok = true → P ρ (.ret e) (.ret v) ρ
  ifeT : ∀ {ρ c t e fl ρ1}, pev D ρ c = some (.bool true) → P ρ t fl ρ1 → P ρ (.ife c t e) fl ρ1
  ifeF : ∀ {ρ c t e fl ρ1}, pev D ρ c = some (.bool false) → P ρ e fl ρ1 → P ρ (.ife c t e) fl ρ1
  whlF : ∀ {ρ c b}, pev D ρ c = some (.bool false) → P ρ (.whl c b) .next ρ
  whlT : ∀ {ρ c b ρ1 fl ρ2}, pev D ρ c = some (.bool true) → P ρ b .next ρ1 → P ρ1 (.whl c b) fl ρ2 → P ρ (.whl c b) fl ρ2
  whlR : ∀ {ρ c b v ρ1}, pev D ρ c = some (.bool true) → P ρ b (.ret v) ρ1 → P ρ (.whl c b) (.ret v) ρ1
  forr : ∀ {ρ t it items b fl ρ1}, pit D ρ it = some items → P ρ (.forI t items b) fl ρ1 → P ρ (.forr t it b) fl ρ1
  forN : ∀ {ρ t b}, P ρ (.forI t [] b) .next ρ
  forC : ∀ {ρ t x r b ρ1 ρ2 fl ρ3}, ptg ρ t x = some ρ1 → P ρ1 b .next ρ2 → P ρ2 (.forI t r b) fl ρ3 → P ρ (.forI t (x :: r) b) fl ρ3
  forR : ∀ {ρ t x r b ρ1 v ρ2}, ptg ρ t x = some ρ1 → P ρ1 b (.ret v) ρ2 → P ρ (.forI t (x :: r) b) (.ret v) ρ2
noncomputable def Ex (D : Den) (ρ : List Slot) (s : PS) (fl : Fl) (ρ' : List Slot) : Prop := ∀ P, ExC D P → P ρ s fl ρ'
theorem Ex.skip {D : Den} {ρ} : Ex D ρ .skip .next ρ := fun P c => c.skip 
theorem Ex.seq {D : Den} {ρ ρ1 ρ2 a b fl} (h0 : Ex D ρ a .next ρ1) (h1 : Ex D ρ1 b fl ρ2) : Ex D ρ (.seq a b) fl ρ2 := fun P c => c.seq (h0 P c) (h1 P c)
theorem Ex.seqR {D : Den} {ρ ρ1 a b v} (h0 : Ex D ρ a (.ret v) ρ1) : Ex D ρ (.seq a b) (.ret v) ρ1 := fun P c => c.seqR (h0 P c)
theorem Ex.frz {D : Den} {ρ i l s fl ρ1} (h0 : pget ρ i = .own l) (h1 : Ex D (pset ρ i (.val (.lst l))) s fl ρ1) : Ex D ρ s fl ρ1 := fun P c => c.frz h0 (h1 P c)
theorem Ex.asg {D : Den} {ρ i e v} (h0 : pev D ρ e = some v) (h1 : v.ok = true) : Ex D ρ (.asg i e) .next (pset ρ i (.val v)) := fun P c => c.asg h0 h1
theorem Ex.asgO {D : Den} {ρ i e l} (h0 : isFresh e = true) (h1 : pev D ρ e = some (.lst l)) : Ex D ρ (.asg i e) .next (pset ρ i (.own l)) := fun P c => c.asgO h0 h1
theorem Ex.asgT {D : Den} {ρ is e ss} (fs : List Bool) (h0 : pevs D ρ fs e = some ss) (h1 : is.length = ss.length) : Ex D ρ (.asgT is e) .next (psets ρ (is.zip ss)) := fun P c => c.asgT fs h0 h1
theorem Ex.unp {D : Den} {ρ is e l} (h0 : pev D ρ e = some (.tup l)) (h1 : is.length = l.length) : Ex D ρ (.unp is e) .next (psets ρ (is.zip (l.map .val))) := fun P c => c.unp h0 h1
theorem Ex.pop {D : Den} {ρ is i l t} (h0 : pget ρ i = .own (l ++ [.tup t])) (h1 : is.length = t.length) : Ex D ρ (.pop is i) .next (psets (pset ρ i (.own l)) (is.zip (t.map .val))) := fun P c => c.pop h0 h1
theorem Ex.seti {D : Den} {ρ i ix e v k l} (h0 : pev D ρ e = some v) (h1 : v.ok = true) (h2 : pget ρ i = .own l) (h3 : pev D ρ ix = some (.int k)) (h4 : 0 ≤ k) (h5 : k.toNat < l.length) : Ex D ρ (.seti i ix e) .next (pset ρ i (.own (l.set k.toNat v))) := fun P c => c.seti h0 h1 h2 h3 h4 h5
theorem Ex.aug {D : Den} {ρ i o e a b r} (h0 : pget ρ i = .val (.int a)) (h1 : pev D ρ e = some (.int b)) (h2 : augOk o = true) (h3 : bop o (.int a) (.int b) = some (.int r)) : Ex D ρ (.aug i o e) .next (pset ρ i (.val (.int r))) := fun P c => c.aug h0 h1 h2 h3
theorem Ex.app {D : Den} {ρ i e v l} (h0 : pget ρ i = .own l) (h1 : pev D ρ e = some v) (h2 : v.ok = true) (h3 : l.length < LL) : Ex D ρ (.app i e) .next (pset ρ i (.own (l ++ [v]))) := fun P c => c.app h0 h1 h2 h3
theorem Ex.ins {D : Den} {ρ i a e k v l} (h0 : pget ρ i = .own l) (h1 : pev D ρ a = some (.int k)) (h2 : pev D ρ e = some v) (h3 : v.ok = true) (h4 : 0 ≤ k) (h5 : k.toNat ≤ l.length) (h6 : l.length < LL) : Ex D ρ (.ins i a e) .next (pset ρ i (.own (l.take k.toNat ++ v :: l.drop k.toNat))) := fun P c => c.ins h0 h1 h2 h3 h4 h5 h6
theorem Ex.exp {D : Den} {ρ e} (h0 : pev D ρ e = some .none) : Ex D ρ (.exp e) .next ρ := fun P c => c.exp h0
theorem Ex.ret {D : Den} {ρ e v} (h0 : pev D ρ e = some v) (h1 : v.ok = true) : Ex D ρ (.ret e) (.ret v) ρ := fun P c => c.ret h0 h1
theorem Ex.ifeT {D : Den} {ρ c t e fl ρ1} (h0 : pev D ρ c = some (.bool true)) (h1 : Ex D ρ t fl ρ1) : Ex D ρ (.ife c t e) fl ρ1 := fun P c => c.ifeT h0 (h1 P c)
theorem Ex.ifeF {D : Den} {ρ c t e fl ρ1} (h0 : pev D ρ c = some (.bool false)) (h1 : Ex D ρ e fl ρ1) : Ex D ρ (.ife c t e) fl ρ1 := fun P c => c.ifeF h0 (h1 P c)
theorem Ex.whlF {D : Den} {ρ c b} (h0 : pev D ρ c = some (.bool false)) : Ex D ρ (.whl c b) .next ρ := fun P c => c.whlF h0
theorem Ex.whlT {D : Den} {ρ c b ρ1 fl ρ2} (h0 : pev D ρ c = some (.bool true)) (h1 : Ex D ρ b .next ρ1) (h2 : Ex D ρ1 (.whl c b) fl ρ2) : Ex D ρ (.whl c b) fl ρ2 := fun P c => c.whlT h0 (h1 P c) (h2 P c)
theorem Ex.whlR {D : Den} {ρ c b v ρ1} (h0 : pev D ρ c = some (.bool true)) (h1 : Ex D ρ b (.ret v) ρ1) : Ex D ρ (.whl c b) (.ret v) ρ1 := fun P c => c.whlR h0 (h1 P c)
theorem Ex.forr {D : Den} {ρ t it items b fl ρ1} (h0 : pit D ρ it = some items) (h1 : Ex D ρ (.forI t items b) fl ρ1) : Ex D ρ (.forr t it b) fl ρ1 := fun P c => c.forr h0 (h1 P c)
theorem Ex.forN {D : Den} {ρ t b} : Ex D ρ (.forI t [] b) .next ρ := fun P c => c.forN 
theorem Ex.forC {D : Den} {ρ t x r b ρ1 ρ2 fl ρ3} (h0 : ptg ρ t x = some ρ1) (h1 : Ex D ρ1 b .next ρ2) (h2 : Ex D ρ2 (.forI t r b) fl ρ3) : Ex D ρ (.forI t (x :: r) b) fl ρ3 := fun P c => c.forC h0 (h1 P c) (h2 P c)
theorem Ex.forR {D : Den} {ρ t x r b ρ1 v ρ2} (h0 : ptg ρ t x = some ρ1) (h1 : Ex D ρ1 b (.ret v) ρ2) : Ex D ρ (.forI t (x :: r) b) (.ret v) ρ2 := fun P c => c.forR h0 (h1 P c)
noncomputable def init (f : Fn) (args : List PV) : List Slot := args.map .val ++ List.replicate (f.slots - args.length) .un
theorem compIfGo_e1 : compIfGo ρ t f c ([]) = (some []) := rfl
theorem compIfGo_e2 : compIfGo ρ t f c (x :: r) = ((ptg ρ t x).bind fun ρ' => (c ρ').bind fun b => match b with
    | .bool true => (f ρ').bind fun y => (compIfGo ρ t f c r).map fun z => y :: z
    | .bool false => compIfGo ρ t f c r
    | _ => none) := rfl
theorem compGo_e1 : compGo ρ t f ([]) = (some []) := rfl
theorem compGo_e2 : compGo ρ t f (x :: r) = ((ptg ρ t x).bind fun ρ' => (f ρ').bind fun y => (compGo ρ t f r).map fun z => y :: z) := rfl
theorem enumPV_e1 : enumPV  (w1) ([]) = ([]) := rfl
theorem enumPV_e2 : enumPV  (n) (x :: r) = (.tup [.int n, x] :: enumPV (n + 1) r) := rfl
theorem anyB_e1 : anyB  ([]) = (some false) := rfl
theorem anyB_e2 : anyB  (.bool b :: r) = ((anyB r).map fun c => b || c) := rfl
theorem pset_e1 : pset  ([]) (w1) (w2) = ([]) := rfl
theorem pset_e2 : pset  (w1 :: l) (0) (s) = (s :: l) := rfl
theorem pset_e3 : pset  (a :: l) (n + 1) (s) = (a :: pset l n s) := rfl
theorem pget_e1 : pget  ([]) (w1) = (.un) := rfl
theorem pget_e2 : pget  (a :: w1) (0) = (a) := rfl
theorem pget_e3 : pget  (w1 :: l) (n + 1) = (pget l n) := rfl
end Mine.Internal
namespace Mine.Internal
open PySem
theorem dif_s {c : Prop} [Decidable c] {α : Type} {f : c → Option α} {v : α} (h : (if q : c then f q else none) = some v) : ∃ q, f q = some v := if q : c then ⟨q, (dif_pos q).symm.trans h⟩ else no_none ((dif_neg q).symm.trans h)
noncomputable def xBoolOp (e : Expr) : Option (BoolOp × (List Expr)) := if q : e.ctorIdx = 0 then Expr.BoolOp.elim (motive_1 := fun o0 => Option (BoolOp × (List Expr))) e q (fun a0 a1 o0 => some (a0, a1)) else none
@[elab_as_elim] theorem xBoolOp_el {e : Expr} {a0 a1} {P : Expr → Prop} (h : xBoolOp e = some (a0, a1)) (kk : ∀ p, P (.BoolOp a0 a1 p)) : P e := by
  obtain ⟨q, h⟩ := dif_s h
  exact Expr.BoolOp.elim (motive_1 := fun e => ∀ q, Expr.BoolOp.elim (motive_1 := fun o0 => Option (BoolOp × (List Expr))) e q (fun a0 a1 o0 => some (a0, a1)) = some (a0, a1) → P e) e q (fun o0 o0 p o0 h => Eq.mpr (congrArg (fun t => P (.BoolOp t.1 t.2 p)) (Option.some.inj h)) (kk p)) q h
noncomputable def xBinOp (e : Expr) : Option (Expr × Operator × Expr) := if q : e.ctorIdx = 2 then Expr.BinOp.elim (motive_1 := fun o0 => Option (Expr × Operator × Expr)) e q (fun a0 a1 a2 o0 => some (a0, a1, a2)) else none
@[elab_as_elim] theorem xBinOp_el {e : Expr} {a0 a1 a2} {P : Expr → Prop} (h : xBinOp e = some (a0, a1, a2)) (kk : ∀ p, P (.BinOp a0 a1 a2 p)) : P e := by
  obtain ⟨q, h⟩ := dif_s h
  exact Expr.BinOp.elim (motive_1 := fun e => ∀ q, Expr.BinOp.elim (motive_1 := fun o0 => Option (Expr × Operator × Expr)) e q (fun a0 a1 a2 o0 => some (a0, a1, a2)) = some (a0, a1, a2) → P e) e q (fun o0 o0 o0 p o0 h => Eq.mpr (congrArg (fun t => P (.BinOp t.1 t.2.1 t.2.2 p)) (Option.some.inj h)) (kk p)) q h
noncomputable def xUnaryOp (e : Expr) : Option (UnaryOp × Expr) := if q : e.ctorIdx = 3 then Expr.UnaryOp.elim (motive_1 := fun o0 => Option (UnaryOp × Expr)) e q (fun a0 a1 o0 => some (a0, a1)) else none
@[elab_as_elim] theorem xUnaryOp_el {e : Expr} {a0 a1} {P : Expr → Prop} (h : xUnaryOp e = some (a0, a1)) (kk : ∀ p, P (.UnaryOp a0 a1 p)) : P e := by
  obtain ⟨q, h⟩ := dif_s h
  exact Expr.UnaryOp.elim (motive_1 := fun e => ∀ q, Expr.UnaryOp.elim (motive_1 := fun o0 => Option (UnaryOp × Expr)) e q (fun a0 a1 o0 => some (a0, a1)) = some (a0, a1) → P e) e q (fun o0 o0 p o0 h => Eq.mpr (congrArg (fun t => P (.UnaryOp t.1 t.2 p)) (Option.some.inj h)) (kk p)) q h
noncomputable def xIfExp (e : Expr) : Option (Expr × Expr × Expr) := if q : e.ctorIdx = 5 then Expr.IfExp.elim (motive_1 := fun o0 => Option (Expr × Expr × Expr)) e q (fun a0 a1 a2 o0 => some (a0, a1, a2)) else none
@[elab_as_elim] theorem xIfExp_el {e : Expr} {a0 a1 a2} {P : Expr → Prop} (h : xIfExp e = some (a0, a1, a2)) (kk : ∀ p, P (.IfExp a0 a1 a2 p)) : P e := by
  obtain ⟨q, h⟩ := dif_s h
  exact Expr.IfExp.elim (motive_1 := fun e => ∀ q, Expr.IfExp.elim (motive_1 := fun o0 => Option (Expr × Expr × Expr)) e q (fun a0 a1 a2 o0 => some (a0, a1, a2)) = some (a0, a1, a2) → P e) e q (fun o0 o0 o0 p o0 h => Eq.mpr (congrArg (fun t => P (.IfExp t.1 t.2.1 t.2.2 p)) (Option.some.inj h)) (kk p)) q h
noncomputable def xDict (e : Expr) : Option ((List (Option Expr)) × (List Expr)) := if q : e.ctorIdx = 6 then Expr.Dict.elim (motive_1 := fun o0 => Option ((List (Option Expr)) × (List Expr))) e q (fun a0 a1 o0 => some (a0, a1)) else none
@[elab_as_elim] theorem xDict_el {e : Expr} {a0 a1} {P : Expr → Prop} (h : xDict e = some (a0, a1)) (kk : ∀ p, P (.Dict a0 a1 p)) : P e := by
  obtain ⟨q, h⟩ := dif_s h
  exact Expr.Dict.elim (motive_1 := fun e => ∀ q, Expr.Dict.elim (motive_1 := fun o0 => Option ((List (Option Expr)) × (List Expr))) e q (fun a0 a1 o0 => some (a0, a1)) = some (a0, a1) → P e) e q (fun o0 o0 p o0 h => Eq.mpr (congrArg (fun t => P (.Dict t.1 t.2 p)) (Option.some.inj h)) (kk p)) q h
noncomputable def xListComp (e : Expr) : Option (Expr × (List Comprehension) × Scope) := if q : e.ctorIdx = 8 then Expr.ListComp.elim (motive_1 := fun o0 => Option (Expr × (List Comprehension) × Scope)) e q (fun a0 a1 a2 o0 => some (a0, a1, a2)) else none
@[elab_as_elim] theorem xListComp_el {e : Expr} {a0 a1 a2} {P : Expr → Prop} (h : xListComp e = some (a0, a1, a2)) (kk : ∀ p, P (.ListComp a0 a1 a2 p)) : P e := by
  obtain ⟨q, h⟩ := dif_s h
  exact Expr.ListComp.elim (motive_1 := fun e => ∀ q, Expr.ListComp.elim (motive_1 := fun o0 => Option (Expr × (List Comprehension) × Scope)) e q (fun a0 a1 a2 o0 => some (a0, a1, a2)) = some (a0, a1, a2) → P e) e q (fun o0 o0 o0 p o0 h => Eq.mpr (congrArg (fun t => P (.ListComp t.1 t.2.1 t.2.2 p)) (Option.some.inj h)) (kk p)) q h
noncomputable def xCompare (e : Expr) : Option (Expr × (List CmpOp) × (List Expr)) := if q : e.ctorIdx = 15 then Expr.Compare.elim (motive_1 := fun o0 => Option (Expr × (List CmpOp) × (List Expr))) e q (fun a0 a1 a2 o0 => some (a0, a1, a2)) else none
@[elab_as_elim] theorem xCompare_el {e : Expr} {a0 a1 a2} {P : Expr → Prop} (h : xCompare e = some (a0, a1, a2)) (kk : ∀ p, P (.Compare a0 a1 a2 p)) : P e := by
  obtain ⟨q, h⟩ := dif_s h
  exact Expr.Compare.elim (motive_1 := fun e => ∀ q, Expr.Compare.elim (motive_1 := fun o0 => Option (Expr × (List CmpOp) × (List Expr))) e q (fun a0 a1 a2 o0 => some (a0, a1, a2)) = some (a0, a1, a2) → P e) e q (fun o0 o0 o0 p o0 h => Eq.mpr (congrArg (fun t => P (.Compare t.1 t.2.1 t.2.2 p)) (Option.some.inj h)) (kk p)) q h
noncomputable def xCall (e : Expr) : Option (Expr × (List Expr) × (List Keyword) × Pos) := if q : e.ctorIdx = 16 then Expr.Call.elim (motive_1 := fun o0 => Option (Expr × (List Expr) × (List Keyword) × Pos)) e q (fun a0 a1 a2 p => some (a0, a1, a2, p)) else none
@[elab_as_elim] theorem xCall_el {e : Expr} {a0 a1 a2 p} {P : Expr → Prop} (h : xCall e = some (a0, a1, a2, p)) (kk : ∀ (_ : Unit), P (.Call a0 a1 a2 p)) : P e := by
  obtain ⟨q, h⟩ := dif_s h
  exact Expr.Call.elim (motive_1 := fun e => ∀ q, Expr.Call.elim (motive_1 := fun o0 => Option (Expr × (List Expr) × (List Keyword) × Pos)) e q (fun a0 a1 a2 p => some (a0, a1, a2, p)) = some (a0, a1, a2, p) → P e) e q (fun o0 o0 o0 o0 o0 h => Eq.mpr (congrArg (fun t => P (.Call t.1 t.2.1 t.2.2.1 t.2.2.2)) (Option.some.inj h)) (kk ())) q h
noncomputable def xConstant (e : Expr) : Option (Const) := if q : e.ctorIdx = 19 then Expr.Constant.elim (motive_1 := fun o0 => Option (Const)) e q (fun a0 o0 o0 => some a0) else none
@[elab_as_elim] theorem xConstant_el {e : Expr} {a0} {P : Expr → Prop} (h : xConstant e = some a0) (kk : ∀ k p, P (.Constant a0 k p)) : P e := by
  obtain ⟨q, h⟩ := dif_s h
  exact Expr.Constant.elim (motive_1 := fun e => ∀ q, Expr.Constant.elim (motive_1 := fun o0 => Option (Const)) e q (fun a0 o0 o0 => some a0) = some a0 → P e) e q (fun o0 k p o0 h => Eq.mpr (congrArg (fun t => P (.Constant t k p)) (Option.some.inj h)) (kk k p)) q h
noncomputable def xAttribute (e : Expr) : Option (Expr × Str × Pos) := if q : e.ctorIdx = 20 then Expr.Attribute.elim (motive_1 := fun o0 => Option (Expr × Str × Pos)) e q (fun a0 a1 p => some (a0, a1, p)) else none
@[elab_as_elim] theorem xAttribute_el {e : Expr} {a0 a1 p} {P : Expr → Prop} (h : xAttribute e = some (a0, a1, p)) (kk : ∀ (_ : Unit), P (.Attribute a0 a1 p)) : P e := by
  obtain ⟨q, h⟩ := dif_s h
  exact Expr.Attribute.elim (motive_1 := fun e => ∀ q, Expr.Attribute.elim (motive_1 := fun o0 => Option (Expr × Str × Pos)) e q (fun a0 a1 p => some (a0, a1, p)) = some (a0, a1, p) → P e) e q (fun o0 o0 o0 o0 h => Eq.mpr (congrArg (fun t => P (.Attribute t.1 t.2.1 t.2.2)) (Option.some.inj h)) (kk ())) q h
noncomputable def xSubscript (e : Expr) : Option (Expr × Expr) := if q : e.ctorIdx = 21 then Expr.Subscript.elim (motive_1 := fun o0 => Option (Expr × Expr)) e q (fun a0 a1 o0 => some (a0, a1)) else none
@[elab_as_elim] theorem xSubscript_el {e : Expr} {a0 a1} {P : Expr → Prop} (h : xSubscript e = some (a0, a1)) (kk : ∀ p, P (.Subscript a0 a1 p)) : P e := by
  obtain ⟨q, h⟩ := dif_s h
  exact Expr.Subscript.elim (motive_1 := fun e => ∀ q, Expr.Subscript.elim (motive_1 := fun o0 => Option (Expr × Expr)) e q (fun a0 a1 o0 => some (a0, a1)) = some (a0, a1) → P e) e q (fun o0 o0 p o0 h => Eq.mpr (congrArg (fun t => P (.Subscript t.1 t.2 p)) (Option.some.inj h)) (kk p)) q h
noncomputable def xName (e : Expr) : Option (Str) := if q : e.ctorIdx = 23 then Expr.Name.elim (motive_1 := fun o0 => Option (Str)) e q (fun a0 o0 => some a0) else none
@[elab_as_elim] theorem xName_el {e : Expr} {a0} {P : Expr → Prop} (h : xName e = some a0) (kk : ∀ p, P (.Name a0 p)) : P e := by
  obtain ⟨q, h⟩ := dif_s h
  exact Expr.Name.elim (motive_1 := fun e => ∀ q, Expr.Name.elim (motive_1 := fun o0 => Option (Str)) e q (fun a0 o0 => some a0) = some a0 → P e) e q (fun o0 p o0 h => Eq.mpr (congrArg (fun t => P (.Name t p)) (Option.some.inj h)) (kk p)) q h
noncomputable def xList (e : Expr) : Option ((List Expr)) := if q : e.ctorIdx = 24 then Expr.List.elim (motive_1 := fun o0 => Option ((List Expr))) e q (fun a0 o0 => some a0) else none
@[elab_as_elim] theorem xList_el {e : Expr} {a0} {P : Expr → Prop} (h : xList e = some a0) (kk : ∀ p, P (.List a0 p)) : P e := by
  obtain ⟨q, h⟩ := dif_s h
  exact Expr.List.elim (motive_1 := fun e => ∀ q, Expr.List.elim (motive_1 := fun o0 => Option ((List Expr))) e q (fun a0 o0 => some a0) = some a0 → P e) e q (fun o0 p o0 h => Eq.mpr (congrArg (fun t => P (.List t p)) (Option.some.inj h)) (kk p)) q h
noncomputable def xTuple (e : Expr) : Option ((List Expr)) := if q : e.ctorIdx = 25 then Expr.Tuple.elim (motive_1 := fun o0 => Option ((List Expr))) e q (fun a0 o0 o0 => some a0) else none
@[elab_as_elim] theorem xTuple_el {e : Expr} {a0} {P : Expr → Prop} (h : xTuple e = some a0) (kk : ∀ k p, P (.Tuple a0 k p)) : P e := by
  obtain ⟨q, h⟩ := dif_s h
  exact Expr.Tuple.elim (motive_1 := fun e => ∀ q, Expr.Tuple.elim (motive_1 := fun o0 => Option ((List Expr))) e q (fun a0 o0 o0 => some a0) = some a0 → P e) e q (fun o0 k p o0 h => Eq.mpr (congrArg (fun t => P (.Tuple t k p)) (Option.some.inj h)) (kk k p)) q h
noncomputable def xSlice (e : Expr) : Option ((Option Expr) × (Option Expr) × (Option Expr)) := if q : e.ctorIdx = 26 then Expr.Slice.elim (motive_1 := fun o0 => Option ((Option Expr) × (Option Expr) × (Option Expr))) e q (fun a0 a1 a2 o0 => some (a0, a1, a2)) else none
@[elab_as_elim] theorem xSlice_el {e : Expr} {a0 a1 a2} {P : Expr → Prop} (h : xSlice e = some (a0, a1, a2)) (kk : ∀ p, P (.Slice a0 a1 a2 p)) : P e := by
  obtain ⟨q, h⟩ := dif_s h
  exact Expr.Slice.elim (motive_1 := fun e => ∀ q, Expr.Slice.elim (motive_1 := fun o0 => Option ((Option Expr) × (Option Expr) × (Option Expr))) e q (fun a0 a1 a2 o0 => some (a0, a1, a2)) = some (a0, a1, a2) → P e) e q (fun o0 o0 o0 p o0 h => Eq.mpr (congrArg (fun t => P (.Slice t.1 t.2.1 t.2.2 p)) (Option.some.inj h)) (kk p)) q h
noncomputable def sReturn (e : Stmt) : Option ((Option Expr)) := if q : e.ctorIdx = 3 then Stmt.Return.elim (motive_2 := fun o0 => Option ((Option Expr))) e q (fun a0 o0 => some a0) else none
@[elab_as_elim] theorem sReturn_el {e : Stmt} {a0} {P : Stmt → Prop} (h : sReturn e = some a0) (kk : ∀ p, P (.Return a0 p)) : P e := by
  obtain ⟨q, h⟩ := dif_s h
  exact Stmt.Return.elim (motive_2 := fun e => ∀ q, Stmt.Return.elim (motive_2 := fun o0 => Option ((Option Expr))) e q (fun a0 o0 => some a0) = some a0 → P e) e q (fun o0 p o0 h => Eq.mpr (congrArg (fun t => P (.Return t p)) (Option.some.inj h)) (kk p)) q h
noncomputable def sAssign (e : Stmt) : Option ((List Expr) × Expr) := if q : e.ctorIdx = 5 then Stmt.Assign.elim (motive_2 := fun o0 => Option ((List Expr) × Expr)) e q (fun a0 a1 o0 => some (a0, a1)) else none
@[elab_as_elim] theorem sAssign_el {e : Stmt} {a0 a1} {P : Stmt → Prop} (h : sAssign e = some (a0, a1)) (kk : ∀ p, P (.Assign a0 a1 p)) : P e := by
  obtain ⟨q, h⟩ := dif_s h
  exact Stmt.Assign.elim (motive_2 := fun e => ∀ q, Stmt.Assign.elim (motive_2 := fun o0 => Option ((List Expr) × Expr)) e q (fun a0 a1 o0 => some (a0, a1)) = some (a0, a1) → P e) e q (fun o0 o0 p o0 h => Eq.mpr (congrArg (fun t => P (.Assign t.1 t.2 p)) (Option.some.inj h)) (kk p)) q h
noncomputable def sAugAssign (e : Stmt) : Option (Expr × Operator × Expr) := if q : e.ctorIdx = 7 then Stmt.AugAssign.elim (motive_2 := fun o0 => Option (Expr × Operator × Expr)) e q (fun a0 a1 a2 o0 => some (a0, a1, a2)) else none
@[elab_as_elim] theorem sAugAssign_el {e : Stmt} {a0 a1 a2} {P : Stmt → Prop} (h : sAugAssign e = some (a0, a1, a2)) (kk : ∀ p, P (.AugAssign a0 a1 a2 p)) : P e := by
  obtain ⟨q, h⟩ := dif_s h
  exact Stmt.AugAssign.elim (motive_2 := fun e => ∀ q, Stmt.AugAssign.elim (motive_2 := fun o0 => Option (Expr × Operator × Expr)) e q (fun a0 a1 a2 o0 => some (a0, a1, a2)) = some (a0, a1, a2) → P e) e q (fun o0 o0 o0 p o0 h => Eq.mpr (congrArg (fun t => P (.AugAssign t.1 t.2.1 t.2.2 p)) (Option.some.inj h)) (kk p)) q h
noncomputable def sFor (e : Stmt) : Option (Expr × Expr × (List Stmt) × (List Stmt)) := if q : e.ctorIdx = 9 then Stmt.For.elim (motive_2 := fun o0 => Option (Expr × Expr × (List Stmt) × (List Stmt))) e q (fun a0 a1 a2 a3 o0 => some (a0, a1, a2, a3)) else none
@[elab_as_elim] theorem sFor_el {e : Stmt} {a0 a1 a2 a3} {P : Stmt → Prop} (h : sFor e = some (a0, a1, a2, a3)) (kk : ∀ p, P (.For a0 a1 a2 a3 p)) : P e := by
  obtain ⟨q, h⟩ := dif_s h
  exact Stmt.For.elim (motive_2 := fun e => ∀ q, Stmt.For.elim (motive_2 := fun o0 => Option (Expr × Expr × (List Stmt) × (List Stmt))) e q (fun a0 a1 a2 a3 o0 => some (a0, a1, a2, a3)) = some (a0, a1, a2, a3) → P e) e q (fun o0 o0 o0 o0 p o0 h => Eq.mpr (congrArg (fun t => P (.For t.1 t.2.1 t.2.2.1 t.2.2.2 p)) (Option.some.inj h)) (kk p)) q h
noncomputable def sWhile (e : Stmt) : Option (Expr × (List Stmt) × (List Stmt)) := if q : e.ctorIdx = 11 then Stmt.While.elim (motive_2 := fun o0 => Option (Expr × (List Stmt) × (List Stmt))) e q (fun a0 a1 a2 o0 => some (a0, a1, a2)) else none
@[elab_as_elim] theorem sWhile_el {e : Stmt} {a0 a1 a2} {P : Stmt → Prop} (h : sWhile e = some (a0, a1, a2)) (kk : ∀ p, P (.While a0 a1 a2 p)) : P e := by
  obtain ⟨q, h⟩ := dif_s h
  exact Stmt.While.elim (motive_2 := fun e => ∀ q, Stmt.While.elim (motive_2 := fun o0 => Option (Expr × (List Stmt) × (List Stmt))) e q (fun a0 a1 a2 o0 => some (a0, a1, a2)) = some (a0, a1, a2) → P e) e q (fun o0 o0 o0 p o0 h => Eq.mpr (congrArg (fun t => P (.While t.1 t.2.1 t.2.2 p)) (Option.some.inj h)) (kk p)) q h
noncomputable def sIf (e : Stmt) : Option (Expr × (List Stmt) × (List Stmt)) := if q : e.ctorIdx = 12 then Stmt.If.elim (motive_2 := fun o0 => Option (Expr × (List Stmt) × (List Stmt))) e q (fun a0 a1 a2 o0 => some (a0, a1, a2)) else none
@[elab_as_elim] theorem sIf_el {e : Stmt} {a0 a1 a2} {P : Stmt → Prop} (h : sIf e = some (a0, a1, a2)) (kk : ∀ p, P (.If a0 a1 a2 p)) : P e := by
  obtain ⟨q, h⟩ := dif_s h
  exact Stmt.If.elim (motive_2 := fun e => ∀ q, Stmt.If.elim (motive_2 := fun o0 => Option (Expr × (List Stmt) × (List Stmt))) e q (fun a0 a1 a2 o0 => some (a0, a1, a2)) = some (a0, a1, a2) → P e) e q (fun o0 o0 o0 p o0 h => Eq.mpr (congrArg (fun t => P (.If t.1 t.2.1 t.2.2 p)) (Option.some.inj h)) (kk p)) q h
noncomputable def sExpr (e : Stmt) : Option (Expr) := if q : e.ctorIdx = 24 then Stmt.Expr.elim (motive_2 := fun o0 => Option (Expr)) e q (fun a0 o0 => some a0) else none
@[elab_as_elim] theorem sExpr_el {e : Stmt} {a0} {P : Stmt → Prop} (h : sExpr e = some a0) (kk : ∀ p, P (.Expr a0 p)) : P e := by
  obtain ⟨q, h⟩ := dif_s h
  exact Stmt.Expr.elim (motive_2 := fun e => ∀ q, Stmt.Expr.elim (motive_2 := fun o0 => Option (Expr)) e q (fun a0 o0 => some a0) = some a0 → P e) e q (fun o0 p o0 h => Eq.mpr (congrArg (fun t => P (.Expr t p)) (Option.some.inj h)) (kk p)) q h
end Mine.Internal
namespace Mine.Internal
open PySem PySem.W PyProof.Rows

noncomputable abbrev lstO (vs : List Value) (n : Nat) : Obj := { cls := .type "list", data := .seq vs.toArray n }
noncomputable abbrev tupO (vs : List Value) (n : Nat) : Obj := { cls := .type "tuple", data := .seq vs.toArray n }
noncomputable abbrev Av := Addr → Prop
mutual
inductive Rep (h : Heap) (X : Av) : Value → PV → Prop
  | none : Rep h X .none .none
  | bool (b : Bool) : Rep h X (.bool b) (.bool b)
  | int (i : Int) (t : Tok) : Rep h X (.int i t) (.int i)
  | tup {a : Addr} {vs : List Value} {l : List PV} {o : Obj} {n : Nat} : h.get? a = some o → o.cls = .type "tuple" → o.data = .seq vs.toArray n → ¬ X a → vs.length ≤ LL → RepL h X vs l → Rep h X (.ref a) (.tup l)
  | lst {a : Addr} {vs : List Value} {l : List PV} {n : Nat} : h.get? a = some (lstO vs n) → ¬ X a → vs.length ≤ LL → RepL h X vs l → Rep h X (.ref a) (.lst l)
inductive RepL (h : Heap) (X : Av) : List Value → List PV → Prop
  | nil : RepL h X [] []
  | cons {v : Value} {p : PV} {vs : List Value} {l : List PV} : Rep h X v p → RepL h X vs l → RepL h X (v :: vs) (p :: l)
end
theorem RepL.ind {h : Heap} {X : Av} {P : List Value → List PV → Prop} (n : P [] []) (c : ∀ v p vs l, Rep h X v p → RepL h X vs l → P vs l → P (v :: vs) (p :: l)) {vs : List Value} {l : List PV} (r : RepL h X vs l) : P vs l :=
  RepL.rec (motive_1 := fun o0 o0 o0 => True) (motive_2 := fun vs l o0 => P vs l) trivial (fun o0 => trivial) (fun o0 o0 => trivial) (fun o0 o0 o0 o0 o0 o0 o0 => trivial) (fun o0 o0 o0 o0 o0 => trivial) n (fun a r o0 ih => c _ _ _ _ a r ih) r
theorem RepL.inv {h : Heap} {X : Av} {vs : List Value} {l : List PV} (r : RepL h X vs l) : match l with
  | [] => vs = []
  | p :: l => ∃ v vs', vs = v :: vs' ∧ Rep h X v p ∧ RepL h X vs' l := by
  cases r with
  | nil => rfl
  | cons a b => exact ⟨_, _, rfl, a, b⟩
@[elab_as_elim] theorem RepL.cons_el {h : Heap} {X : Av} {vs : List Value} {p : PV} {l : List PV} {P : List Value → Prop} (r : RepL h X vs (p :: l)) (k : ∀ v vs, Rep h X v p → RepL h X vs l → P (v :: vs)) : P vs := by
  obtain ⟨v, vs', rfl, a, b⟩ := r.inv; exact k v vs' a b
@[elab_as_elim] theorem RepL.nil_el {h : Heap} {X : Av} {vs : List Value} {P : List Value → Prop} (r : RepL h X vs []) (k : P []) : P vs := by
  cases (r.inv : vs = []); exact k
theorem Rep.mono {h h' : Heap} {X X' : Av} (k : ∀ b o, h.get? b = some o → ¬ X b → h'.get? b = some o ∧ ¬ X' b) {v : Value} {p : PV} (r : Rep h X v p) : Rep h' X' v p :=
  Rep.rec (motive_1 := fun v p o0 => Rep h' X' v p) (motive_2 := fun vs l o0 => RepL h' X' vs l) .none .bool .int (fun a b c d e o0 f => .tup (k _ _ a d).1 b c (k _ _ a d).2 e f) (fun a b c o0 d => .lst (k _ _ a b).1 (k _ _ a b).2 c d) .nil (fun o0 o0 x y => .cons x y) r
theorem RepL.mono {h h' : Heap} {X X' : Av} (k : ∀ b o, h.get? b = some o → ¬ X b → h'.get? b = some o ∧ ¬ X' b) {vs : List Value} {l : List PV} (r : RepL h X vs l) : RepL h' X' vs l :=
  r.ind (P := fun vs l => RepL h' X' vs l) .nil fun o0 o0 o0 o0 a o0 ih => .cons (a.mono k) ih
noncomputable abbrev KeepsH (h h' : Heap) : Prop := ∀ b o, h.get? b = some o → h'.get? b = some o
theorem Rep.keeps {h h' : Heap} {X : Av} (k : KeepsH h h') {v : Value} {p : PV} (r : Rep h X v p) : Rep h' X v p := r.mono fun b o e x => ⟨k b o e, x⟩
theorem RepL.keeps {h h' : Heap} {X : Av} (k : KeepsH h h') {v : List Value} {p : List PV} (r : RepL h X v p) : RepL h' X v p := r.mono fun b o e x => ⟨k b o e, x⟩
theorem Rep.sub {h : Heap} {X X' : Av} (k : ∀ b, X' b → X b) {v : Value} {p : PV} (r : Rep h X v p) : Rep h X' v p := r.mono fun b o0 e x => ⟨e, fun q => x (k b q)⟩
theorem RepL.length {h : Heap} {X : Av} {vs : List Value} {l : List PV} (r : RepL h X vs l) : vs.length = l.length :=
  r.ind (P := fun vs l => vs.length = l.length) rfl fun o0 o0 o0 o0 o0 o0 ih => congrArg (· + 1) ih
theorem RepL.get {h : Heap} {X : Av} {vs : List Value} {l : List PV} (r : RepL h X vs l) : ∀ (i : Nat) (p : PV), l[i]? = some p → ∃ v, vs[i]? = some v ∧ Rep h X v p :=
  r.ind (P := fun vs l => ∀ (i : Nat) (p : PV), l[i]? = some p → ∃ v, vs[i]? = some v ∧ Rep h X v p) (fun o0 o0 e => no_none e) fun o0 o0 o0 o0 a o0 ih i p e => by
    cases i with
    | zero => exact ⟨_, rfl, Option.some.inj e ▸ a⟩
    | succ i => exact ih i p e
theorem RepL.get' {h : Heap} {X : Av} {vs : List Value} {l : List PV} (r : RepL h X vs l) : ∀ (i : Nat) (v : Value), vs[i]? = some v → ∃ p, l[i]? = some p ∧ Rep h X v p :=
  r.ind (P := fun vs l => ∀ (i : Nat) (v : Value), vs[i]? = some v → ∃ p, l[i]? = some p ∧ Rep h X v p) (fun o0 o0 e => no_none e) fun o0 o0 o0 o0 a o0 ih i p e => by
    cases i with
    | zero => exact ⟨_, rfl, Option.some.inj e ▸ a⟩
    | succ i => exact ih i p e
theorem RepL.append {h : Heap} {X : Av} {vs ws : List Value} {l m : List PV} (q : RepL h X vs l) (r : RepL h X ws m) : RepL h X (vs ++ ws) (l ++ m) :=
  q.ind (P := fun vs l => RepL h X (vs ++ ws) (l ++ m)) r fun o0 o0 o0 o0 a o0 ih => .cons a ih
theorem RepL.drop {h : Heap} {X : Av} {vs : List Value} {l : List PV} (r : RepL h X vs l) : ∀ n, RepL h X (vs.drop n) (l.drop n) :=
  r.ind (P := fun vs l => ∀ n, RepL h X (vs.drop n) (l.drop n)) (fun n => by cases n <;> exact .nil) fun o0 o0 o0 o0 a b ih n => by
    cases n with
    | zero => exact .cons a b
    | succ n => exact ih n
theorem RepL.take {h : Heap} {X : Av} {vs : List Value} {l : List PV} (r : RepL h X vs l) : ∀ n, RepL h X (vs.take n) (l.take n) :=
  r.ind (P := fun vs l => ∀ n, RepL h X (vs.take n) (l.take n)) (fun n => by cases n <;> exact .nil) fun o0 o0 o0 o0 a b ih n => by
    cases n with
    | zero => exact .nil
    | succ n => exact .cons a (ih n)
theorem RepL.replicate {h : Heap} {X : Av} {v : Value} {p : PV} (r : Rep h X v p) : ∀ n, RepL h X (List.replicate n v) (List.replicate n p)
  | 0 => .nil
  | n + 1 => .cons r (RepL.replicate r n)
theorem RepL.set {h : Heap} {X : Av} {v : Value} {p : PV} (r : Rep h X v p) {vs : List Value} {l : List PV} (q : RepL h X vs l) : ∀ n, RepL h X (vs.set n v) (l.set n p) :=
  q.ind (P := fun vs l => ∀ n, RepL h X (vs.set n v) (l.set n p)) (fun n => by cases n <;> exact .nil) fun o0 o0 o0 o0 a b ih n => by
    cases n with
    | zero => exact .cons r b
    | succ n => exact .cons a (ih n)
theorem RepL.snoc {h : Heap} {X : Av} {vs : List Value} {l : List PV} {v : Value} {p : PV} (q : RepL h X vs l) (r : Rep h X v p) : RepL h X (vs ++ [v]) (l ++ [p]) := q.append (.cons r .nil)
theorem Rep.isTup {h : Heap} {X : Av} {v : Value} {l : List PV} (r : Rep h X v (.tup l)) : ∃ a vs, v = .ref a ∧ IsTup h a vs.toArray ∧ ¬ X a ∧ vs.length ≤ LL ∧ RepL h X vs l := by
  cases r with | tup a b c d e f => exact ⟨_, _, rfl, ⟨_, a, b, _, c⟩, d, e, f⟩
theorem Rep.isLst {h : Heap} {X : Av} {v : Value} {l : List PV} (r : Rep h X v (.lst l)) : ∃ a vs n, v = .ref a ∧ h.get? a = some (lstO vs n) ∧ ¬ X a ∧ vs.length ≤ LL ∧ RepL h X vs l := by
  cases r with | lst a b c d => exact ⟨_, _, _, rfl, a, b, c, d⟩
theorem Rep.isInt {h : Heap} {X : Av} {v : Value} {i : Int} (r : Rep h X v (.int i)) : ∃ t, v = .int i t := by cases r; exact ⟨_, rfl⟩
theorem Rep.isBool {h : Heap} {X : Av} {v : Value} {i : Bool} (r : Rep h X v (.bool i)) : v = .bool i := by cases r; rfl
theorem Rep.isNone {h : Heap} {X : Av} {v : Value} (r : Rep h X v .none) : v = .none := by cases r; rfl
theorem Rep.notItr {h : Heap} {X : Av} {v : Value} {l : List PV} (r : Rep h X v (.itr l)) : False := by cases r
@[elab_as_elim] theorem Rep.lst_el {h : Heap} {X : Av} {v : Value} {l : List PV} {P : Value → Prop} (r : Rep h X v (.lst l)) (k : ∀ a vs n, h.get? a = some (lstO vs n) → ¬ X a → vs.length ≤ LL → RepL h X vs l → P (.ref a)) : P v := by
  obtain ⟨a, vs, n, rfl, h1, h2, h3, h4⟩ := r.isLst; exact k a vs n h1 h2 h3 h4
@[elab_as_elim] theorem Rep.tup_el {h : Heap} {X : Av} {v : Value} {l : List PV} {P : Value → Prop} (r : Rep h X v (.tup l)) (k : ∀ a vs, IsTup h a vs.toArray → ¬ X a → vs.length ≤ LL → RepL h X vs l → P (.ref a)) : P v := by
  obtain ⟨a, vs, rfl, h1, h2, h3, h4⟩ := r.isTup; exact k a vs h1 h2 h3 h4
@[elab_as_elim] theorem Rep.int_el {h : Heap} {X : Av} {v : Value} {i : Int} {P : Value → Prop} (r : Rep h X v (.int i)) (k : ∀ t, P (.int i t)) : P v := by
  obtain ⟨t, rfl⟩ := r.isInt; exact k t
theorem lst_is {h : Heap} {a : Addr} {vs : List Value} {n : Nat} (e : h.get? a = some (lstO vs n)) : h.IsList a vs.toArray := ⟨_, e, rfl, _, rfl⟩

structure Sc where
  names : List (Str × NameKind)
  slots : List (Option (Str × Bool))
noncomputable def Sc.get (sc : Sc) (i : Nat) : Option (Str × Bool) := match sc.slots[i]? with | some o => o | none => none
structure Ok (env : Env) (sc : Sc) : Prop where
  kind : env.scope.kind = .function
  names : env.scope.names = sc.names
  glob : env.globals = mainGlobals
  blt : env.builtins = builtinsNs
  loc : ∀ i x, sc.get i = some (x, false) → env.kindOf x = some .local ∧ (x == ("__debug__" : Str)) = false
  cel : ∀ i x, sc.get i = some (x, true) → env.kindOf x = some .cell ∧ (x == ("__debug__" : Str)) = false ∧ ∃ c, env.cells.lookup x = some c
  inj : ∀ i j x b b', sc.get i = some (x, b) → sc.get j = some (x, b') → i = j
  apart : env.cells.Pairwise fun x y => x.2 ≠ y.2
noncomputable def OwnAt (h : Heap) (X Y : Av) (a : Addr) (l : List PV) : Prop := Y a ∧ ¬ X a ∧ ∃ vs n, h.get? a = some (lstO vs n) ∧ vs.length ≤ LL ∧ RepL h Y vs l
noncomputable def SlotOk (h : Heap) (X Y Z : Av) (ad : Addr) (ov : Option Value) : Slot → Prop
  | .un => True
  | .val p => ∃ v, ov = some v ∧ Rep h Y v p
  | .own l => ov = some (.ref ad) ∧ OwnAt h X Y ad l ∧ Z ad
structure InvS (X : Av) (env : Env) (sc : Sc) (h : Heap) (Y Z : Av) (ρ : List Slot) (m : Str → Option Value) (vm : Nat → Option Value) (ad : Nat → Addr) : Prop where
  ns : h.Ns env.locals m
  loc : ∀ i x, sc.get i = some (x, false) → m x = vm i
  cel : ∀ i x c, sc.get i = some (x, true) → env.cells.lookup x = some c → h.IsCell c (vm i)
  slot : ∀ i, SlotOk h X Y Z (ad i) (vm i) (pget ρ i)
  inj : ∀ i j l l', pget ρ i = .own l → pget ρ j = .own l' → ad i = ad j → i = j
structure Inv (hB : Heap) (X : Av) (env : Env) (sc : Sc) (h : Heap) (Y Z : Av) (ρ : List Slot) : Prop where
  base : KeepsH hB h
  baseY : ∀ b o, hB.get? b = some o → ¬ Y b
  sub : ∀ b, X b → Y b
  old : ∀ b, Y b → ∃ o, h.get? b = some o
  locY : Y env.locals
  celY : ∀ i x c, sc.get i = some (x, true) → env.cells.lookup x = some c → Y c
  zY : ∀ b, Z b → Y b
  st : ∃ (m : Str → Option Value) (vm : Nat → Option Value) (ad : Nat → Addr), InvS X env sc h Y Z ρ m vm ad
theorem OwnAt.keeps {h h' : Heap} {X Y : Av} {a : Addr} {l : List PV} (k : KeepsH h h') (o : OwnAt h X Y a l) : OwnAt h' X Y a l :=
  let ⟨a1, a2, vs, n, e, f, r⟩ := o; ⟨a1, a2, vs, n, k _ _ e, f, r.keeps k⟩
theorem SlotOk.keeps {h h' : Heap} {X Y Z : Av} {a : Addr} {ov : Option Value} {s : Slot} (k : KeepsH h h') (o : SlotOk h X Y Z a ov s) : SlotOk h' X Y Z a ov s := by
  cases s with
  | un => trivial
  | val p => obtain ⟨v, e, r⟩ := o; exact ⟨v, e, r.keeps k⟩
  | own l => exact ⟨o.1, o.2.1.keeps k, o.2.2⟩
theorem Inv.keeps {hB : Heap} {X : Av} {env : Env} {sc : Sc} {h h' : Heap} {Y Z : Av} {ρ : List Slot} (I : Inv hB X env sc h Y Z ρ) (k : KeepsH h h') : Inv hB X env sc h' Y Z ρ := by
  obtain ⟨m, vm, ad, a, b, c, d, e⟩ := I.st
  exact ⟨fun b o e => k _ _ (I.base b o e), I.baseY, I.sub, fun b y => (I.old b y).imp fun o e => k b o e, I.locY, I.celY, I.zY, m, vm, ad, a.keeps k, b, fun i x cc q r => (c i x cc q r).keeps k, fun i => (d i).keeps k, e⟩

noncomputable def one? {α : Type} (l : List α) : Option α := match l with
  | [] => none
  | a :: r => match r with
    | [] => some a
    | _ :: _ => none
theorem one_eq {α : Type} {l : List α} {a : α} (h : one? l = some a) : l = [a] := match l, h with
  | [_], h => congrArg (fun x => [x]) (Option.some.inj h)
noncomputable def two? {α : Type} (l : List α) : Option (α × α) := match l with
  | [] => none
  | a :: r => (one? r).bind fun b => some (a, b)
theorem two_eq {α : Type} {l : List α} {a b : α} (h : two? l = some (a, b)) : l = [a, b] := match l, h with
  | _ :: _, h => bnd h fun o0 hc h => one_eq hc ▸ congrArg (fun x => [x.1, x.2]) (Option.some.inj h)
noncomputable def gInt (c : Const) : Option Int := if q : c.ctorIdx = 2 then Const.int.elim (motive := fun o0 => Option Int) c q some else none
theorem gInt_eq {c : Const} {i : Int} (h : gInt c = some i) : c = .int i := by
  obtain ⟨q, h⟩ := dif_s h
  exact Const.int.elim (motive := fun c => ∀ q, Const.int.elim (motive := fun o0 => Option Int) c q some = some i → c = .int i) c q (fun o0 o0 h => congrArg Const.int (Option.some.inj h)) q h
noncomputable def gBoo (c : Const) : Option Bool := if q : c.ctorIdx = 1 then Const.bool.elim (motive := fun o0 => Option Bool) c q some else none
theorem gBoo_eq {c : Const} {i : Bool} (h : gBoo c = some i) : c = .bool i := by
  obtain ⟨q, h⟩ := dif_s h
  exact Const.bool.elim (motive := fun c => ∀ q, Const.bool.elim (motive := fun o0 => Option Bool) c q some = some i → c = .bool i) c q (fun o0 o0 h => congrArg Const.bool (Option.some.inj h)) q h
noncomputable def isName? (e : Expr) : Option Str := xName e
noncomputable def isInt? (e : Expr) : Option Int := (xConstant e).bind gInt
noncomputable def isNone? (e : Expr) : Bool := ob (xConstant e) fun c => decide (c = .none)
noncomputable def isBool? (e : Expr) : Option Bool := (xConstant e).bind gBoo
noncomputable def isBin? (e : Expr) : Option (Expr × Operator × Expr) := xBinOp e
noncomputable def isNeg? (e : Expr) : Option Expr := (xUnaryOp e).bind fun t => if t.1 = .USub then some t.2 else none
noncomputable def isCmp? (e : Expr) : Option (Expr × CmpOp × Expr) := (xCompare e).bind fun t => (one? t.2.1).bind fun o => (one? t.2.2).bind fun r => some (t.1, o, r)
noncomputable def isBop? (e : Expr) : Option (BoolOp × Expr × Expr) := (xBoolOp e).bind fun t => (two? t.2).bind fun y => some (t.1, y)
noncomputable def isIf? (e : Expr) : Option (Expr × Expr × Expr) := xIfExp e
noncomputable def isTup? (e : Expr) : Option (List Expr) := xTuple e
noncomputable def isLst? (e : Expr) : Option (List Expr) := xList e
noncomputable def isSub? (e : Expr) : Option (Expr × Expr) := xSubscript e
noncomputable def isFrom? (e : Expr) : Option (Expr × Expr) := (xSubscript e).bind fun t => (xSlice t.2).bind fun y => y.1.bind fun l => if y.2.1 = none ∧ y.2.2 = none then some (t.1, l) else none
noncomputable def isUpto? (e : Expr) : Option (Expr × Expr) := (xSubscript e).bind fun t => (xSlice t.2).bind fun y => y.2.1.bind fun l => if y.1 = none ∧ y.2.2 = none then some (t.1, l) else none
noncomputable def isCall? (e : Expr) : Option (Str × List Expr) := (xCall e).bind fun t => (xName t.1).bind fun f => if t.2.2.1 = [] then some (f, t.2.1) else none
noncomputable def notStar (e : Expr) : Bool := !Nat.beq e.ctorIdx 22
noncomputable def notSlice (e : Expr) : Bool := !Nat.beq e.ctorIdx 26
noncomputable def notSet (e : Expr) : Bool := !Nat.beq e.ctorIdx 7
noncomputable def isComp? (e : Expr) : Option (Expr × Expr × Expr × List Expr × Scope) := (xListComp e).bind fun t => (one? t.2.1).bind fun g => if g.is_async = 0 then some (t.1, g.target, g.iter, g.ifs, t.2.2) else none
theorem isName_eq {e : Expr} {x : Str} (h : isName? e = some x) : ∃ p, e = .Name x p := xName_el h fun p => ⟨p, rfl⟩
theorem isInt_eq {e : Expr} {x : Int} (h : isInt? e = some x) : ∃ k p, e = .Constant (.int x) k p := bnd h fun o0 hc h => gInt_eq h ▸ xConstant_el hc fun k p => ⟨k, p, rfl⟩
theorem isNone_eq {e : Expr} (h : isNone? e = true) : ∃ k p, e = .Constant .none k p := ob_t h fun o0 hc h => of_decide_eq_true h ▸ xConstant_el hc fun k p => ⟨k, p, rfl⟩
theorem isBool_eq {e : Expr} {x : Bool} (h : isBool? e = some x) : ∃ k p, e = .Constant (.bool x) k p := bnd h fun o0 hc h => gBoo_eq h ▸ xConstant_el hc fun k p => ⟨k, p, rfl⟩
theorem isBin_eq {e l o r} (h : isBin? e = some (l, o, r)) : ∃ p, e = .BinOp l o r p := xBinOp_el h fun p => ⟨p, rfl⟩
theorem isNeg_eq {e x} (h : isNeg? e = some x) : ∃ p, e = .UnaryOp .USub x p := bnd h fun o0 hc h => ite_s h fun q h => Option.some.inj h ▸ q ▸ xUnaryOp_el hc fun p => ⟨p, rfl⟩
theorem isCmp_eq {e l o r} (h : isCmp? e = some (l, o, r)) : ∃ p, e = .Compare l [o] [r] p := bnd h fun o0 hc h => bnd h fun o0 ho h => bnd h fun o0 hr h => by
  cases h; exact one_eq ho ▸ one_eq hr ▸ xCompare_el hc fun p => ⟨p, rfl⟩
theorem isBop_eq {e o x y} (h : isBop? e = some (o, x, y)) : ∃ p, e = .BoolOp o [x, y] p := bnd h fun o0 hc h => bnd h fun o0 hy h => by
  cases h; exact two_eq hy ▸ xBoolOp_el hc fun p => ⟨p, rfl⟩
theorem isIf_eq {e c b o} (h : isIf? e = some (c, b, o)) : ∃ p, e = .IfExp c b o p := xIfExp_el h fun p => ⟨p, rfl⟩
theorem isTup_eq {e es} (h : isTup? e = some es) : ∃ k p, e = .Tuple es k p := xTuple_el h fun k p => ⟨k, p, rfl⟩
theorem isLst_eq {e es} (h : isLst? e = some es) : ∃ p, e = .List es p := xList_el h fun p => ⟨p, rfl⟩
theorem isSub_eq {e v s} (h : isSub? e = some (v, s)) : ∃ p, e = .Subscript v s p := xSubscript_el h fun p => ⟨p, rfl⟩
theorem isFrom_eq {e v s} (h : isFrom? e = some (v, s)) : ∃ q p, e = .Subscript v (.Slice (some s) none none q) p := bnd h fun ⟨u, sl⟩ hc h => bnd h fun ⟨_, _, _⟩ hs h => bnd h fun o0 hl h => ite_s h fun q h => by
  cases h; cases hl; cases q.1; cases q.2; exact xSlice_el (P := fun sl => xSubscript e = some (u, sl) → _) hs (fun q hc => xSubscript_el hc fun p => ⟨q, p, rfl⟩) hc
theorem isUpto_eq {e v s} (h : isUpto? e = some (v, s)) : ∃ q p, e = .Subscript v (.Slice none (some s) none q) p := bnd h fun ⟨u, sl⟩ hc h => bnd h fun ⟨_, _, _⟩ hs h => bnd h fun o0 hl h => ite_s h fun q h => by
  cases h; cases hl; cases q.1; cases q.2; exact xSlice_el (P := fun sl => xSubscript e = some (u, sl) → _) hs (fun q hc => xSubscript_el hc fun p => ⟨q, p, rfl⟩) hc
theorem isCall_eq {e f as} (h : isCall? e = some (f, as)) : ∃ q p, e = .Call (.Name f q) as [] p := bnd h fun ⟨fn, bs, _, _⟩ hc h => bnd h fun o0 hs h => ite_s h fun q h => by
  cases h; cases q; exact xName_el (P := fun fn => xCall e = some (fn, bs, [], _) → _) hs (fun q hc => xCall_el hc fun o0 => ⟨q, _, rfl⟩) hc
theorem isComp_eq {e el t i fs sc} (h : isComp? e = some (el, t, i, fs, sc)) : ∃ p, e = .ListComp el [⟨t, i, fs, 0⟩] sc p := bnd h fun ⟨_, _, _⟩ hc h => bnd h fun ⟨_, _, _, _⟩ hs h => ite_s h fun q h => by
  cases h; cases q; cases one_eq hs; exact xListComp_el hc fun p => ⟨p, rfl⟩
noncomputable def bo? : BO → Operator
  | .add => .Add | .sub => .Sub | .mul => .Mult | .fdiv => .FloorDiv | .mod => .Mod | .pow => .Pow
noncomputable def co? : CO → CmpOp
  | .eq => .Eq | .ne => .NotEq | .lt => .Lt | .le => .LtE | .gt => .Gt | .ge => .GtE
noncomputable def Gl.name : Gl → Str
  | .half => "HALF" | .r0 => "R0" | .most => "MOST_DIVIDED"
noncomputable def Sc.glob (sc : Sc) (x : Str) : Bool := sc.names.lookup x == some .globalImplicit && !(x == ("__debug__" : Str))
noncomputable def relabelN (inner outer : List (Str × NameKind)) : List (Str × NameKind) := inner.map fun (n, k) => if k == .free && outer.lookup n == some .cell then (n, .cell) else (n, k)
noncomputable def tgNames? (t : Tg) (e : Expr) : Option (List (Nat × Str)) := match t with
  | .one i => (xName e).bind fun x => some [(i, x)]
  | .two i j => (xTuple e).bind fun es => (two? es).bind fun p => (xName p.1).bind fun x => (xName p.2).bind fun y => some [(i, x), (j, y)]
theorem tgNames_el {t : Tg} {e : Expr} {nm : List (Nat × Str)} {P : Tg → Expr → List (Nat × Str) → Prop} (h : tgNames? t e = some nm) (k1 : ∀ i x p, P (.one i) (.Name x p) [(i, x)])
    (k2 : ∀ i j x p y q n r, P (.two i j) (.Tuple [.Name x p, .Name y q] n r) [(i, x), (j, y)]) : P t e nm := match t, h with
  | .one _, h => bnd h fun o0 hx h => Option.some.inj h ▸ xName_el hx fun o0 => k1 _ _ _
  | .two _ _, h => bnd h fun es he h => bnd h fun ⟨_, _⟩ hp h => bnd h fun o0 hx h => bnd h fun o0 hy h => by
    cases h
    exact xTuple_el (P := fun e => P _ e _) he fun n r => two_eq hp ▸ xName_el (P := fun e => P _ (.Tuple [e, _] n r) _) hx fun p => xName_el (P := fun e => P _ (.Tuple [_, e] n r) _) hy fun q => k2 _ _ _ _ _ _ _ _
noncomputable def compSlots (sc : Sc) (inner : List (Str × NameKind)) (tg : List (Nat × Str)) (n : Nat) : List (Option (Str × Bool)) :=
  (List.range n).map fun i => match tg.lookup i with
    | some x => some (x, false)
    | none => match sc.get i with
      | some (x, true) => if inner.lookup x == some .free then some (x, true) else none
      | _ => none
noncomputable def Sc.comp (sc : Sc) (inner : Scope) (tg : List (Nat × Str)) : Sc :=
  { names := relabelN inner.names sc.names, slots := compSlots sc inner.names tg 16 }
noncomputable def slotsOk (sc : Sc) : Bool := sc.slots.all fun o => match o with
  | none => true
  | some (x, false) => sc.names.lookup x == some .local && !(x == ("__debug__" : Str))
  | some (x, true) => sc.names.lookup x == some .cell && !(x == ("__debug__" : Str))
noncomputable def namesOf (sc : Sc) : List Str := sc.slots.filterMap fun o => o.map (·.1)
noncomputable def nodupB : List Str → Bool
  | [] => true
  | x :: r => !r.contains x && nodupB r
noncomputable def compOk (sc : Sc) (inner : Scope) (tg : List (Nat × Str)) : Bool :=
  inner.kind == .function && inner.names.all (fun y => y.2 != .cell) && inner.names.all (fun y => y.2 != .local || inner.names.lookup y.1 == some .local) &&
  inner.names.all (fun y => y.2 != .free || sc.slots.any fun o => o == some (y.1, true)) && tg.all (fun y => inner.names.lookup y.2 == some .local) &&
  slotsOk (sc.comp inner tg) && nodupB (namesOf (sc.comp inner tg)) && nodupB (inner.names.map (·.1)) && tg.all (fun y => (sc.comp inner tg).get y.1 == some (y.2, false))
end Mine.Internal
namespace Mine.Internal
open PySem PySem.W PyProof.Rows

noncomputable abbrev NoE : Value → Shared → Prop := fun o0 o0 => False
noncomputable abbrev Gd (s : Shared) (Y : Av) (p : PV) : Value → Shared → Prop := fun v s' => Keeps s s' ∧ Rep s'.heap Y v p
theorem keeps_refl (s : Shared) : Keeps s s := ⟨s.heap, s.toks, rfl, eid⟩
theorem keeps_tok (s : Shared) (t : Nat) : Keeps s { s with toks := t } := ⟨s.heap, t, rfl, eid⟩
theorem keeps_of (s : Shared) (h : Heap) (t : Nat) (k : KeepsH s.heap h) : Keeps s { s with heap := h, toks := t } := ⟨h, t, rfl, k⟩
theorem keeps_push (s : Shared) (o : Obj) : Keeps s { s with heap := s.heap.push o } := ⟨_, s.toks, rfl, fun o0 o0 e => Heap.get?_push_of_some _ e⟩
theorem keeps_trans {a b c : Shared} (x : Keeps a b) (y : Keeps b c) : Keeps a c := by
  obtain ⟨h, t, rfl, k⟩ := x
  obtain ⟨h', t', rfl, k'⟩ := y
  exact ⟨h', t', rfl, fun b o e => k' b o (k b o e)⟩
theorem Keeps.heap' {a b : Shared} (x : Keeps a b) : KeepsH a.heap b.heap := by obtain ⟨h, t, rfl, k⟩ := x; exact k
theorem fresh_not {h : Heap} {Y : Av} (old : ∀ b, Y b → ∃ o, h.get? b = some o) {a : Addr} (e : h.get? a = none) : ¬ Y a := fun y => by
  obtain ⟨o, q⟩ := old a y; rw [e] at q; cases q
theorem size_none (h : Heap) : h.get? h.objs.size = none := by
  cases e : h.get? h.objs.size with
  | none => rfl
  | some o => exact absurd (Heap.lt_size e) (Nat.lt_irrefl _)

structure Room (n : Nat) (A : Around) : Prop where
  hd : A.handled = none
  dp : A.depth + n < 1000
  un : A.units + 8 * n + 100 < 9900
theorem Room.units' {n : Nat} {A : Around} (r : Room n A) : A.units < cLine := by have := r.un; simp only [cLine]; lia
theorem Room.depth {n : Nat} {A : Around} (r : Room n A) : A.depth < recursionLimit := by have := r.dp; simp only [recursionLimit]; lia

section
variable {prog : Program} {w : World} {A : Around} {s : Shared} {Y : Av} {x y z : PV} {v u : Value}

theorem log_le {a : Nat} (h : Nat.ble a BB = true) : a.log2 ≤ 8000 := by
  have h' : a ≤ 2 ^ 8000 := Nat.le_trans (Nat.le_of_ble_eq_true h) (Nat.le_of_ble_eq_true (by decide +kernel))
  by_cases h0 : a = 0
  · subst h0; exact Nat.zero_le _
  · refine Nat.le_of_lt_succ ((Nat.log2_lt h0).mpr (Nat.lt_of_le_of_lt h' ?_))
    exact Nat.pow_lt_pow_right (by decide) (Nat.lt_succ_self _)
theorem sm_bits {a : Int} (h : sm a = true) : Builtin.Int.intBits a ≤ 1000001 := by
  have h' : a.natAbs.log2 ≤ 8000 := log_le h
  unfold Builtin.Int.intBits
  first
  | (split <;> lia)
  | lia
theorem mul_ok {a b : Int} (h : (sm a && sm b) = true) : IntMulOk a b := by
  rw [Bool.and_eq_true] at h
  have h1 := sm_bits h.1
  have h2 := sm_bits h.2
  have h3 : ¬ (((Builtin.Int.intBits a + Builtin.Int.intBits b : Nat) : Int) > ((2 ^ 27 : Nat) : Int)) := by lia
  have h4 : Builtin.Int.intTooBig ((Builtin.Int.intBits a : Int) + (Builtin.Int.intBits b : Int)) = false := decide_eq_false (by rw [← Int.natCast_add]; exact h3)
  unfold IntMulOk
  rw [h4]
  simp
set_option tactic.hygienic true in
theorem fit_eq {l : List PV} {z : PV} (h : fit l = some z) : l.length ≤ LL ∧ z = .lst l := by
  unfold fit at h
  split at h
  · rename_i q; exact ⟨q, (Option.some.inj h).symm⟩
  · cases h
theorem LL_line {n : Nat} (h : n ≤ LL) : n ≤ sizeLine := by simp only [LL, sizeLine] at *; lia
theorem gd_new_lst {vs : List Value} {l : List PV} (old : ∀ b, Y b → ∃ o, s.heap.get? b = some o) (r : RepL s.heap Y vs l) (hl : vs.length ≤ LL) :
    Gd s Y (.lst l) (.ref s.heap.objs.size) { s with heap := s.heap.push (lstO vs 0) } :=
  ⟨keeps_push s _, .lst (Heap.get?_push_size _ rfl) (fresh_not old (size_none _)) hl (r.keeps fun o0 o0 e => Heap.get?_push_of_some _ e)⟩
theorem foldl_rep (x : Value) : ∀ (n : Nat) (acc : Array Value), List.foldl (fun x1 x2 => x1 ++ x2) acc (List.replicate n #[x]) = acc ++ (List.replicate n x).toArray
  | 0, acc => by simp
  | n + 1, acc => by
    rw [List.replicate_succ, List.foldl_cons, foldl_rep x n, List.replicate_succ]
    apply Array.ext'
    simp
theorem pow_le {b : Int} {k : Nat} (h : k ≤ 1000001) (h0 : 0 ≤ b) (h1 : b ≤ 100) : (k : Int) * b ≤ 2 ^ 27 :=
  Int.le_trans (Int.mul_le_mul (Int.ofNat_le.mpr h) h1 h0 (by decide)) (by decide)
theorem bb_int {h : Heap} {k : Tok} (a b : Bool) : Rep h Y (.int (PyProof.Rows.b2i a - PyProof.Rows.b2i b) k) (.int (b2i a - b2i b)) := by cases a <;> cases b <;> exact .int _ _
theorem bop_ll {a b : Addr} {vs ws : List Value} {l m : List PV} {k k' : Nat} (old : ∀ b, Y b → ∃ o, s.heap.get? b = some o) (e : fit (l ++ m) = some z) (h1 : s.heap.get? a = some (lstO vs k)) (h4 : RepL s.heap Y vs l)
    (h1' : s.heap.get? b = some (lstO ws k')) (h4' : RepL s.heap Y ws m) : wpAny (model prog w) A (binaryOp .Add (.ref a) (.ref b)) (Gd s Y z) NoE s := by
  obtain ⟨q, rfl⟩ := fit_eq e
  have hlen : (vs ++ ws).length ≤ LL := by rw [(h4.append h4').length]; exact q
  refine P.add_list (items := vs.toArray) (items2 := ws.toArray) h1 h1' ?_ ?_
  · rw [show vs.toArray ++ ws.toArray = (vs ++ ws).toArray by simp]
    exact gd_new_lst old (h4.append h4') hlen
  · simpa using LL_line hlen
set_option tactic.hygienic true in
theorem bop_rep {a : Addr} {v0 : Value} {p : PV} {m : Int} {t' : Tok} {k : Nat} (old : ∀ b, Y b → ∃ o, s.heap.get? b = some o) (e : (if m < 0 then none else fit (List.replicate m.toNat p)) = some z) (h1 : s.heap.get? a = some (lstO [v0] k)) (r : Rep s.heap Y v0 p) :
    wpAny (model prog w) A (binaryOp .Mult (.ref a) (.int m t')) (Gd s Y z) NoE s := by
  split at e
  · cases e
  · rename_i hm
    obtain ⟨q, rfl⟩ := fit_eq e
    have q' : m.toNat ≤ 2 ^ 20 := by simpa [LL] using q
    refine wpAny_binaryOp_repeat_ref (T := "list") (U := "int") (by decide) ⟨_, h1, rfl⟩ (fun s' => typeIs_int s' m t') noFill_list_mul F.fills_int_mul F.slot_int_rmul repeat_list F.slot_int_index.lookup
      (call_meets F.slot_int_rmul (typeIs_int s m t') F.entry_int_rmul (F.args_int_rmul_2 _ _) (int___rmul___int_list m t' a #[v0] k)
        ⟨h1, rfl, ⟨_, h1, rfl⟩, call_meets F.slot_list_mul ⟨_, h1, rfl⟩ F.entry_list_mul (F.args_list_mul_2 _ _)
          (AutoListH.list___mul___list_int_3 a #[v0] k m t' (by simp [Builtin.List.listFitsIndex]; lia) (by simp; lia) (by simp [Builtin.List.listTooLong, sizeLine]; lia))
          ⟨h1, ?_⟩⟩)
    have e1 : (List.foldl (fun x1 x2 => x1 ++ x2) #[] (List.replicate (if (#[v0] : Array Value).isEmpty = true then 0 else m.toNat) #[v0])) = (List.replicate m.toNat v0).toArray := by
      rw [foldl_rep]; simp
    rw [e1]
    exact gd_new_lst old (RepL.replicate r _) (by simpa using q)
theorem bop_ii {o : BO} {a b : Int} {t t' : Tok} (e : bop o (.int a) (.int b) = some z) : wpAny (model prog w) A (binaryOp (bo? o) (.int a t) (.int b t')) (Gd s Y z) NoE s := by
  cases o with
  | add => exact Option.some.inj e ▸ wpAny_add_int ⟨keeps_tok s _, .int _ _⟩
  | sub => exact Option.some.inj e ▸ sub_int ⟨keeps_tok s _, .int _ _⟩
  | mul => exact bnd (Option.map_eq_bind.symm.trans e) fun r hr e => ite_s hr fun q hr => Option.some.inj e ▸ Option.some.inj hr ▸ PyProof.Rows.mul_int ⟨keeps_tok s _, .int _ _⟩ (mul_ok q)
  | fdiv => exact if hb : b = 0 then no_none ((if_pos hb).symm.trans e) else ite_s ((if_neg hb).symm.trans e) fun q e => Option.some.inj e ▸ floordiv_int hb ⟨keeps_tok s _, .int _ _⟩ (.inl (PyProof.noPylong_of_log2 (Nat.lt_of_le_of_lt (log_le q) (by decide))))
  | mod => exact if hb : b = 0 then no_none ((if_pos hb).symm.trans e) else Option.some.inj ((if_neg hb).symm.trans e) ▸ mod_int' hb ⟨keeps_tok s _, .int _ _⟩
  | pow => exact bnd (Option.map_eq_bind.symm.trans e) fun r hr e => ite_s hr fun q hr => b3 q fun q1 q2 q3 => Option.some.inj e ▸ Option.some.inj hr ▸ pow_int (of_decide_eq_true q2) (pow_le (sm_bits q1) (of_decide_eq_true q2) (of_decide_eq_true q3)) ⟨keeps_tok s _, .int _ _⟩
theorem bop_ok {n : Nat} {o : BO} (old : ∀ b, Y b → ∃ o, s.heap.get? b = some o) (e : bop o x y = some z) (hx : Rep s.heap Y v x) (hy : Rep s.heap Y u y) :
    wpAny (model prog w) A (binaryOp (bo? o) v u) (Gd s Y z) NoE s := by
  cases x with
  | int a => cases y with
    | int b => refine hx.int_el fun t => hy.int_el fun t' => ?_; apply bop_ii e
    | _ => (exfalso; exact no_none e)
  | lst l => cases o with
    | add => cases y with
      | lst m => refine hx.lst_el fun a vs n h1 h2 h3 h4 => hy.lst_el fun a' vs' n' h1' h2' h3' h4' => ?_; apply bop_ll old e h1 h4 h1' h4'
      | _ => (exfalso; exact no_none e)
    | mul => cases l with
      | nil => (exfalso; exact no_none e)
      | cons p l => cases l with
        | nil => cases y with
          | int m =>
            refine hx.lst_el fun a vs n h1 h2 h3 h4 => hy.int_el fun t' => ?_
            obtain ⟨v, vs, rfl, q, r⟩ := h4.inv
            cases (r.inv : vs = [])
            apply bop_rep old e h1 q
          | _ => (exfalso; exact no_none e)
        | cons _ _ => (exfalso; exact no_none e)
    | _ => (exfalso; exact no_none e)
  | bool a => cases o with
    | sub => cases y with
      | bool b =>
        cases hx.isBool
        cases hy.isBool
        exact Option.some.inj e ▸ sub_bool ⟨keeps_tok s _, bb_int a b⟩
      | _ => (exfalso; exact no_none e)
    | _ => (exfalso; exact no_none e)
  | _ => (exfalso; exact no_none e)
end
end Mine.Internal
namespace Mine.Internal
open PySem PySem.W PyProof.Rows

noncomputable def Pk (h : Heap) (Y : Av) (v : Value) (p : PV) : Prop := Rep h Y v p ∨ ∃ a vs n l, v = .ref a ∧ p = .lst l ∧ h.get? a = some (lstO vs n) ∧ vs.length ≤ LL ∧ RepL h Y vs l
theorem Pk.isLst {h : Heap} {X : Av} {v : Value} {l : List PV} (r : Pk h X v (.lst l)) : ∃ a vs n, v = .ref a ∧ h.get? a = some (lstO vs n) ∧ vs.length ≤ LL ∧ RepL h X vs l := by
  rcases r with r | ⟨a, vs, n, l', rfl, e, h1, h2, h3⟩
  · obtain ⟨a, vs, n, e, h1, _, h2, h3⟩ := r.isLst; exact ⟨a, vs, n, e, h1, h2, h3⟩
  · cases e; exact ⟨a, vs, n, rfl, h1, h2, h3⟩
theorem Pk.rep {h : Heap} {X : Av} {v : Value} {p : PV} (r : Pk h X v p) (hp : ∀ l, p ≠ .lst l) : Rep h X v p := by
  rcases r with r | ⟨a, vs, n, l', rfl, e, h1, h2, h3⟩
  · exact r
  · exact absurd e (hp _)
theorem Pk.keeps {h h' : Heap} {X : Av} (k : KeepsH h h') {v : Value} {p : PV} (r : Pk h X v p) : Pk h' X v p := by
  rcases r with r | ⟨a, vs, n, l', e, e', h1, h2, h3⟩
  · exact .inl (r.keeps k)
  · exact .inr ⟨a, vs, n, l', e, e', k _ _ h1, h2, h3.keeps k⟩
section
variable {prog : Program} {w : World} {A : Around} {s : Shared} {Y : Av} {x y z : PV} {v u : Value} {n : Nat}
noncomputable abbrev GdB (s : Shared) (b : Bool) : Value → Shared → Prop := fun v s' => Keeps s s' ∧ v = .bool b
theorem GdB.gd {s : Shared} {b : Bool} {v : Value} {s' : Shared} (h : GdB s b v s') : Gd s Y (.bool b) v s' := ⟨h.1, by rw [h.2]; exact .bool _⟩
theorem gdB (s : Shared) {b c : Bool} (e : b = c) : GdB s c (.bool b) s := ⟨keeps_refl s, by rw [e]⟩
theorem cop_ii {o : CO} {a c : Int} {b : Bool} {t t' : Tok} (e : cop o (.int a) (.int c) = some b) : wpAny (model prog w) A (compareOp (co? o) (.int a t) (.int c t')) (GdB s b) NoE s := by
  cases o with
  | eq => exact Option.some.inj e ▸ PyProof.Rows.eq_int (gdB s (Bool.eq_iff_iff.mpr (beq_iff_eq.trans decide_eq_true_iff.symm)))
  | ne => exact Option.some.inj e ▸ PyProof.Rows.ne_int (gdB s (Bool.eq_iff_iff.mpr (bne_iff_ne.trans decide_eq_true_iff.symm)))
  | lt => exact Option.some.inj e ▸ PyProof.Rows.lt_int (gdB s rfl)
  | le => exact Option.some.inj e ▸ PyProof.Rows.le_int (gdB s rfl)
  | gt => exact Option.some.inj e ▸ PyProof.Rows.gt_int (gdB s rfl)
  | ge => exact Option.some.inj e ▸ PyProof.Rows.ge_int (gdB s rfl)
theorem cop_ll {o : CO} {b : Bool} {p q : Addr} {vs ws : List Value} {l m : List PV} {k k' : Nat} (R : Room n A) (e : cop o (.lst l) (.lst m) = some b) (h1 : s.heap.get? p = some (lstO vs k)) (h3 : RepL s.heap Y vs l)
    (h1' : s.heap.get? q = some (lstO ws k')) (h4' : RepL s.heap Y ws m) : wpAny (model prog w) A (compareOp (co? o) (.ref p) (.ref q)) (GdB s b) NoE s := by
  cases h4' with
  | cons _ _ => exfalso; exact no_none e
  | nil => cases o with
    | eq =>
      refine Option.some.inj e ▸ ?_
      cases h3 with
      | nil => exact SeqAt.eq_listAt (e := fun o0 => true) (lst_is h1) (lst_is h1') rfl R.units' (fun j hj => absurd hj (Nat.not_lt_zero j)) (gdB s rfl)
      | cons q r => exact SeqAt.eq_list_lengthsAt (lst_is h1) (lst_is h1') (bne_iff_ne.mpr (Nat.succ_ne_zero _)) R.units' (gdB s rfl)
    | ne =>
      refine Option.some.inj e ▸ ?_
      cases h3 with
      | nil => exact SeqAt.RcNeAt.lists (e := fun o0 => true) (lst_is h1) (lst_is h1') rfl R.units' (fun j hj => absurd hj (Nat.not_lt_zero j)) prog w NoE _ (gdB s rfl)
      | cons q r => exact SeqAt.RcNeAt.lists_lengths (lst_is h1) (lst_is h1') (bne_iff_ne.mpr (Nat.succ_ne_zero _)) R.units' prog w NoE _ (gdB s rfl)
    | _ => exfalso; exact no_none e
theorem repl_ii {h : Heap} {vs : List Value} {a b : Int} (r : RepL h Y vs [.int a, .int b]) : ∃ t t', vs = [.int a t, .int b t'] := by
  refine r.cons_el fun v vs r1 r => r.cons_el fun u us r2 r => r.nil_el ?_
  obtain ⟨t1, rfl⟩ := r1.isInt; refine Rep.int_el r2 fun t2 => ?_
  exact ⟨_, _, rfl⟩
theorem range2 (a b c d : Int) : (((List.range 2).all fun j => if j = 0 then a == c else b == d) && true) = (decide (a = c) && decide (b = d)) := by
  show (((a == c) && ((b == d) && true)) && true) = _
  rw [Bool.and_true, Bool.and_true]; rfl
theorem cop_tt {o : CO} {b : Bool} {p q : Addr} {vs ws : List Value} {l m : List PV} (R : Room n A) (e : cop o (.tup l) (.tup m) = some b) (h1 : IsTup s.heap p vs.toArray) (h3 : RepL s.heap Y vs l)
    (h1' : IsTup s.heap q ws.toArray) (h4' : RepL s.heap Y ws m) : wpAny (model prog w) A (compareOp (co? o) (.ref p) (.ref q)) (GdB s b) NoE s := by
  cases o with
  | ne =>
    refine bnd e fun x hx e => bnd e fun y hy e => ?_
    cases i2_eq hx; cases i2_eq hy
    obtain ⟨_, _, rfl⟩ := repl_ii h3
    obtain ⟨_, _, rfl⟩ := repl_ii h4'
    refine Option.some.inj e ▸ SeqAt.RcNeAt.tuples (e := fun j => if j = 0 then x.1 == y.1 else x.2 == y.2) h1 h1' R.units' (fun j hj hj' => ?_) prog w NoE _ (gdB s (congrArg not (range2 _ _ _ _)))
    match j, hj with
    | 0, _ => exact SeqAt.EqAt.int_int _ _ _ _
    | 1, _ => exact SeqAt.EqAt.int_int _ _ _ _
  | _ => exfalso; exact no_none e
theorem Pk.nl {h : Heap} (hx : Pk h Y v x) (hn : ∀ l, x ≠ .lst l) : Rep h Y v x := by
  rcases hx with hx | ⟨a, vs, k, l, q1, q, q2⟩
  · exact hx
  · exact absurd q (hn l)
theorem cop_ok {o : CO} {b : Bool} (R : Room n A) (e : cop o x y = some b) (hx : Pk s.heap Y v x) (hy : Rep s.heap Y u y) :
    wpAny (model prog w) A (compareOp (co? o) v u) (GdB s b) NoE s := by
  cases x with
  | int a => cases y with
    | int b => refine (hx.nl fun o0 q => (nomatch q)).int_el fun t => hy.int_el fun t' => ?_; apply cop_ii e
    | _ => exfalso; exact no_none e
  | lst l => cases y with
    | lst m =>
      obtain ⟨a, vs, k, rfl, h1, h2, h3⟩ := hx.isLst
      refine hy.lst_el fun a' vs' n' h1' h2' h3' h4' => ?_; apply cop_ll R e h1 h3 h1' h4'
    | _ => exfalso; exact no_none e
  | tup l => cases y with
    | tup m => refine (hx.nl fun o0 q => (nomatch q)).tup_el fun a vs ht o0 o0 h4 => hy.tup_el fun a' vs' ht' o0 o0 h4' => ?_; apply cop_tt R e ht h4 ht' h4'
    | _ => exfalso; cases o <;> exact no_none e
  | _ => exfalso; exact no_none e
theorem neg_ok {i : Int} (hx : Rep s.heap Y v (.int i)) : wpAny (model prog w) A (unaryOp .USub v) (Gd s Y (.int (-i))) NoE s := by
  refine Rep.int_el hx fun t => ?_
  exact PyProof.Rows.neg_int ⟨keeps_tok s _, .int _ _⟩
theorem abs_ok {i : Int} (hx : Rep s.heap Y v (.int i)) : wpAny (model prog w) A (call (.builtin "abs") [v]) (Gd s Y (.int (if i < 0 then -i else i))) NoE s := by
  refine Rep.int_el hx fun t => ?_
  exact PyProof.Rows.call_abs_int fun u tk => ⟨keeps_of s s.heap tk eid, .int _ _⟩
theorem LL63 {k : Nat} (h : k ≤ LL) : (k : Int) < 2 ^ 63 := by simp only [LL] at h; lia
theorem len_ok {l : List PV} (hx : Pk s.heap Y v (.lst l)) : wpAny (model prog w) A (call (.builtin "len") [v]) (Gd s Y (.int l.length)) NoE s := by
  obtain ⟨a, vs, k, rfl, h1, h2, h3⟩ := hx.isLst
  refine Calls.call_len_list (lst_is h1) (by simpa using LL63 h2) ⟨keeps_tok s _, ?_⟩
  rw [← h3.length]
  simpa using Rep.int (h := s.heap) (X := Y) (vs.length : Int) (s.toks + 1)
theorem list_ok {l : List PV} (old : ∀ b, Y b → ∃ o, s.heap.get? b = some o) (hx : Rep s.heap Y v (.lst l)) :
    wpAny (model prog w) A (call (.type "list") [v]) (fun r s' => Keeps s s' ∧ ∃ vs n, r = .ref s.heap.objs.size ∧ s'.heap.get? s.heap.objs.size = some (lstO vs n) ∧ vs.length ≤ LL ∧ RepL s.heap Y vs l) NoE s := by
  refine Rep.lst_el hx fun a vs k h1 h2 h3 h4 => ?_
  refine call_list_seq a (T := "list") (.inl rfl) h1 rfl rfl (fun h' c' hk hn => ⟨keeps_of s h' s.toks hk, vs, c', rfl, hn, h3, h4⟩) (by simpa using LL_line h3)
theorem max2_ok {i j : Int} (R : Room n A) (hx : Rep s.heap Y v (.int i)) (hy : Rep s.heap Y u (.int j)) :
    wpAny (model prog w) A (call (.builtin "max") [v, u]) (Gd s Y (.int (if j > i then j else i))) NoE s := by
  obtain ⟨t, rfl⟩ := hx.isInt; obtain ⟨t', rfl⟩ := hy.isInt
  refine max_two_ints R.hd fun h' tk hk => ⟨keeps_of s h' tk hk, ?_⟩
  split <;> exact .int _ _
theorem isstr_ok {l : List PV} (hx : Rep s.heap Y v (.tup l)) : wpAny (model prog w) A (call (.builtin "isinstance") [v, .type "str"]) (GdB s false) NoE s := by
  refine Rep.tup_el hx fun p vs h1 h2 h3 h4 => ?_
  obtain ⟨o, ho, hc, _⟩ := h1
  refine call_function_meets kind_isinstance plain_isinstance entry_isinstance (args_isinstance _ _) (isinstance_false_tuple (by decide) (by rfl) (by rw [isSubtype_type]; kernel_rfl)) ⟨⟨o, ho, hc⟩, ?_⟩
  exact ⟨keeps_tok s _, rfl⟩
set_option tactic.hygienic true in
theorem pidx_spec {l : List PV} {i : Int} {p : PV} (h : pidx l i = some p) : (0 ≤ i ∧ l[i.toNat]? = some p) ∨ (i < 0 ∧ -(l.length : Int) ≤ i ∧ l[((l.length : Int) + i).toNat]? = some p) := by
  unfold pidx at h
  split at h
  · rename_i q; exact .inl ⟨q, h⟩
  · split at h
    · rename_i q r; exact .inr ⟨by lia, r, h⟩
    · cases h
theorem slice_not {sl : Expr} (h : notSlice sl = true) (o i : Value) : subscripted sl false o i = operate [o, i] (getItem o i) := by
  cases sl <;> first | rfl | exact no_ff h
theorem idx_ok {value slice : Expr} {i : Int} {p : PV} (hs : notSlice slice = true) (hx : Pk s.heap Y v x) (hi : Rep s.heap Y u (.int i))
    (e : isS (fun l => pidx l i) x = some p) :
    wpAny (model prog w) A (subscriptTail value slice v u) (Gd s Y p) NoE s := by
  refine Rep.int_el hi fun t => ?_
  cases x with
  | lst l =>
    obtain ⟨a, vs, k, rfl, h1, h2, h3⟩ := hx.isLst
    have hl := h3.length
    have hL : vs.length ≤ 2 ^ 20 := h2
    rcases pidx_spec e with ⟨q, r⟩ | ⟨q, q', r⟩
    · obtain ⟨v', hv, hr⟩ := h3.get _ _ r
      have hlt : i.toNat < vs.length := (List.getElem?_eq_some_iff.mp hv).1
      exact tail_any (lst_is h1).typeIs slot_list_getitem.lookup (wpAny_getItem_list (lst_is h1) q (by lia) (by simpa using hv) ⟨keeps_refl s, hr⟩) (slice_not hs _ _)
    · obtain ⟨v', hv, hr⟩ := h3.get _ _ r
      refine tail_any (lst_is h1).typeIs slot_list_getitem.lookup (wpAny_getItem_list_neg (lst_is h1) q (by simp; lia) (by lia) (x := v') ?_ ⟨keeps_refl s, hr⟩) (slice_not hs _ _)
      rw [show ((i + ((vs.toArray.size : Nat) : Int)).toNat) = (((l.length : Int) + i).toNat) by simp; lia]
      simpa using hv
  | tup l =>
    obtain ⟨a, vs, rfl, h1, h2, h3, h4⟩ := (hx.rep nofun).isTup
    have hl := h4.length
    have hL : vs.length ≤ 2 ^ 20 := h3
    rcases pidx_spec e with ⟨q, r⟩ | ⟨q, q', r⟩
    · obtain ⟨v', hv, hr⟩ := h4.get _ _ r
      have hlt : i.toNat < vs.length := (List.getElem?_eq_some_iff.mp hv).1
      refine item_tupleT h1 (by lia) (by lia) (j := i.toNat) ?_ hv ⟨keeps_refl s, hr⟩ (slice_not hs _ _)
      unfold seqIndex?
      first
      | (split <;> first | rfl | lia | (simp; lia))
      | (simp; lia)
    · obtain ⟨v', hv, hr⟩ := h4.get _ _ r
      refine item_tupleT h1 (by lia) (by lia) (j := ((l.length : Int) + i).toNat) ?_ hv ⟨keeps_refl s, hr⟩ (slice_not hs _ _)
      unfold seqIndex?
      first
      | (split <;> first | rfl | lia | (simp; lia))
      | (simp; lia)
  | _ => cases e
end
end Mine.Internal
namespace Mine.Internal
open PySem PySem.W PyProof.Rows

noncomputable def Src (prog : Program) (w : World) (A : Around) (h0 h : Heap) (Y : Av) (it : Value) (l : List PV) : Prop :=
  ∃ I fp wr P St, it = .ref I ∧ Walks prog w A I fp wr l.length P St ∧ St 0 h ∧ (∀ b ∈ fp, ¬ Y b ∧ ∃ o, h.get? b = some o) ∧ (∀ b ∈ wr, h0.get? b = none) ∧ (∀ i h, St i h → ∀ b ∈ wr, ∃ o, h.get? b = some o) ∧
    (∀ i v, i < l.length → P i v → ∃ p, l[i]? = some p ∧ Rep h0 Y v p)
noncomputable def SrcT (prog : Program) (w : World) (A : Around) (h0 h : Heap) (Y : Av) (it : Value) (l : List PV) : Prop :=
  ∃ I fp wr Pt St Mid, it = .ref I ∧ WalksT prog w A I fp wr l.length Pt St Mid ∧ St 0 h ∧ (∀ b ∈ fp, ¬ Y b ∧ ∃ o, h.get? b = some o) ∧ (∀ b ∈ wr, h0.get? b = none) ∧ (∀ i h, St i h → ∀ b ∈ wr, ∃ o, h.get? b = some o) ∧
    (∀ i vals, i < l.length → Pt i vals → ∃ a b va vb, l[i]? = some (.tup [a, b]) ∧ vals = #[va, vb] ∧ Rep h0 Y va a ∧ Rep h0 Y vb b)
theorem Src.of {prog : Program} {w : World} {A : Around} {h0 h : Heap} {Y : Av} {l : List PV} {I : Addr} {fp wr : List Addr} {n : Nat} {P : Nat → Value → Prop} {St : Nat → Heap → Prop}
    (W : Walks prog w A I fp wr n P St) (hn : n = l.length) (st : St 0 h) (hf : ∀ b ∈ fp, ¬ Y b ∧ ∃ o, h.get? b = some o) (hw : ∀ b ∈ wr, h0.get? b = none) (he : ∀ i h, St i h → ∀ b ∈ wr, ∃ o, h.get? b = some o) (hp : ∀ i v, i < l.length → P i v → ∃ p, l[i]? = some p ∧ Rep h0 Y v p) : Src prog w A h0 h Y (.ref I) l :=
  ⟨I, fp, wr, P, St, rfl, hn ▸ W, st, hf, hw, he, hp⟩
theorem SrcT.of {prog : Program} {w : World} {A : Around} {h0 h : Heap} {Y : Av} {l : List PV} {I : Addr} {fp wr : List Addr} {n : Nat} {Pt : Nat → Array Value → Prop} {St : Nat → Heap → Prop} {Mid : Nat → Addr → Heap → Prop}
    (W : WalksT prog w A I fp wr n Pt St Mid) (hn : n = l.length) (st : St 0 h) (hf : ∀ b ∈ fp, ¬ Y b ∧ ∃ o, h.get? b = some o)
    (hw : ∀ b ∈ wr, h0.get? b = none) (he : ∀ i h, St i h → ∀ b ∈ wr, ∃ o, h.get? b = some o)
    (hp : ∀ i vals, i < l.length → Pt i vals → ∃ a b va vb, l[i]? = some (.tup [a, b]) ∧ vals = #[va, vb] ∧ Rep h0 Y va a ∧ Rep h0 Y vb b) : SrcT prog w A h0 h Y (.ref I) l :=
  ⟨I, fp, wr, Pt, St, Mid, rfl, hn ▸ W, st, hf, hw, he, hp⟩
noncomputable def Itb (prog : Program) (w : World) (A : Around) (h0 : Heap) (Y : Av) (l : List PV) (v : Value) (s : Shared) : Prop :=
  wpAny (model prog w) A (pyIter v) (fun it s' => Keeps s s' ∧ Src prog w A h0 s'.heap Y it l) NoE s
noncomputable def ItbT (prog : Program) (w : World) (A : Around) (h0 : Heap) (Y : Av) (l : List PV) (v : Value) (s : Shared) : Prop :=
  wpAny (model prog w) A (pyIter v) (fun it s' => Keeps s s' ∧ SrcT prog w A h0 s'.heap Y it l) NoE s
section
variable {prog : Program} {w : World} {A : Around} {s : Shared} {Y : Av} {x y z : PV} {v u : Value} {n : Nat}
theorem toArray_get {vs : List Value} {i : Nat} {v : Value} (h : vs.toArray[i]? = some v) : vs[i]? = some v := by simpa using h
theorem itb_lst {l : List PV} (hh : A.handled = none) (old : ∀ b, Y b → ∃ o, s.heap.get? b = some o) (hx : Rep s.heap Y v (.lst l)) : Itb prog w A s.heap Y l v s := by
  refine Rep.lst_el hx fun a vs k h1 h2 h3 h4 => ?_
  have hne : a ≠ s.heap.objs.size := Nat.ne_of_lt (Heap.lt_size h1)
  refine wpAny_pyIter_list (lst_is h1) ⟨keeps_push s _, Src.of (Walks.list hh s.heap.objs.size a hne vs.toArray) (by simpa using h4.length) ⟨⟨_, Heap.get?_push_size _ rfl, rfl, rfl⟩, (lst_is h1).push _⟩ ?_ (fun b hb => by rw [List.mem_singleton.mp hb]; exact size_none _) (fun i h st b hb => by rw [List.mem_singleton.mp hb]; obtain ⟨o, e, _⟩ := st.1; exact ⟨o, e⟩) ?_⟩
  · intro b hb
    rcases List.mem_cons.mp hb with rfl | hb
    · exact ⟨fresh_not old (size_none _), _, Heap.get?_push_size _ rfl⟩
    · rw [List.mem_singleton.mp hb]; exact ⟨h2, _, Heap.get?_push_of_some _ h1⟩
  · intro i v' _ e
    obtain ⟨p, e1, e2⟩ := h4.get' i v' (toArray_get e)
    exact ⟨p, e1, e2⟩
theorem rng_get {a b : Int} {i : Nat} : (rngPV a b)[i]? = if i < (b - a).toNat then some (.int (a + i)) else none := by
  unfold rngPV
  simp only [List.getElem?_map]
  by_cases h : i < (b - a).toNat
  · simp [h]
  · rw [List.getElem?_eq_none (by simpa using h)]; simp [h]
theorem rng_len {a b : Int} : (rngPV a b).length = (b - a).toNat := by simp [rngPV]
theorem src_range {h0 h : Heap} {I : Addr} {a b : Int} (hh : A.handled = none) (hI : ¬ Y I) (hI0 : h0.get? I = none) (e : IsRangeIter h I a (Builtin.Range.rangeSize a b 1) 1) : Src prog w A h0 h Y (.ref I) (rngPV a b) := by
  have hsz : Builtin.Range.rangeSize a b 1 = ((b - a).toNat : Int) := by rw [rangeSize_one]; split <;> lia
  refine Src.of (Walks.range hh I a 1 (b - a).toNat) rng_len.symm ?_ ?_ (fun b hb => by rw [List.mem_singleton.mp hb]; exact hI0) (fun i h st b hb => by rw [List.mem_singleton.mp hb]; exact ⟨_, st⟩) ?_
  · rw [← hsz]
    simpa using e
  · intro b' hb; rw [List.mem_singleton.mp hb]; exact ⟨hI, _, e⟩
  · rintro i v hi ⟨t, rfl⟩
    rw [rng_len] at hi
    rw [Int.mul_one]
    exact ⟨_, by rw [rng_get, if_pos hi], .int _ _⟩
theorem itb_range {h0 : Heap} {r : Addr} {a b : Int} {t u v : Tok} (hh : A.handled = none) (old : ∀ b, Y b → ∃ o, s.heap.get? b = some o) (hr : IsRange s.heap r a b 1 t u v)
    (h1 : -(2 ^ 62 : Int) ≤ a) (h2 : a < 2 ^ 62) (h3 : -(2 ^ 62 : Int) ≤ b) (h4 : b < 2 ^ 62) (k0 : KeepsH h0 s.heap) : Itb prog w A h0 Y (rngPV a b) (.ref r) s := by
  refine wpAny_pyIter_range hr (small_one h1 h2 h3 h4) ⟨keeps_push s _, src_range hh (fresh_not old (size_none _)) (by cases e : h0.get? s.heap.objs.size with
    | none => rfl
    | some o => exact absurd (Heap.lt_size (k0 _ _ e)) (Nat.lt_irrefl _)) (Heap.get?_push_size _ rfl)⟩
theorem rng1_ok {k : Int} (hh : A.handled = none) (old : ∀ b, Y b → ∃ o, s.heap.get? b = some o) (h0 : 0 ≤ k) (hk : k ≤ LL) (hx : Rep s.heap Y v (.int k)) :
    wpAny (model prog w) A (call (.type "range") [v]) (fun r s' => Keeps s s' ∧ Itb prog w A s.heap Y (rngPV 0 k) r s') NoE s := by
  refine Rep.int_el hx fun t => ?_
  have hk' : k ≤ 2 ^ 20 := hk
  exact call_range_1 ⟨keeps_of s _ _ fun o0 o0 e => Heap.get?_push_of_some _ e, itb_range hh (fun b y => (old b y).imp fun o e => Heap.get?_push_of_some _ e) (IsRange.new ..) (by lia) (by lia) (by lia) (by lia) (fun o0 o0 e => Heap.get?_push_of_some _ e)⟩
theorem rng2_ok {a k : Int} (hh : A.handled = none) (old : ∀ b, Y b → ∃ o, s.heap.get? b = some o) (h1 : 0 ≤ a) (h2 : a ≤ LL) (h3 : 0 ≤ k) (h4 : k ≤ LL) (hx : Rep s.heap Y v (.int a)) (hy : Rep s.heap Y u (.int k)) :
    wpAny (model prog w) A (call (.type "range") [v, u]) (fun r s' => Keeps s s' ∧ Itb prog w A s.heap Y (rngPV a k) r s') NoE s := by
  obtain ⟨t, rfl⟩ := hx.isInt; obtain ⟨t', rfl⟩ := hy.isInt
  have h2' : a ≤ 2 ^ 20 := h2
  have h4' : k ≤ 2 ^ 20 := h4
  exact call_range_2 ⟨keeps_of s _ _ fun o0 o0 e => Heap.get?_push_of_some _ e, itb_range hh (fun b y => (old b y).imp fun o e => Heap.get?_push_of_some _ e) (IsRange.new ..) (by lia) (by lia) (by lia) (by lia) (fun o0 o0 e => Heap.get?_push_of_some _ e)⟩
theorem rev_ok {l : List PV} (hh : A.handled = none) (old : ∀ b, Y b → ∃ o, s.heap.get? b = some o) (hx : Rep s.heap Y v (.lst l)) :
    wpAny (model prog w) A (call (.type "reversed") [v]) (fun r s' => Keeps s s' ∧ Itb prog w A s.heap Y l.reverse r s') NoE s := by
  refine Rep.lst_el hx fun a vs k h1 h2 h3 h4 => ?_
  have hne : a ≠ s.heap.objs.size := Nat.ne_of_lt (Heap.lt_size h1)
  have up : KeepsH s.heap (s.heap.push (revObj a ((vs.toArray.size : Int) - 1))) := fun o0 o0 e => Heap.get?_push_of_some _ e
  refine call_reversed_list (lst_is h1) ⟨keeps_push s _, wpAny_pyIter_revIter (l := a) (i := (vs.toArray.size : Int) - 1) ⟨_, Heap.get?_push_size _ rfl, rfl, rfl⟩ ⟨keeps_refl _, ?_⟩⟩
  refine Src.of (Walks.listRev hh s.heap.objs.size a hne vs.toArray) (by simpa using h4.length) ⟨Nat.zero_le _, ⟨_, Heap.get?_push_size _ rfl, rfl, by simp [revObj]⟩, (lst_is h1).push _⟩ ?_ (fun b hb => by rw [List.mem_singleton.mp hb]; exact size_none _) (fun i h st b hb => by rw [List.mem_singleton.mp hb]; obtain ⟨_, ⟨o, e, _⟩, _⟩ := st; exact ⟨o, e⟩) ?_
  · intro b hb
    rcases List.mem_cons.mp hb with rfl | hb
    · exact ⟨fresh_not old (size_none _), _, Heap.get?_push_size _ rfl⟩
    · rw [List.mem_singleton.mp hb]; exact ⟨h2, _, Heap.get?_push_of_some _ h1⟩
  · intro i v' hi e
    have hl := h4.length
    obtain ⟨p, e1, e2⟩ := h4.get' _ v' (toArray_get e)
    refine ⟨p, ?_, e2⟩
    rw [List.length_reverse] at hi
    rw [List.getElem?_reverse hi, ← hl]
    simpa using e1
theorem enum_get : ∀ (l : List PV) (k i : Nat), (enumPV k l)[i]? = (l[i]?).map fun p => .tup [.int ((k + i : Nat) : Int), p]
  | [], k, i => by simp [enumPV_e1, enumPV_e2]
  | p :: r, k, 0 => by simp [enumPV_e1, enumPV_e2]
  | p :: r, k, i + 1 => by
    simp only [enumPV_e1, enumPV_e2, List.getElem?_cons_succ]
    rw [enum_get r (k + 1) i]
    congr 1
    funext q
    rw [show k + 1 + i = k + (i + 1) by lia]
theorem enum_len : ∀ (l : List PV) (k : Nat), (enumPV k l).length = l.length
  | [], k => rfl
  | p :: r, k => by simp [enumPV_e1, enumPV_e2, enum_len r (k + 1)]
theorem enum_ok {l : List PV} (hh : A.handled = none) (old : ∀ b, Y b → ∃ o, s.heap.get? b = some o) (hx : Rep s.heap Y v (.lst l)) :
    wpAny (model prog w) A (call (.type "enumerate") [v]) (fun r s' => Keeps s s' ∧ ItbT prog w A s.heap Y (enumPV 0 l) r s') NoE s := by
  refine Rep.lst_el hx fun a vs k h1 h2 h3 h4 => ?_
  have hlt := Heap.lt_size h1
  have n1 : ∀ j, s.heap.get? (s.heap.objs.size + j) = none := fun j => by
    cases e : s.heap.get? (s.heap.objs.size + j) with
    | none => rfl
    | some o => exact absurd (Heap.lt_size e) (by simp)
  refine call_enumerate_1 h1 fun h' he hit hsz hk => ⟨keeps_of s h' s.toks hk, wpAny_pyIter_enum he ⟨keeps_refl _, ?_⟩⟩
  refine SrcT.of (WalksT.enumerate hh (s.heap.objs.size + 1) s.heap.objs.size a (Nat.succ_ne_self _) (Nat.ne_of_lt (Nat.lt_succ_of_lt hlt)) (Nat.ne_of_lt hlt) vs.toArray) (by rw [enum_len]; simpa using h4.length) ⟨⟨_, he⟩, hit, lst_is (hk _ _ h1)⟩ ?_ ?_ ?_ ?_
  · intro b hb
    simp only [List.mem_cons, List.not_mem_nil, or_false] at hb
    rcases hb with rfl | rfl | rfl
    · exact ⟨fresh_not old (n1 1), _, he⟩
    · obtain ⟨o, ho, _⟩ := hit; exact ⟨fresh_not old (n1 0), o, ho⟩
    · exact ⟨h2, _, hk _ _ h1⟩
  · intro b hb
    simp only [List.mem_cons, List.not_mem_nil, or_false] at hb
    rcases hb with rfl | rfl
    · exact n1 1
    · exact n1 0
  · rintro i h ⟨⟨t, e1⟩, ⟨o, e2, _⟩, _⟩ b hb
    simp only [List.mem_cons, List.not_mem_nil, or_false] at hb
    rcases hb with rfl | rfl
    · exact ⟨_, e1⟩
    · exact ⟨o, e2⟩
  · rintro i vals hi ⟨t, x, e, rfl⟩
    obtain ⟨p, e1, e2⟩ := h4.get' _ x (toArray_get e)
    exact ⟨.int i, p, _, _, by rw [enum_get, e1]; simp, rfl, .int _ _, e2⟩
end
end Mine.Internal
namespace Mine.Internal
open PySem PySem.W PyProof.Rows
section
variable {prog : Program} {w : World} {A : Around} {s : Shared} {Y : Av} {x y z : PV} {v u : Value} {n : Nat}
theorem maxInts_spec {l : List PV} : ∀ {m : Int}, maxInts l = some m → l ≠ [] ∧ (∃ i : Nat, l[i]? = some (PV.int m)) ∧ ∀ (i : Nat) (p : PV), l[i]? = some p → ∃ k, p = PV.int k ∧ k ≤ m := by
  induction l with
  | nil => exact fun h => no_none h
  | cons x r ih =>
    intro m h
    cases x with
    | int a =>
      cases r with
      | nil =>
        cases Option.some.inj h
        refine ⟨List.cons_ne_nil _ _, ⟨0, rfl⟩, fun i p e => ?_⟩
        cases i with
        | zero => exact ⟨_, (Option.some.inj e).symm, Int.le_refl _⟩
        | succ i => exact no_none e
      | cons q r =>
        obtain ⟨m', h1, h2⟩ := Option.map_eq_some_iff.mp (show ((maxInts (q :: r)).map fun m => if a < m then m else a) = some m from h)
        obtain ⟨_, ⟨i0, e0⟩, hall⟩ := ih h1
        have hle : a ≤ m ∧ m' ≤ m ∧ (m = m' ∨ m = a) := by
          by_cases q : a < m'
          · rw [if_pos q] at h2; lia
          · rw [if_neg q] at h2; lia
        refine ⟨List.cons_ne_nil _ _, ?_, fun i p e => ?_⟩
        · rcases hle.2.2 with q | q
          · exact ⟨i0 + 1, q ▸ e0⟩
          · exact ⟨0, q ▸ rfl⟩
        · cases i with
          | zero => exact ⟨_, (Option.some.inj e).symm, hle.1⟩
          | succ i => exact ex2 (hall i p e) fun k e hk => ⟨k, e, Int.le_trans hk hle.2.1⟩
    | _ => exact no_none h
noncomputable def ivO (o : Option Value) : Int := match o with | some (.int k _) => k | _ => 0
noncomputable def bvO (o : Option PV) : Bool := match o with | some (.bool c) => c | _ => false
theorem bvO_t {o : Option PV} (h : bvO o = true) : o = some (.bool true) := by
  cases o with
  | none => exact no_ff h
  | some v => cases v with
    | bool c => exact congrArg (fun c => some (PV.bool c)) h
    | _ => exact no_ff h
set_option tactic.hygienic true in
theorem argBest_spec (val : Nat → Int) : ∀ k, argBest (fun i j => decide (val i > val j)) k ≤ k ∧ ∀ j, j ≤ k → val j ≤ val (argBest (fun i j => decide (val i > val j)) k)
  | 0 => ⟨Nat.le_refl _, fun j hj => by rw [Nat.le_zero.mp hj]; exact Int.le_refl _⟩
  | k + 1 => by
    obtain ⟨h1, h2⟩ := argBest_spec val k
    simp only [argBest]
    split
    · rename_i h
      simp only [decide_eq_true_eq] at h
      refine ⟨Nat.le_refl _, fun j hj => ?_⟩
      by_cases hjk : j = k + 1
      · rw [hjk]; exact Int.le_refl _
      · have := h2 j (by lia); lia
    · rename_i h
      simp only [decide_eq_true_eq] at h
      refine ⟨by lia, fun j hj => ?_⟩
      by_cases hjk : j = k + 1
      · rw [hjk]; lia
      · exact h2 j (by lia)
theorem maxl_ok {l : List PV} {m : Int} (hh : A.handled = none) (old : ∀ b, Y b → ∃ o, s.heap.get? b = some o) (e : maxInts l = some m) (hx : Rep s.heap Y v (.lst l)) :
    wpAny (model prog w) A (call (.builtin "max") [v]) (Gd s Y (.int m)) NoE s := by
  refine Rep.lst_el hx fun a vs k h1 h2 h3 h4 => ?_
  obtain ⟨hne, ⟨i0, e0⟩, hall⟩ := maxInts_spec e
  have hl := h4.length
  have hne' : a ≠ s.heap.objs.size := Nat.ne_of_lt (Heap.lt_size h1)
  have hval : ∀ i (hi : i < vs.length), ∃ k t, vs[i]? = some (.int k t) ∧ l[i]? = some (.int k) := fun i hi => by
    obtain ⟨p, e1, e2⟩ := h4.get' i vs[i] (List.getElem?_eq_getElem hi)
    obtain ⟨k, rfl, _⟩ := hall i p e1
    obtain ⟨t, e3⟩ := e2.isInt
    exact ⟨k, t, by rw [List.getElem?_eq_getElem hi, e3], e1⟩
  let val : Nat → Int := fun i => ivO vs[i]?
  refine call_max_walk (wpAny_pyIter_list (lst_is h1) ⟨_, _, _, _, _, _, fun i j => decide (val i > val j), rfl, Walks.list (prog := prog) (w := w) (A := A.in1) hh s.heap.objs.size a hne' vs.toArray, ⟨⟨_, Heap.get?_push_size _ rfl, rfl, rfl⟩, (lst_is h1).push _⟩, ?_, ?_, ?_, ?_⟩)
  · intro b hb
    rw [Heap.size_push]
    rcases List.mem_cons.mp hb with rfl | hb
    · exact Nat.lt_succ_self _
    · rw [List.mem_singleton.mp hb]; exact Nat.lt_succ_of_lt (Heap.lt_size h1)
  · have : 0 < l.length := List.length_pos_iff.mpr hne
    simpa [hl] using this
  · intro i j vi vj s' Q E hi hj hQ
    have hi' := toArray_get hi
    have hj' := toArray_get hj
    obtain ⟨ki, ti, e1, _⟩ := hval i (List.getElem?_eq_some_iff.mp hi').1
    obtain ⟨kj, tj, e2, _⟩ := hval j (List.getElem?_eq_some_iff.mp hj').1
    rw [hi'] at e1; cases e1
    rw [hj'] at e2; cases e2
    have v1 : val i = ki := congrArg ivO hi'
    have v2 : val j = kj := congrArg ivO hj'
    dsimp only at hQ
    rw [v1, v2] at hQ
    exact cmp_ofGt (PyProof.Rows.gt_int (by simpa using hQ))
  · intro v' h' tk hP hk
    have hP' := toArray_get hP
    have hlt := (List.getElem?_eq_some_iff.mp hP').1
    obtain ⟨k1, t1, e1, e2⟩ := hval _ hlt
    rw [hP'] at e1; cases e1
    obtain ⟨b1, b2⟩ := argBest_spec val (vs.toArray.size - 1)
    have hi0 : i0 < vs.length := by rw [hl]; exact (List.getElem?_eq_some_iff.mp e0).1
    have c1 := b2 i0 (by simp; lia)
    obtain ⟨k0, t0, f1, f2⟩ := hval i0 hi0
    rw [e0] at f2; cases f2
    have v0 : val i0 = m := congrArg ivO f1
    have v1 : val (argBest (fun i j => decide (val i > val j)) (vs.toArray.size - 1)) = k1 := congrArg ivO hP'
    rw [v0, v1] at c1
    obtain ⟨k2, e3, c2⟩ := hall _ _ e2
    cases e3
    have : k1 = m := by lia
    subst this
    exact ⟨keeps_of s h' tk fun b o eb => hk b o (by rw [List.mem_singleton]; exact Nat.ne_of_lt (Heap.lt_size eb)) (Heap.get?_push_of_some _ eb), .int _ _⟩
theorem anyB_spec {l : List PV} : ∀ {b : Bool}, anyB l = some b → (∀ (i : Nat) (p : PV), l[i]? = some p → ∃ c, p = PV.bool c) ∧ b = l.any fun p => bvO (some p) := by
  induction l with
  | nil => exact fun h => ⟨fun i p e => no_none e, (Option.some.inj h).symm⟩
  | cons x r ih =>
    intro b h
    cases x with
    | bool c =>
      obtain ⟨b', h1, h2⟩ := Option.map_eq_some_iff.mp (show ((anyB r).map fun b => c || b) = some b from h)
      have q := ih h1
      refine ⟨fun i p e => ?_, ?_⟩
      · cases i with
        | zero => exact ⟨c, (Option.some.inj e).symm⟩
        | succ i => exact q.1 i p e
      · rw [← h2, q.2]; rfl
    | _ => exact no_none h
theorem any_ok {l : List PV} {b : Bool} (hh : A.handled = none) (old : ∀ b, Y b → ∃ o, s.heap.get? b = some o) (e : anyB l = some b) (hx : Rep s.heap Y v (.lst l)) :
    wpAny (model prog w) A (call (.builtin "any") [v]) (GdB s b) NoE s := by
  refine Rep.lst_el hx fun a vs k h1 h2 h3 h4 => ?_
  obtain ⟨hall, hb⟩ := anyB_spec e
  have hl := h4.length
  have hne' : a ≠ s.heap.objs.size := Nat.ne_of_lt (Heap.lt_size h1)
  let tr : Nat → Bool := fun i => bvO l[i]?
  refine call_any_walk (wpAny_pyIter_list (lst_is h1) ⟨_, _, _, _, _, _, tr, rfl, Walks.list (prog := prog) (w := w) (A := A.in1) hh s.heap.objs.size a hne' vs.toArray, ⟨⟨_, Heap.get?_push_size _ rfl, rfl, rfl⟩, (lst_is h1).push _⟩, ?_, ?_⟩)
  · intro i vi s' Q E hi hQ
    obtain ⟨p, e1, e2⟩ := h4.get' i vi (toArray_get hi)
    obtain ⟨c, rfl⟩ := hall i p e1
    cases e2.isBool
    have : tr i = c := congrArg bvO e1
    rw [this] at hQ
    exact wpAny_truthy_bool hQ
  · intro h' tk hk
    refine ⟨keeps_of s h' tk fun b o eb => hk b o (by rw [List.mem_singleton]; exact Nat.ne_of_lt (Heap.lt_size eb)) (Heap.get?_push_of_some _ eb), ?_⟩
    congr 1
    rw [hb, Bool.eq_iff_iff, List.any_eq_true, List.any_eq_true]
    constructor
    · rintro ⟨i, hi, hc⟩
      exact ⟨_, List.mem_of_getElem? (bvO_t hc), rfl⟩
    · rintro ⟨p, hp, hc⟩
      obtain ⟨i, hi, rfl⟩ := List.mem_iff_getElem.mp hp
      refine ⟨i, by simp [hl, hi], ?_⟩
      exact (congrArg bvO (List.getElem?_eq_getElem hi)).trans hc
theorem slice_ok {env : Env} {value : Expr} {lower upper : Option Expr} {p pos : Pos} {Q : Value → Shared → Prop}
    (h : wpAny (model prog w) A (eval value env) (fun o s₁ => wpAny (model prog w) A (evalPart lower env) (fun vl s₂ => wpAny (model prog w) A (evalPart upper env) (fun vu s₃ =>
      ∃ l items lo hi, o = .ref l ∧ s₃.heap.IsList l items ∧ items.size ≤ sizeLine ∧ IsPart vl lo ∧ IsPart vu hi ∧
        Q (.ref (s₃.heap.objs.size + 1)) { s₃ with heap := (s₃.heap.push { cls := .type "slice", data := .fields #[vl, vu, .none] }).push { cls := .type "list", data := .seq (slicePick items lo hi none) } }) NoE s₂) NoE s₁) NoE s) :
    wpAny (model prog w) A (eval (.Subscript value (.Slice lower upper none p) pos) env) Q NoE s := by
  refine Subscript_ (wpAny_mono h (fun o s₁ h₁ => wpAny_Slice (wpAny_mono h₁ (fun vl s₂ h₂ => wpAny_mono h₂ (fun vu s₃ h₃ => ?_) eid) eid)) eid)
  obtain ⟨l, items, lo, hi, rfl, hl, hsz, pl, pu, hQ⟩ := h₃
  rw [evalPart_none]
  refine wpAny_pure ?_
  refine tail_any (hl.push _).typeIs list_getitem_lookup (wpAny_getItem_list_slice (hl.push _) (Heap.IsSliceOf.new ..) pl pu .none (by simp) ?_ hsz) rfl
  rw [Heap.size_push]
  exact hQ
end
end Mine.Internal
namespace Mine.Internal
open PySem PySem.W PyProof.Rows
noncomputable def Tr (X Y : Av) (s : Shared) (Y' : Av) (s' : Shared) : Prop :=
  (∃ h tk, s' = { s with heap := h, toks := tk }) ∧ ∀ b o, s.heap.get? b = some o → (X b → s'.heap.get? b = some o) ∧ (¬ Y b → s'.heap.get? b = some o ∧ ¬ Y' b)
theorem Tr.refl (X Y : Av) (s : Shared) : Tr X Y s Y s := ⟨⟨s.heap, s.toks, rfl⟩, fun o0 o0 e => ⟨fun o0 => e, fun y => ⟨e, y⟩⟩⟩
theorem Tr.trans {X Y Y' Y'' : Av} {s s' s'' : Shared} (a : Tr X Y s Y' s') (b : Tr X Y' s' Y'' s'') : Tr X Y s Y'' s'' := by
  obtain ⟨⟨h, t, rfl⟩, k⟩ := a
  obtain ⟨⟨h', t', rfl⟩, k'⟩ := b
  exact ⟨⟨h', t', rfl⟩, fun b o e => ⟨fun x => (k' b o ((k b o e).1 x)).1 x, fun y => (k' b o ((k b o e).2 y).1).2 ((k b o e).2 y).2⟩⟩
theorem Tr.of_keeps {X Y : Av} {s s' : Shared} (k : Keeps s s') : Tr X Y s Y s' := by
  obtain ⟨h, t, rfl, k⟩ := k
  exact ⟨⟨h, t, rfl⟩, fun b o e => ⟨fun o0 => k b o e, fun y => ⟨k b o e, y⟩⟩⟩
theorem Tr.rep {X Y Y' : Av} {s s' : Shared} (t : Tr X Y s Y' s') {v : Value} {p : PV} (r : Rep s.heap Y v p) : Rep s'.heap Y' v p := r.mono fun b o e y => (t.2 b o e).2 y
theorem pset_len : ∀ (ρ : List Slot) (i : Nat) (s : Slot), (pset ρ i s).length = ρ.length
  | [], _, _ => rfl
  | _ :: _, 0, _ => rfl
  | _ :: r, i + 1, s => by simp [pset_e1, pset_e2, pset_e3, pset_len r i s]
theorem pget_pset_ne : ∀ (ρ : List Slot) (i j : Nat) (s : Slot), j ≠ i → pget (pset ρ i s) j = pget ρ j
  | [], _, _, _, _ => rfl
  | _ :: _, 0, 0, _, h => absurd rfl h
  | _ :: _, 0, j + 1, _, _ => rfl
  | _ :: _, i + 1, 0, _, _ => rfl
  | _ :: r, i + 1, j + 1, s, h => pget_pset_ne r i j s (by lia)
theorem pget_pset_self : ∀ (ρ : List Slot) (i : Nat) (s : Slot), pget (pset ρ i s) i = s ∨ pget (pset ρ i s) i = .un
  | [], _, _ => .inr rfl
  | _ :: _, 0, _ => .inl rfl
  | _ :: r, i + 1, s => pget_pset_self r i s
theorem OwnAt.sameBut {h h' : Heap} {X Y : Av} {a c : Addr} {l : List PV} (hs : Heap.SameBut c h h') (yc : Y c) (hc : ∃ o, h.get? c = some o ∧ ∀ vs n, o.data ≠ .seq vs n) (o : OwnAt h X Y a l) : OwnAt h' X Y a l := by
  obtain ⟨a1, a2, vs, n, e, f, r⟩ := o
  obtain ⟨oc, ec, hd⟩ := hc
  have hne : a ≠ c := by rintro rfl; rw [ec] at e; cases e; exact hd _ _ rfl
  exact ⟨a1, a2, vs, n, (hs.2 a hne).trans e, f, r.mono fun b o e y => ⟨(hs.2 b (by rintro rfl; exact y yc)).trans e, y⟩⟩
theorem Rep.sameBut {h h' : Heap} {Y : Av} {c : Addr} (hs : Heap.SameBut c h h') (yc : Y c) {v : Value} {p : PV} (r : Rep h Y v p) : Rep h' Y v p :=
  r.mono fun b o e y => ⟨(hs.2 b (by rintro rfl; exact y yc)).trans e, y⟩
theorem SlotOk.sameBut {h h' : Heap} {X Y Z : Av} {a c : Addr} {ov : Option Value} {sl : Slot} (hs : Heap.SameBut c h h') (yc : Y c) (hc : ∃ o, h.get? c = some o ∧ ∀ vs n, o.data ≠ .seq vs n) (o : SlotOk h X Y Z a ov sl) : SlotOk h' X Y Z a ov sl := by
  cases sl with
  | un => trivial
  | val p => obtain ⟨v, e, r⟩ := o; exact ⟨v, e, r.sameBut hs yc⟩
  | own l => exact ⟨o.1, o.2.1.sameBut hs yc hc, o.2.2⟩
theorem SlotOk.zsub {h : Heap} {X Y Z Z' : Av} {a : Addr} {ov : Option Value} {sl : Slot} (hz : ∀ b, Z b → Z' b) (o : SlotOk h X Y Z a ov sl) : SlotOk h X Y Z' a ov sl := by
  cases sl with
  | un => trivial
  | val p => exact o
  | own l => exact ⟨o.1, o.2.1, hz _ o.2.2⟩
noncomputable def New (h : Heap) (X Y Z : Av) (v : Value) : Slot → Prop
  | .un => False
  | .val p => Rep h Y v p
  | .own l => ∃ a, v = .ref a ∧ OwnAt h X Y a l ∧ ¬ Z a
noncomputable def zPut (Z : Av) (v : Value) : Slot → Av
  | .own _ => fun b => Z b ∨ v = .ref b
  | _ => Z
section
variable {prog : Program} {w : World} {A : Around} {s : Shared} {hB : Heap} {X Y Z : Av} {env : Env} {sc : Sc} {ρ : List Slot}
theorem kind_hp (O : Ok env sc) : (env.scope.kind == .class || (env.scope.kind == .module && env.locals != env.globals)) = false := by rw [O.kind]; rfl
noncomputable def addrOf : Value → Addr
  | .ref a => a
  | _ => 0
theorem ns_unique {h : Heap} {a : Addr} {m m' : Str → Option Value} (x : h.Ns a m) (y : h.Ns a m') : m' = m := by
  obtain ⟨o, es, ep, ho, hd, _, hf⟩ := x
  obtain ⟨o', es', ep', ho', hd', _, hf'⟩ := y
  rw [ho] at ho'; cases ho'
  rw [hd] at hd'; cases hd'
  funext n
  rw [← hf n, ← hf' n]
structure Mine' (X : Av) (env : Env) (sc : Sc) : Prop where
  loc : ¬ X env.locals
  cel : ∀ i x c, sc.get i = some (x, true) → env.cells.lookup x = some c → ¬ X c
noncomputable abbrev LK (h h' : Heap) : Prop := ∀ b vs n, h.get? b = some (lstO vs n) → h'.get? b = some (lstO vs n)
theorem store_at {i : Nat} {x : Str} {b : Bool} {v : Value} {sl : Slot} {h' : Heap} {c : Addr} (O : Ok env sc) (I : Inv hB X env sc s.heap Y Z ρ) (hi : sc.get i = some (x, b)) (hnew : New s.heap X Y Z v sl)
    (hs : Heap.SameBut c s.heap h') (yc : Y c) (hc : ∃ o, s.heap.get? c = some o ∧ ∀ vs n, o.data ≠ .seq vs n) (hc' : ∃ o, h'.get? c = some o)
    (hloc : ∀ m, s.heap.Ns env.locals m → ∃ m', h'.Ns env.locals m' ∧ (∀ y, y ≠ x → m' y = m y) ∧ (b = false → m' x = some v))
    (hcel : ∀ j y d ov, sc.get j = some (y, true) → env.cells.lookup y = some d → s.heap.IsCell d ov → h'.IsCell d (if j = i then some v else ov)) :
    Inv hB X env sc h' Y (zPut Z v sl) (pset ρ i sl) := by
  obtain ⟨m, vm, ad, hn, hm, hcl, hso, hinj⟩ := I.st
  obtain ⟨m', hn', hm1, hm2⟩ := hloc m hn
  have up : ∀ b o, s.heap.get? b = some o → ¬ Y b → h'.get? b = some o := fun b o e y => (hs.2 b (by rintro rfl; exact y yc)).trans e
  have hz : ∀ b, Z b → zPut Z v sl b := fun b z => by cases sl <;> first | exact z | exact .inl z
  refine ⟨fun b o e => up b o (I.base b o e) (I.baseY b o e), I.baseY, I.sub, fun b y => ?_, I.locY, I.celY, fun b z => ?_, m', fun j => if j = i then some v else vm j, fun j => if j = i then addrOf v else ad j, hn', ?_, ?_, ?_, ?_⟩
  · by_cases hbc : b = c
    · rw [hbc]; exact hc'
    · exact (I.old b y).imp fun o e => (hs.2 b hbc).trans e
  · cases sl with
    | un => exact I.zY b z
    | val p => exact I.zY b z
    | own l =>
      rcases z with z | rfl
      · exact I.zY b z
      · obtain ⟨a, e, o, _⟩ := hnew; cases e; exact o.1
  · intro j y hj
    by_cases hji : j = i
    · subst hji; rw [hi] at hj; cases hj; simp [hm2 rfl]
    · have hyx : y ≠ x := by rintro rfl; exact hji (O.inj _ _ _ _ _ hj hi)
      simp only [if_neg hji]; rw [hm1 y hyx]; exact hm j y hj
  · intro j y d hj hd
    have := hcel j y d _ hj hd (hcl j y d hj hd)
    simpa using this
  · intro j
    by_cases hji : j = i
    · subst hji
      simp only [if_true]
      rcases pget_pset_self ρ j sl with e | e
      · rw [e]
        cases sl with
        | un => trivial
        | val p => exact ⟨v, rfl, hnew.sameBut hs yc⟩
        | own l => obtain ⟨a, rfl, o, _⟩ := hnew; exact ⟨rfl, o.sameBut hs yc hc, .inr rfl⟩
      · rw [e]; trivial
    · simp only [if_neg hji]
      rw [pget_pset_ne _ _ _ _ hji]
      exact ((hso j).sameBut hs yc hc).zsub hz
  · intro j k l l' hj hk e
    by_cases hji : j = i <;> by_cases hki : k = i
    · rw [hji, hki]
    · subst hji
      simp only [if_true, if_neg hki] at e
      rw [pget_pset_ne _ _ _ _ hki] at hk
      rcases pget_pset_self ρ j sl with q | q
      · rw [q] at hj; subst hj
        obtain ⟨a, rfl, o, nz⟩ := hnew
        have := hso k; rw [hk] at this
        exact absurd (show Z a from (show a = ad k from e) ▸ this.2.2) nz
      · rw [q] at hj; cases hj
    · subst hki
      simp only [if_true, if_neg hji] at e
      rw [pget_pset_ne _ _ _ _ hji] at hj
      rcases pget_pset_self ρ k sl with q | q
      · rw [q] at hk; subst hk
        obtain ⟨a, rfl, o, nz⟩ := hnew
        have := hso j; rw [hj] at this
        exact absurd (show Z a from (show ad j = a from e) ▸ this.2.2) nz
      · rw [q] at hk; cases hk
    · simp only [if_neg hji, if_neg hki] at e
      rw [pget_pset_ne _ _ _ _ hji] at hj
      rw [pget_pset_ne _ _ _ _ hki] at hk
      exact hinj _ _ _ _ hj hk e
theorem Mine'.get {i : Nat} {x : Str} {b : Bool} (Mi : Mine' X env sc) (hi : sc.get i = some (x, b)) : (b = false → ¬ X env.locals) ∧ (b = true → ∀ c, env.cells.lookup x = some c → ¬ X c) := ⟨fun o0 => Mi.loc, fun e c h => Mi.cel i x c (e ▸ hi) h⟩
theorem store_ok {i : Nat} {x : Str} {b : Bool} {v : Value} {sl : Slot} (O : Ok env sc) (Mi : (b = false → ¬ X env.locals) ∧ (b = true → ∀ c, env.cells.lookup x = some c → ¬ X c)) (I : Inv hB X env sc s.heap Y Z ρ) (hi : sc.get i = some (x, b)) (hnew : New s.heap X Y Z v sl) :
    wpAny (model prog w) A (storeName env x v) (fun o0 s' => Tr X Y s Y s' ∧ LK s.heap s'.heap ∧ Inv hB X env sc s'.heap Y (zPut Z v sl) (pset ρ i sl)) NoE s := by
  obtain ⟨m, vm, ad, hn, hm, hc, hso, hinj⟩ := id I.st
  obtain ⟨oL, es, ep, hoL, hdL, _⟩ := id hn
  have trOf : ∀ (h' : Heap) (t : Nat) (c : Addr), Heap.SameBut c s.heap h' → Y c → ¬ X c → Tr X Y s Y { s with heap := h', toks := t } := fun h' t c hs yc xc =>
    ⟨⟨h', t, rfl⟩, fun b o e => ⟨fun xb => (hs.2 b (by rintro rfl; exact xc xb)).trans e, fun yb => ⟨(hs.2 b (by rintro rfl; exact yb yc)).trans e, yb⟩⟩⟩
  cases b with
  | false =>
    refine wpAny_storeName_local (O.loc i x hi).1 hn (fun h' hn' hs => ⟨trOf h' _ _ hs I.locY (Mi.1 rfl), fun b us k e => (hs.2 b (by rintro rfl; rw [hoL] at e; cases e; cases hdL)).trans e, ?_⟩) (kind_hp O)
    refine store_at (c := env.locals) (b := false) (x := x) O I hi hnew hs I.locY ⟨oL, hoL, by rw [hdL]; intro _ _ q; cases q⟩ (by obtain ⟨o, _, _, e, _⟩ := hn'; exact ⟨o, e⟩) (fun m₂ hn₂ => ?_) fun j y d ov hj hd hcell => ?_
    · rw [ns_unique hn hn₂]
      exact ⟨_, hn', fun y hy => if_neg hy, fun o0 => if_pos rfl⟩
    · have hji : j ≠ i := by rintro rfl; rw [hi] at hj; cases hj
      rw [if_neg hji]
      obtain ⟨o, ho, hd'⟩ := hcell
      exact ⟨o, (hs.2 d (by rintro rfl; rw [hoL] at ho; cases ho; rw [hdL] at hd'; cases hd')).trans ho, hd'⟩
  | true =>
    obtain ⟨hk, _, c, hlook⟩ := O.cel i x hi
    have hcell := hc i x c hi hlook
    obtain ⟨oc, hoc, hdc⟩ := id hcell
    have hne : env.locals ≠ c := by rintro e; rw [← e, hoL] at hoc; cases hoc; rw [hdL] at hdc; cases hdc
    refine wpAny_storeName_cell O.kind hk hlook hcell fun h' hc' hs => ⟨trOf h' _ _ hs (I.celY i x c hi hlook) (Mi.2 rfl c hlook), fun b us k e => (hs.2 b (by rintro rfl; rw [hoc] at e; cases e; cases hdc)).trans e, ?_⟩
    refine store_at (c := c) (b := true) (x := x) O I hi hnew hs (I.celY i x c hi hlook) ⟨oc, hoc, by rw [hdc]; intro _ _ q; cases q⟩ (by obtain ⟨o, e, _⟩ := hc'; exact ⟨o, e⟩) (fun m₂ hn₂ => ⟨m₂, hn₂.sameBut hs hne, fun o0 o0 => rfl, nofun⟩) fun j y d ov hj hd hcj => ?_
    by_cases hji : j = i
    · subst hji; rw [hi] at hj; cases hj; rw [hlook] at hd; cases hd; simpa using hc'
    · rw [if_neg hji]
      have hdc' : d ≠ c := by
        rintro rfl
        have e := name_of_addr O.apart (mem_of_lookup hd) (mem_of_lookup hlook)
        subst e
        exact hji (O.inj _ _ _ _ _ hj hi)
      exact hcj.sameBut hs hdc'
end
end Mine.Internal
namespace Mine.Internal
open PySem PySem.W PyProof.Rows
section
variable {prog : Program} {w : World} {A : Around} {s : Shared} {hB : Heap} {X Y Z : Av} {env : Env} {sc : Sc} {ρ : List Slot}
theorem load_raw {i : Nat} {x : Str} {b : Bool} {v : Value} {h : Heap} {m : Str → Option Value} {vm : Nat → Option Value} (O : Ok env sc) (hi : sc.get i = some (x, b)) (hn : h.Ns env.locals m) (hm : ∀ i x, sc.get i = some (x, false) → m x = vm i)
    (hc : ∀ i x c, sc.get i = some (x, true) → env.cells.lookup x = some c → h.IsCell c (vm i)) (hv : vm i = some v) (hs : s.heap = h) {pos : Pos} :
    wpAny (model prog w) A (eval (.Name x pos) env) (fun v' s' => v' = v ∧ s' = s) NoE s := by
  subst hs
  cases b with
  | false =>
    exact wpAny_Name (wpAny_loadName_local O.kind (O.loc i x hi).1 hn ((hm i x hi).trans hv) ⟨rfl, rfl⟩) (O.loc i x hi).2
  | true =>
    obtain ⟨hk, hd, c, hl⟩ := O.cel i x hi
    exact wpAny_Name (wpAny_loadName_cell O.kind hk hl (hv ▸ hc i x c hi hl) ⟨rfl, rfl⟩) hd
theorem var_ok {i : Nat} {x : Str} {b : Bool} {p : PV} (O : Ok env sc) (I : Inv hB X env sc s.heap Y Z ρ) (hi : sc.get i = some (x, b)) (hp : pget ρ i = .val p) {pos : Pos} :
    wpAny (model prog w) A (eval (.Name x pos) env) (Gd s Y p) NoE s := by
  obtain ⟨m, vm, ad, hn, hm, hc, hso, _⟩ := I.st
  have := hso i
  rw [hp] at this
  obtain ⟨v, hv, hr⟩ := this
  refine wpAny_mono (load_raw O hi hn hm hc hv rfl) (fun v' s' h => ?_) eid
  obtain ⟨rfl, rfl⟩ := h
  exact ⟨keeps_refl _, hr⟩
theorem own_at {i : Nat} {l : List PV} (O : Ok env sc) (I : Inv hB X env sc s.heap Y Z ρ) (hp : pget ρ i = .own l) :
    ∃ a, OwnAt s.heap X Y a l ∧ Z a ∧
      (∀ x b pos (s₁ : Shared), sc.get i = some (x, b) → KeepsH s.heap s₁.heap → wpAny (model prog w) A (eval (.Name x pos) env) (fun v' s' => v' = .ref a ∧ s' = s₁) NoE s₁) ∧
      (∀ (h₁ h' : Heap) (l' : List PV) (vs' : List Value) (n' : Nat), KeepsH s.heap h₁ → Heap.SameBut a h₁ h' → h'.get? a = some (lstO vs' n') → vs'.length ≤ LL → RepL h₁ Y vs' l' → Inv hB X env sc h' Y Z (pset ρ i (.own l'))) := by
  obtain ⟨m, vm, ad, hn, hm, hc, hso, hinj⟩ := id I.st
  have hi := hso i
  rw [hp] at hi
  obtain ⟨hv, ho, hz⟩ := hi
  refine ⟨ad i, ho, hz, fun x b pos s₁ hx k => ?_, fun h₁ h' l' vs' n' k hs he hl hr => ?_⟩
  · exact load_raw (h := s₁.heap) O hx (hn.keeps k) hm (fun i x c q r => (hc i x c q r).keeps k) hv rfl
  obtain ⟨ya, xa, vs, n, ea, la, ra⟩ := ho
  have ya' : Y (ad i) := ya
  have up : ∀ b o, s.heap.get? b = some o → b ≠ ad i → h'.get? b = some o := fun b o e hb => (hs.2 b hb).trans (k b o e)
  obtain ⟨oL, es, ep, hoL, hdL, r3, r4⟩ := id hn
  have hLa : env.locals ≠ ad i := by intro e; rw [← e, hoL] at ea; cases ea; cases hdL
  refine ⟨fun b o e => up b o (I.base b o e) (by rintro rfl; exact I.baseY _ o e ya), I.baseY, I.sub, fun b y => ?_, I.locY, I.celY, I.zY, m, vm, ad, ⟨oL, es, ep, up _ _ hoL hLa, hdL, r3, r4⟩, hm, fun j x c hj hl' => ?_, fun j => ?_, ?_⟩
  · by_cases hb : b = ad i
    · rw [hb]; exact ⟨_, he⟩
    · obtain ⟨o, e⟩ := I.old b y; exact ⟨o, up b o e hb⟩
  · obtain ⟨o, e, d⟩ := hc j x c hj hl'
    exact ⟨o, up c o e (by rintro rfl; rw [ea] at e; cases e; cases d), d⟩
  · by_cases hji : j = i
    · subst hji
      rcases pget_pset_self ρ j (.own l') with q | q
      · rw [q]; exact ⟨hv, ⟨ya, xa, vs', n', he, hl, hr.mono fun b o e y => ⟨(hs.2 b (by rintro rfl; exact y ya')).trans e, y⟩⟩, hz⟩
      · rw [q]; trivial
    · rw [pget_pset_ne _ _ _ _ hji]
      have hj := hso j
      cases hq : pget ρ j with
      | un => trivial
      | val p =>
        rw [hq] at hj
        obtain ⟨v, e1, e2⟩ := hj
        exact ⟨v, e1, e2.mono fun b o e y => ⟨up b o e (by rintro rfl; exact y ya'), y⟩⟩
      | own m' =>
        rw [hq] at hj
        obtain ⟨e1, ⟨y1, x1, ws, n1, f1, f2, f3⟩, z1⟩ := hj
        have hne : ad j ≠ ad i := fun e => hji (hinj _ _ _ _ hq hp e)
        exact ⟨e1, ⟨y1, x1, ws, n1, up _ _ f1 hne, f2, f3.mono fun b o e y => ⟨up b o e (by rintro rfl; exact y ya'), y⟩⟩, z1⟩
  · intro j k' l1 l2 h1 h2 e
    have g : ∀ j l1, pget (pset ρ i (.own l')) j = .own l1 → ∃ l2, pget ρ j = .own l2 := fun j l1 h => by
      by_cases hji : j = i
      · exact ⟨l, hji ▸ hp⟩
      · rw [pget_pset_ne _ _ _ _ hji] at h; exact ⟨_, h⟩
    obtain ⟨m1, q1⟩ := g j l1 h1
    obtain ⟨m2, q2⟩ := g k' l2 h2
    exact hinj _ _ _ _ q1 q2 e
theorem freeze_ok {i : Nat} {l : List PV} (I : Inv hB X env sc s.heap Y Z ρ) (hp : pget ρ i = .own l) : ∃ Y' Z', Inv hB X env sc s.heap Y' Z' (pset ρ i (.val (.lst l))) ∧ Tr X Y s Y' s := by
  obtain ⟨m, vm, ad, hn, hm, hc, hso, hinj⟩ := id I.st
  have hi := hso i
  rw [hp] at hi
  obtain ⟨hv, ⟨ya, xa, vs, n, ea, la, ra⟩, hz⟩ := hi
  have sub : ∀ b, (Y b ∧ b ≠ ad i) → Y b := fun b y => y.1
  obtain ⟨oL, es, ep, hoL, hdL, r3, r4⟩ := id hn
  have hLa : env.locals ≠ ad i := by intro e; rw [← e, hoL] at ea; cases ea; cases hdL
  refine ⟨fun b => Y b ∧ b ≠ ad i, fun b => Z b ∧ b ≠ ad i, ⟨I.base, fun b o e y => I.baseY b o e y.1, fun b x => ⟨I.sub b x, by rintro rfl; exact xa x⟩, fun b y => I.old b y.1, ⟨I.locY, hLa⟩, fun j x c hj hl => ⟨I.celY j x c hj hl, ?_⟩, fun b z => ⟨I.zY b z.1, z.2⟩, m, vm, ad, hn, hm, hc, fun j => ?_, ?_⟩, ⟨⟨s.heap, s.toks, rfl⟩, fun b o e => ⟨fun o0 => e, fun y => ⟨e, fun q => y q.1⟩⟩⟩⟩
  · obtain ⟨o, e, d⟩ := hc j x c hj hl
    rintro rfl; rw [ea] at e; cases e; cases d
  · by_cases hji : j = i
    · subst hji
      rcases pget_pset_self ρ j (.val (.lst l)) with q | q
      · rw [q]; exact ⟨_, hv, .lst ea (fun q => q.2 rfl) la (ra.mono fun b o e y => ⟨e, fun q => y q.1⟩)⟩
      · rw [q]; trivial
    · rw [pget_pset_ne _ _ _ _ hji]
      have hj := hso j
      cases hq : pget ρ j with
      | un => trivial
      | val p =>
        rw [hq] at hj
        obtain ⟨v, e1, e2⟩ := hj
        exact ⟨v, e1, e2.sub sub⟩
      | own m' =>
        rw [hq] at hj
        obtain ⟨e1, ⟨y1, x1, ws, n1, f1, f2, f3⟩, z1⟩ := hj
        have hne : ad j ≠ ad i := fun e => hji (hinj _ _ _ _ hq hp e)
        exact ⟨e1, ⟨⟨y1, hne⟩, x1, ws, n1, f1, f2, f3.mono fun b o e y => ⟨e, fun q => y q.1⟩⟩, z1, hne⟩
  · intro j k l1 l2 h1 h2 e
    have g : ∀ j l1, pget (pset ρ i (.val (.lst l))) j = .own l1 → pget ρ j = .own l1 := fun j l1 h => by
      by_cases hji : j = i
      · subst hji
        rcases pget_pset_self ρ j (.val (.lst l)) with q | q <;> rw [q] at h <;> cases h
      · rwa [pget_pset_ne _ _ _ _ hji] at h
    exact hinj _ _ _ _ (g _ _ h1) (g _ _ h2) e
end
end Mine.Internal
namespace Mine.Internal
open PySem PySem.W PyProof.Rows
section
variable {prog : Program} {w : World} {A : Around} {s : Shared} {hB : Heap} {X Y Z : Av} {env : Env} {sc : Sc} {ρ : List Slot}
theorem Inv.change {h h' : Heap} (I : Inv hB X env sc h Y Z ρ) (ch : Av) (hk : ∀ b o, ¬ ch b → h.get? b = some o → h'.get? b = some o) (hx : ∀ b, ch b → X b) (he : ∀ b, ch b → ∃ o, h'.get? b = some o)
    (hl : ¬ ch env.locals) (hc : ∀ i x c, sc.get i = some (x, true) → env.cells.lookup x = some c → ¬ ch c) : Inv hB X env sc h' Y Z ρ := by
  obtain ⟨m, vm, ad, hn, hm, hcl, hso, hinj⟩ := id I.st
  have hy : ∀ b, ch b → Y b := fun b c => I.sub b (hx b c)
  have up : ∀ b o, h.get? b = some o → ¬ Y b → h'.get? b = some o ∧ ¬ Y b := fun b o e y => ⟨hk b o (fun c => y (hy b c)) e, y⟩
  refine ⟨fun b o e => (up b o (I.base b o e) (I.baseY b o e)).1, I.baseY, I.sub, fun b y => ?_, I.locY, I.celY, I.zY, m, vm, ad, hn.at' fun o e => hk _ o hl e, hm, fun i x c a b => ?_, fun i => ?_, hinj⟩
  · by_cases c : ch b
    · exact he b c
    · exact (I.old b y).imp fun o e => hk b o c e
  · obtain ⟨o, e, d⟩ := hcl i x c a b
    exact ⟨o, hk c o (hc i x c a b) e, d⟩
  · have hi := hso i
    cases hq : pget ρ i with
    | un => trivial
    | val p =>
      rw [hq] at hi
      obtain ⟨v, e1, e2⟩ := hi
      exact ⟨v, e1, e2.mono up⟩
    | own l =>
      rw [hq] at hi
      obtain ⟨e1, ⟨y1, x1, vs, n, f1, f2, f3⟩, z1⟩ := hi
      exact ⟨e1, ⟨y1, x1, vs, n, hk _ _ (fun c => x1 (hx _ c)) f1, f2, f3.mono up⟩, z1⟩
theorem Inv.addX {h h' : Heap} (I : Inv hB X env sc h Y Z ρ) (W : Av) (hw : ∀ b, W b → h.get? b = none) (hk : KeepsH h h') (he : ∀ b, W b → ∃ o, h'.get? b = some o) :
    Inv hB (fun b => X b ∨ W b) env sc h' (fun b => Y b ∨ W b) Z ρ := by
  obtain ⟨m, vm, ad, hn, hm, hcl, hso, hinj⟩ := id I.st
  have nw : ∀ b o, h.get? b = some o → ¬ W b := fun b o e q => by rw [hw b q] at e; cases e
  have up : ∀ b o, h.get? b = some o → ¬ Y b → h'.get? b = some o ∧ ¬ (Y b ∨ W b) := fun b o e y => ⟨hk b o e, fun q => q.elim y (nw b o e)⟩
  refine ⟨fun b o e => hk b o (I.base b o e), fun b o e => (up b o (I.base b o e) (I.baseY b o e)).2, fun b x => x.imp (I.sub b) id, fun b y => ?_, .inl I.locY, fun i x c a b => .inl (I.celY i x c a b), fun b z => .inl (I.zY b z), m, vm, ad, hn.keeps hk, hm,
    fun i x c a b => (hcl i x c a b).keeps hk, fun i => ?_, hinj⟩
  · rcases y with y | y
    · exact (I.old b y).imp fun o e => hk b o e
    · exact he b y
  · have hi := hso i
    cases hq : pget ρ i with
    | un => trivial
    | val p =>
      rw [hq] at hi
      obtain ⟨v, e1, e2⟩ := hi
      exact ⟨v, e1, e2.mono up⟩
    | own l =>
      rw [hq] at hi
      obtain ⟨e1, ⟨y1, x1, vs, n, f1, f2, f3⟩, z1⟩ := hi
      exact ⟨e1, ⟨.inl y1, fun q => q.elim x1 (nw _ _ f1), vs, n, hk _ _ f1, f2, f3.mono up⟩, z1⟩
theorem Inv.dropX {h h' : Heap} (W : Av) (I : Inv hB (fun b => X b ∨ W b) env sc h Y Z ρ) (hk : ∀ b o, ¬ W b → h.get? b = some o → h'.get? b = some o) (hx : ∀ b, X b → ¬ W b) (hl : ¬ W env.locals)
    (hc : ∀ i x c, sc.get i = some (x, true) → env.cells.lookup x = some c → ¬ W c) :
    Inv hB X env sc h' (fun b => Y b ∧ ¬ W b) (fun b => Z b ∧ ¬ W b) ρ := by
  obtain ⟨m, vm, ad, hn, hm, hcl, hso, hinj⟩ := id I.st
  have up : ∀ b o, h.get? b = some o → ¬ Y b → h'.get? b = some o ∧ ¬ (Y b ∧ ¬ W b) := fun b o e y => ⟨hk b o (fun c => y (I.sub b (.inr c))) e, fun q => y q.1⟩
  refine ⟨fun b o e => (up b o (I.base b o e) (I.baseY b o e)).1, fun b o e => (up b o (I.base b o e) (I.baseY b o e)).2, fun b x => ⟨I.sub b (.inl x), hx b x⟩, fun b y => (I.old b y.1).imp fun o e => hk b o y.2 e,
    ⟨I.locY, hl⟩, fun i x c a b => ⟨I.celY i x c a b, hc i x c a b⟩, fun b z => ⟨I.zY b z.1, z.2⟩, m, vm, ad, hn.at' fun o e => hk _ o hl e, hm, fun i x c a b => ?_, fun i => ?_, hinj⟩
  · obtain ⟨o, e, d⟩ := hcl i x c a b
    exact ⟨o, hk c o (hc i x c a b) e, d⟩
  · have hi := hso i
    cases hq : pget ρ i with
    | un => trivial
    | val p =>
      rw [hq] at hi
      obtain ⟨v, e1, e2⟩ := hi
      exact ⟨v, e1, e2.mono up⟩
    | own l =>
      rw [hq] at hi
      obtain ⟨e1, ⟨y1, x1, vs, n, f1, f2, f3⟩, z1⟩ := hi
      have nw : ¬ W (ad i) := fun q => x1 (.inr q)
      exact ⟨e1, ⟨⟨y1, nw⟩, fun q => x1 (.inl q), vs, n, hk _ _ nw f1, f2, f3.mono up⟩, z1, nw⟩
theorem Inv.forget {h : Heap} {ρ' : List Slot} (I : Inv hB X env sc h Y Z ρ) (hp : ∀ k, pget ρ' k = pget ρ k ∨ pget ρ' k = .un) : Inv hB X env sc h Y Z ρ' := by
  obtain ⟨m, vm, ad, hn, hm, hcl, hso, hinj⟩ := id I.st
  refine ⟨I.base, I.baseY, I.sub, I.old, I.locY, I.celY, I.zY, m, vm, ad, hn, hm, hcl, fun i => ?_, fun i j l l' h1 h2 e => ?_⟩
  · rcases hp i with q | q
    · rw [q]; exact hso i
    · rw [q]; trivial
  · rcases hp i with q | q
    · rcases hp j with q' | q'
      · exact hinj i j l l' (q ▸ h1) (q' ▸ h2) e
      · rw [q'] at h2; cases h2
    · rw [q] at h1; cases h1

noncomputable def TgV : Tg → PV → Option (List PV)
  | .one _, v => some [v]
  | .two _ _, .tup [a, b] => some [a, b]
  | _, _ => none
noncomputable def Tg.ix : Tg → List Nat
  | .one i => [i]
  | .two i j => [i, j]
theorem ptg_eq {ρ ρ' : List Slot} {t : Tg} {x : PV} (h : ptg ρ t x = some ρ') : ∃ xs, TgV t x = some xs ∧ ρ' = psets ρ (t.ix.zip (xs.map Slot.val)) := by
  unfold ptg at h
  split at h
  · cases h; exact ⟨_, rfl, rfl⟩
  · cases h; exact ⟨_, rfl, rfl⟩
  · cases h
noncomputable def StoreAll (M : Model) (A : Around) (env : Env) : List Str → List Value → (Shared → Prop) → Shared → Prop
  | x :: xs, v :: vs, Q, s => wpAny M A (storeName env x v) (fun o0 s' => StoreAll M A env xs vs Q s') NoE s
  | _, _, Q, s => Q s
theorem stores_ok {Q : Shared → Prop} (O : Ok env sc) (Mi : ¬ X env.locals) :
    ∀ (nm : List (Nat × Str)) (vs : List Value) (xs : List PV) (s : Shared) (ρ : List Slot), Inv hB X env sc s.heap Y Z ρ → (∀ p ∈ nm, ∃ b, sc.get p.1 = some (p.2, b) ∧ (b = true → ∀ c, env.cells.lookup p.2 = some c → ¬ X c)) → nm.length = vs.length → RepL s.heap Y vs xs →
      (∀ s', Tr X Y s Y s' → Inv hB X env sc s'.heap Y Z (psets ρ ((nm.map (·.1)).zip (xs.map Slot.val))) → Q s') → StoreAll (model prog w) A env (nm.map (·.2)) vs Q s
  | [], [], xs, s, ρ, I, _, _, r, k => by cases r; exact k s (Tr.refl _ _ _) I
  | [], _ :: _, _, _, _, _, _, h, _, _ => by simp at h
  | _ :: _, [], _, _, _, _, _, h, _, _ => by simp at h
  | (i, x) :: nm, v :: vs, _, s, ρ, I, hn, hlen, .cons (p := p) (l := l) r q, k => by
    obtain ⟨b, hb, hbx⟩ := hn _ List.mem_cons_self
    refine wpAny_mono (store_ok (sl := .val p) O ⟨fun o0 => Mi, hbx⟩ I hb r) (fun o0 s' h => ?_) eid
    refine stores_ok O Mi nm vs l s' _ h.2.2 (fun p hp => hn p (List.mem_cons_of_mem _ hp)) (by simpa using hlen) (q.mono fun b o e y => (h.1.2 b o e).2 y) fun s'' t'' I'' => k s'' (h.1.trans t'') I''
end
end Mine.Internal
namespace Mine.Internal
open PySem PySem.W PyProof.Rows
structure FeedW (prog : Program) (w : World) (A : Around) (tgE : Expr) (t : Tg) (nm : List Str) (it : Value) (h0 : Heap) (Y : Av) (l : List PV) (fp wr : List Addr) (St : Nat → Heap → Prop) : Prop where
  sub : ∀ b ∈ wr, b ∈ fp
  frame : ∀ i h h', St i h → (∀ b ∈ fp, ∀ o, h.get? b = some o → h'.get? b = some o) → St i h'
  ex : ∀ i h, St i h → ∀ b ∈ wr, ∃ o, h.get? b = some o
  new : ∀ b ∈ wr, h0.get? b = none
  done : ∀ (s : Shared) (Q : Option Value → Shared → Prop), St l.length s.heap →
    (∀ h' tk, (∀ b o, b ∉ wr → s.heap.get? b = some o → h'.get? b = some o) → Q none { s with heap := h', toks := tk }) → wpAny (model prog w) A (pyNext it) Q NoE s
  self : ∀ i (s : Shared) (Q : Value → Shared → Prop), St i s.heap → Q it s → wpAny (model prog w) A (pyIter it) Q NoE s
  item : ∀ i (x : PV) (xs : List PV) env (s : Shared) (Q : Shared → Prop), l[i]? = some x → TgV t x = some xs → St i s.heap →
    (∀ vs h' tk, RepL h0 Y vs xs → vs.length = nm.length → St (i + 1) h' → (∀ b o, b ∉ wr → s.heap.get? b = some o → h'.get? b = some o) → StoreAll (model prog w) A env nm vs Q { s with heap := h', toks := tk }) →
    wpAny (model prog w) A (pyNext it) (fun r s1 => match r with
      | none => False
      | some v => wpAny (model prog w) A (letOwnedTupleGo tgE it v) (fun o0 s2 => wpAny (model prog w) A (assign tgE env v) (fun o0 => Q) NoE s2) NoE s1) NoE s
noncomputable def Feed (prog : Program) (w : World) (A : Around) (tgE : Expr) (t : Tg) (nm : List Str) (h0 h : Heap) (Y : Av) (l : List PV) (it : Value) : Prop :=
  ∃ fp wr St, FeedW prog w A tgE t nm it h0 Y l fp wr St ∧ St 0 h ∧ ∀ b ∈ fp, ¬ Y b ∧ ∃ o, h.get? b = some o
noncomputable def ItF (prog : Program) (w : World) (A : Around) (tgE : Expr) (t : Tg) (nm : List Str) (h0 : Heap) (Y : Av) (l : List PV) (v : Value) (s : Shared) : Prop :=
  wpAny (model prog w) A (pyIter v) (fun it s' => Keeps s s' ∧ Feed prog w A tgE t nm h0 s'.heap Y l it) NoE s
section
variable {prog : Program} {w : World} {A : Around} {s : Shared} {hB h0 : Heap} {X Y Z : Av} {env : Env} {sc : Sc} {ρ : List Slot} {v : Value} {l : List PV}
theorem itf_one {i : Nat} {x : Str} {p : Pos} (h : Itb prog w A h0 Y l v s) : ItF prog w A (.Name x p) (.one i) [x] h0 Y l v s := by
  refine wpAny_mono h (fun it s' h' => ⟨h'.1, ?_⟩) eid
  obtain ⟨_, I, fp, wr, P, St, rfl, W, st, hf, hw, he, hp⟩ := h'
  refine ⟨fp, wr, St, ⟨W.sub, W.frame, he, hw, fun s Q st h => W.done s Q _ st h, fun i s Q st h => W.self i s Q _ st h, ?_⟩, st, hf⟩
  intro i x xs env s Q hi ht st k
  have hlt := (List.getElem?_eq_some_iff.mp hi).1
  refine W.item i s _ _ hlt st fun v h' tk hP st' hk => ?_
  obtain ⟨p, e1, e2⟩ := hp i v hlt hP
  rw [hi] at e1; cases e1
  cases ht
  refine wpAny_of_eq (a := ()) rfl (wpAny_assign_Name ?_)
  exact k [v] h' tk (.cons e2 .nil) rfl st' hk
theorem itf_two {i j k : Nat} {x y : Str} {p p' p'' : Pos} (hh : A.handled = none) (h : ItbT prog w A h0 Y l v s) : ItF prog w A (.Tuple [.Name x p, .Name y p'] k p'') (.two i j) [x, y] h0 Y l v s := by
  refine wpAny_mono h (fun it s' h' => ⟨h'.1, ?_⟩) eid
  obtain ⟨_, I, fp, wr, Pt, St, Mid, rfl, W, st, hf, hw, he, hp⟩ := h'
  refine ⟨fp, wr, St, ⟨W.sub, W.frame, he, hw, fun s Q st h => W.done s Q _ st h, fun i s Q st h => W.self i s Q _ st h, ?_⟩, st, hf⟩
  intro i x xs env s Q hi ht st kk
  have hlt := (List.getElem?_eq_some_iff.mp hi).1
  refine W.item i s _ _ hlt st fun T vals h' tk hP hT hIT hM hk => ?_
  obtain ⟨a, b, va, vb, e1, rfl, r1, r2⟩ := hp i vals hlt hP
  rw [hi] at e1; cases e1
  cases ht
  refine W.go _ _ _ i T _ _ _ hM fun h'' st' hk' => ?_
  have hT'' : IsTup h'' T #[va, vb] := by
    obtain ⟨o, e, c, n, d⟩ := hIT
    exact ⟨o, hk' _ _ (W.apart i T _ hM) e, c, n, d⟩
  refine assign_Tuple_tuple hh hT'' rfl rfl fun h3 hx => ?_
  have k3 : KeepsH h'' h3 := fun b o e => hx b o (Nat.ne_of_lt (Heap.lt_size e)) e
  have := kk [va, vb] h3 tk (.cons r1 (.cons r2 .nil)) rfl (W.frame _ _ _ st' fun b o0 o e => k3 b o e) (fun b o hb e => k3 b o (hk' b o hb (hk b o hb e)))
  show wpAny (model prog w) A (do holding [vb] (assign (.Name _ _) env va); assignInOrder [assign (.Name _ _) env] [vb]) _ _ _
  refine wpAny_bind (wpAny_holding (wpAny_assign_Name ?_))
  refine wpAny_mono this (fun o0 s4 h4 => ?_) eid
  show wpAny (model prog w) A (do holding [] (assign (.Name _ _) env vb); assignInOrder [] []) _ _ _
  refine wpAny_bind (wpAny_holding (wpAny_assign_Name ?_))
  exact wpAny_mono h4 (fun o0 s5 h5 => wpAny_pure h5) eid
end
noncomputable def closL (cells : List (Str × Addr)) : List (Str × NameKind) → List (Str × Addr) → List (Str × Addr)
  | [], acc => acc
  | (n, k) :: r, acc => closL cells r (if k == .free then (n, (cells.lookup n).getD 0) :: acc else acc)
theorem closL_c {cells : List (Str × Addr)} {n : Str} {k : NameKind} {r : List (Str × NameKind)} {acc : List (Str × Addr)} : closL cells ((n, k) :: r) acc = closL cells r (if k == .free then (n, (cells.lookup n).getD 0) :: acc else acc) := rfl
theorem clos_go (env : Env) : ∀ (names : List (Str × NameKind)) (acc : List (Str × Addr)), (∀ y ∈ names, y.2 = .free → ∃ c, env.cells.lookup y.1 = some c) →
    (forIn names acc (fun (x : Str × NameKind) (cs : List (Str × Addr)) => (match x with | (name, kind) => if (kind == NameKind.free) = true then (do let c ← cellOf env name; pure (ForInStep.yield ((name, c) :: cs))) else pure (ForInStep.yield cs) : Sem (ForInStep (List (Str × Addr)))))) = pure (closL env.cells names acc)
  | [], acc, _ => rfl
  | (n, k) :: r, acc, h => by
    rw [List.forIn_cons]
    cases hk : (k == NameKind.free) with
    | true =>
      have hk' : k = .free := by simpa using hk
      obtain ⟨c, hc⟩ := h _ List.mem_cons_self hk'
      have e : cellOf env n = pure c := by unfold cellOf; rw [hc]
      simp only [hk, if_true, e, pure_bind]
      rw [clos_go env r _ fun y hy => h y (List.mem_cons_of_mem _ hy)]
      simp only [closL_c, hk, if_true, hc, Option.getD_some]
    | false =>
      simp only [hk, Bool.false_eq_true, if_false, pure_bind]
      rw [clos_go env r _ fun y hy => h y (List.mem_cons_of_mem _ hy)]
      simp only [closL_c, hk, Bool.false_eq_true, if_false]
theorem closureFor_eq {scope : Scope} {env : Env} (h : ∀ y ∈ scope.names, y.2 = .free → ∃ c, env.cells.lookup y.1 = some c) : closureFor scope env = pure (closL env.cells scope.names []) := by
  unfold closureFor
  have := clos_go env scope.names [] h
  simp only [bind_pure] at this ⊢
  first
  | exact this
  | (rw [← this]; rfl)
  | (rw [← this]; congr 1)
end Mine.Internal
namespace Mine.Internal
open PySem PySem.W PyProof.Rows
set_option tactic.hygienic true in
theorem closL_lookup {cells : List (Str × Addr)} : ∀ {names : List (Str × NameKind)} {acc : List (Str × Addr)} {x : Str} {c : Addr}, (∀ y ∈ names, y.2 = .free → ∃ c, cells.lookup y.1 = some c) →
    (closL cells names acc).lookup x = some c → acc.lookup x = some c ∨ cells.lookup x = some c
  | [], _, _, _, _, h => .inl h
  | (n, k) :: r, acc, x, c, hf, h => by
    simp only [closL_c] at h
    cases hk : (k == NameKind.free) with
    | true =>
      rw [hk, if_pos rfl] at h
      rcases closL_lookup (fun y hy => hf y (List.mem_cons_of_mem _ hy)) h with q | q
      · rw [List.lookup_cons] at q
        split at q
        · rename_i e
          have e' : x = n := by simpa using e
          obtain ⟨c', hc⟩ := hf _ List.mem_cons_self (by simpa using hk)
          rw [hc] at q; cases q
          exact .inr (e' ▸ hc)
        · exact .inl q
      · exact .inr q
    | false =>
      rw [hk, if_neg (by simp)] at h
      exact closL_lookup (fun y hy => hf y (List.mem_cons_of_mem _ hy)) h
theorem closL_acc {cells : List (Str × Addr)} : ∀ {names : List (Str × NameKind)} {acc : List (Str × Addr)} {x : Str}, (∃ c, acc.lookup x = some c) → ∃ c, (closL cells names acc).lookup x = some c
  | [], _, _, h => h
  | (n, k) :: r, acc, x, h => by
    simp only [closL_c]
    refine closL_acc ?_
    split
    · rw [List.lookup_cons]
      split
      · exact ⟨_, rfl⟩
      · exact h
    · exact h
theorem closL_mem {cells : List (Str × Addr)} : ∀ {names : List (Str × NameKind)} {acc : List (Str × Addr)} {x : Str}, (x, NameKind.free) ∈ names → ∃ c, (closL cells names acc).lookup x = some c
  | (n, k) :: r, acc, x, h => by
    rcases List.mem_cons.mp h with e | h'
    · cases e
      simp only [closL_c]
      exact closL_acc ⟨(cells.lookup n).getD 0, by simp only [beq_self_eq_true, if_true, List.lookup_cons]⟩
    · simp only [closL_c]; exact closL_mem h'
theorem nodupB_mem {l : List Str} {x : Str} (h : nodupB (x :: l) = true) : x ∉ l ∧ nodupB l = true := by
  simp only [nodupB, Bool.and_eq_true, Bool.not_eq_true'] at h
  exact ⟨fun q => (by have := List.contains_iff_mem.mpr q; rw [h.1] at this; cases this), h.2⟩
set_option tactic.hygienic true in
theorem closL_apart {cells : List (Str × Addr)} (ap : cells.Pairwise fun x y => x.2 ≠ y.2) : ∀ {names : List (Str × NameKind)} {acc : List (Str × Addr)}, (∀ y ∈ names, y.2 = .free → ∃ c, cells.lookup y.1 = some c) →
    nodupB (names.map (·.1)) = true → (∀ y ∈ acc, cells.lookup y.1 = some y.2 ∧ y.1 ∉ names.map (·.1)) → acc.Pairwise (fun x y => x.2 ≠ y.2) → (closL cells names acc).Pairwise fun x y => x.2 ≠ y.2
  | [], _, _, _, _, h => h
  | (n, k) :: r, acc, hf, hd, ha, hp => by
    simp only [closL_c]
    obtain ⟨d1, d2⟩ := nodupB_mem hd
    have ha' : ∀ y ∈ acc, cells.lookup y.1 = some y.2 ∧ y.1 ∉ r.map (·.1) := fun y hy => ⟨(ha y hy).1, fun q => (ha y hy).2 (List.mem_cons_of_mem _ q)⟩
    split
    · rename_i hk
      obtain ⟨c, hc⟩ := hf _ List.mem_cons_self (by simpa using hk)
      refine closL_apart ap (fun y hy => hf y (List.mem_cons_of_mem _ hy)) d2 ?_ ?_
      · intro y hy
        rcases List.mem_cons.mp hy with rfl | hy
        · exact ⟨by rw [hc]; rfl, d1⟩
        · exact ha' y hy
      · refine List.Pairwise.cons (fun y hy e => ?_) hp
        have e' : c = y.2 := by rw [hc] at e; exact e
        obtain ⟨q1, q2⟩ := ha y hy
        have := name_of_addr ap (mem_of_lookup q1) (e' ▸ mem_of_lookup hc)
        exact q2 (by rw [this]; exact List.mem_cons_self)
    · exact closL_apart ap (fun y hy => hf y (List.mem_cons_of_mem _ hy)) d2 ha' hp
theorem slots_inj : ∀ {slots : List (Option (Str × Bool))} {i j : Nat} {x : Str} {b b' : Bool}, nodupB (slots.filterMap fun o => o.map (·.1)) = true → slots[i]? = some (some (x, b)) → slots[j]? = some (some (x, b')) → i = j
  | [], i, j, x, b, b', _, h, _ => by simp at h
  | none :: r, i, j, x, b, b', hd, h1, h2 => by
    match i, j, h1, h2 with
    | 0, _, h1, _ => simp at h1
    | _ + 1, 0, _, h2 => simp at h2
    | i + 1, j + 1, h1, h2 => exact congrArg _ (slots_inj (by simpa using hd) (by simpa using h1) (by simpa using h2))
  | some (y, c) :: r, i, j, x, b, b', hd, h1, h2 => by
    have hd' : nodupB (y :: r.filterMap fun o => o.map (·.1)) = true := by simpa using hd
    obtain ⟨d1, d2⟩ := nodupB_mem hd'
    have mem : ∀ {k : Nat} {b : Bool}, r[k]? = some (some (y, b)) → False := fun h => d1 (List.mem_filterMap.mpr ⟨_, List.mem_of_getElem? h, rfl⟩)
    match i, j, h1, h2 with
    | 0, 0, _, _ => rfl
    | 0, j + 1, h1, h2 => simp at h1; obtain ⟨rfl, rfl⟩ := h1; exact (mem (by simpa using h2)).elim
    | i + 1, 0, h1, h2 => simp at h2; obtain ⟨rfl, rfl⟩ := h2; exact (mem (by simpa using h1)).elim
    | i + 1, j + 1, h1, h2 => exact congrArg _ (slots_inj d2 (by simpa using h1) (by simpa using h2))
set_option tactic.hygienic true in
theorem Sc.get_some {sc : Sc} {i : Nat} {p : Str × Bool} (h : sc.get i = some p) : sc.slots[i]? = some (some p) := by
  unfold Sc.get at h
  split at h
  · rename_i o e; rw [e, h]
  · cases h
theorem slotsOk_get {sc : Sc} (h : slotsOk sc = true) {i : Nat} {x : Str} {b : Bool} (hi : sc.get i = some (x, b)) : sc.names.lookup x = some (if b then .cell else .local) ∧ (x == ("__debug__" : Str)) = false := by
  have := List.all_eq_true.mp h _ (List.mem_of_getElem? (Sc.get_some hi))
  cases b <;> simpa using this
theorem tgNames_ix {t : Tg} {e : Expr} {nm : List (Nat × Str)} (h : tgNames? t e = some nm) : nm.map (·.1) = t.ix := by
  exact tgNames_el (P := fun t o0 nm => nm.map (·.1) = t.ix) h (fun o0 o0 o0 => rfl) (fun o0 o0 o0 o0 o0 o0 o0 o0 => rfl)
set_option tactic.hygienic true in
theorem mem_lookupN {α : Type} : ∀ {l : List (Nat × α)} {n : Nat} {c : α}, l.lookup n = some c → (n, c) ∈ l
  | [], _, _, h => by simp at h
  | (k, a) :: r, n, c, h => by
    rw [List.lookup_cons] at h
    split at h
    · rename_i e; cases h; rw [show n = k by simpa using e]; exact List.mem_cons_self
    · exact List.mem_cons_of_mem _ (mem_lookupN h)
theorem lookup_ix {nm : List (Nat × Str)} {i : Nat} {x : Str} (h : nm.lookup i = some x) : i ∈ nm.map (·.1) := List.mem_map.mpr ⟨_, mem_lookupN h, rfl⟩
set_option tactic.hygienic true in
theorem Ok.comp {env : Env} {sc : Sc} {inner : Scope} {nm : List (Nat × Str)} (O : Ok env sc) (hc : compOk sc inner nm = true) :
    ∃ cl, closureFor inner env = pure cl ∧ (∀ x c, cl.lookup x = some c → env.cells.lookup x = some c) ∧ ∀ C, Ok (compEnvC inner cl C env) (sc.comp inner nm) := by
  simp only [compOk, Bool.and_eq_true] at hc
  obtain ⟨⟨⟨⟨⟨⟨⟨⟨h1, h2⟩, h3⟩, h4⟩, h5⟩, h6⟩, h7⟩, h8⟩, h9⟩ := hc
  have hfree : ∀ y ∈ inner.names, y.2 = .free → ∃ c, env.cells.lookup y.1 = some c := fun y hy hf => by
    have := List.all_eq_true.mp h4 y hy
    simp only [hf, Bool.or_eq_true] at this
    rcases this with q | q
    · simp at q
    · obtain ⟨o, ho, e⟩ := List.any_eq_true.mp q
      obtain ⟨i, hi, he⟩ := List.mem_iff_getElem.mp ho
      have e' : o = some (y.1, true) := by simpa using e
      refine (O.cel i y.1 ?_).2.2
      unfold Sc.get
      rw [List.getElem?_eq_getElem hi, he, e']
  have hnames : ∀ C cl, (compEnvC inner cl C env).scope.names = (sc.comp inner nm).names := fun C cl => by
    show (relabel inner env).names = relabelN inner.names sc.names
    unfold relabel relabelN
    simp only [Env.kindOf, O.kind, O.names, beq_self_eq_true, Bool.and_true]
  refine ⟨_, closureFor_eq hfree, fun x c h => (closL_lookup hfree h).resolve_left (by simp), fun C => ⟨by show inner.kind = _; simpa using h1, hnames _ _, O.glob, O.blt, fun i x hi => ?_, fun i x hi => ?_, fun i j x b b' h h' => slots_inj h7 (Sc.get_some h) (Sc.get_some h'), ?_⟩⟩
  · have := slotsOk_get h6 hi
    exact ⟨by show List.lookup x _ = _; rw [hnames]; exact this.1, this.2⟩
  · have := slotsOk_get h6 hi
    refine ⟨by show List.lookup x _ = _; rw [hnames]; exact this.1, this.2, ?_⟩
    have hg := Sc.get_some hi
    simp only [Sc.comp, compSlots, List.getElem?_map] at hg
    obtain ⟨k, hk1, hk2⟩ := Option.map_eq_some_iff.mp hg
    split at hk2
    · simp at hk2
    · split at hk2
      · rename_i y e
        split at hk2
        · rename_i hf
          cases hk2
          exact closL_mem (mem_of_lookup (by simpa using hf))
        · cases hk2
      · cases hk2
  · exact closL_apart O.apart hfree h8 (by simp) .nil
theorem pget_hide : ∀ (ρ : List Slot) (i : Nat), pget (hide ρ) i = match pget ρ i with | .own _ => .un | s => s
  | [], _ => rfl
  | .un :: r, 0 => rfl
  | .val _ :: r, 0 => rfl
  | .own _ :: r, 0 => rfl
  | .un :: r, i + 1 => pget_hide r i
  | .val _ :: r, i + 1 => pget_hide r i
  | .own _ :: r, i + 1 => pget_hide r i
theorem pget_pset_un (ρ : List Slot) (i : Nat) : pget (pset ρ i .un) i = .un := (pget_pset_self ρ i .un).elim id id
theorem pget_clr {t : Tg} {ρ : List Slot} {i : Nat} : (i ∈ t.ix → pget (clr t ρ) i = .un) ∧ (i ∉ t.ix → pget (clr t ρ) i = pget ρ i) := by
  cases t with
  | one j =>
    refine ⟨fun h => ?_, fun h => pget_pset_ne _ _ _ _ (by simpa [Tg.ix] using h)⟩
    have : i = j := by simpa [Tg.ix] using h
    subst this; exact pget_pset_un _ _
  | two j k =>
    simp only [Tg.ix, List.mem_cons, List.not_mem_nil, or_false, clr]
    refine ⟨fun h => ?_, fun h => ?_⟩
    · by_cases hk : i = k
      · subst hk; exact pget_pset_un _ _
      · have hj : i = j := h.resolve_right hk
        subst hj
        rw [pget_pset_ne _ _ _ _ hk]; exact pget_pset_un _ _
    · rw [pget_pset_ne _ _ _ _ (fun q => h (.inr q)), pget_pset_ne _ _ _ _ (fun q => h (.inl q))]
theorem pget_psets_ne : ∀ (l : List (Nat × Slot)) (ρ : List Slot) (i : Nat), i ∉ l.map (·.1) → pget (psets ρ l) i = pget ρ i
  | [], _, _, _ => rfl
  | (j, s) :: r, ρ, i, h => by
    show pget (psets (pset ρ j s) r) i = _
    rw [pget_psets_ne r _ i fun q => h (List.mem_cons_of_mem _ q), pget_pset_ne _ _ _ _ fun q => h (by rw [q]; exact List.mem_cons_self)]
theorem pget_ptg {t : Tg} {ρ ρ' : List Slot} {x : PV} (h : ptg (clr t ρ) t x = some ρ') (k : Nat) : pget (clr t ρ) k = pget ρ' k ∨ pget (clr t ρ) k = .un := by
  by_cases hk : k ∈ t.ix
  · exact .inr (pget_clr.1 hk)
  · obtain ⟨xs, _, rfl⟩ := ptg_eq h
    refine .inl (pget_psets_ne _ _ _ fun q => hk ?_).symm
    obtain ⟨p, hp, rfl⟩ := List.mem_map.mp q
    exact (List.of_mem_zip hp).1
end Mine.Internal
namespace Mine.Internal
open PySem PySem.W PyProof.Rows
section
variable {prog : Program} {w : World} {A : Around} {s : Shared} {hB : Heap} {X Y Z : Av} {env : Env} {sc : Sc} {ρ : List Slot} {l : List PV}
theorem comp_step {elt target iter : Expr} {ifs : List Expr} {scope : Scope} {pos : Pos} {it acc : Value} {env : Env} {R : Result → Shared → Prop}
    (h : wpAny (model prog w) A (pyNext it) (fun r s₁ => match r with
      | none => R (.ok .next) s₁
      | some v => wpAny (model prog w) A (letOwnedTupleGo target it v) (fun o0 s₀ => wpAny (model prog w) A (assign target env v) (fun o0 s₂ =>
          wpAny (model prog w) A (forIn ifs true fun c r => if r = true then do let ok ← isTrue c env (eval c env); pure (ForInStep.yield ok) else pure (ForInStep.yield r)) (fun ok s₃ =>
            if ok = true then wpAny (model prog w) A (eval elt env) (fun x s₄ =>
              wpAny (model prog w) A (call (.builtin "list.append") [acc, x]) (fun o0 s₅ => codeAny (model prog w) A (.compLoop (.ListComp elt [⟨target, iter, ifs, 0⟩] scope pos) 0 it acc env) R s₅) NoE s₄) NoE s₃
            else codeAny (model prog w) A (.compLoop (.ListComp elt [⟨target, iter, ifs, 0⟩] scope pos) 0 it acc env) R s₃) NoE s₂) NoE s₀) NoE s₁) NoE s) :
    codeAny (model prog w) A (.compLoop (.ListComp elt [⟨target, iter, ifs, 0⟩] scope pos) 0 it acc env) R s := by
  refine codeAny_of_tree ?_
  show wpAny _ A ((compTurn (.ListComp elt [⟨target, iter, ifs, 0⟩] scope pos) 0 it acc env).onRaise (fun x => do noteFrame x env; theTreesLotGoes x)) _ _ s
  refine wpAny_noted ?_
  rw [compTurn_list]
  refine wpAny_bind (wpAny_standAt (wpAny_bind (wpAny_mono h (fun r s₁ h₁ => ?_) fun o0 o0 e => e.elim)))
  cases r with
  | none => exact wpAny_pure h₁
  | some v =>
    refine wpAny_bind (wpAny_mono h₁ (fun o0 s₀ h₀ => ?_) fun o0 o0 e => e.elim)
    refine wpAny_bind (wpAny_mono h₀ (fun o0 s₂ h₂ => wpAny_bind (wpAny_mono h₂ (fun ok s₃ h₃ => ?_) fun o0 o0 e => e.elim)) fun o0 o0 e => e.elim)
    cases ok with
    | false => exact wpAny_pure (And.intro rfl h₃)
    | true =>
      exact wpAny_bind (wpAny_bind (wpAny_mono h₃ (fun x s₄ h₄ => wpAny_bind (wpAny_mono h₄ (fun o0 s₅ h₅ => wpAny_pure (wpAny_pure (And.intro rfl h₅))) fun o0 o0 e => e.elim)) fun o0 o0 e => e.elim))
theorem compIf_len {ρ : List Slot} {t : Tg} {f c : List Slot → Option PV} : ∀ {l r : List PV}, compIfGo ρ t f c l = some r → r.length ≤ l.length
  | [], r, h => by cases h; exact Nat.le_refl _
  | x :: l, r, h => by
    simp only [compIfGo_e1, compIfGo_e2, Option.bind_eq_some_iff] at h
    obtain ⟨ρ', _, b, _, h⟩ := h
    split at h
    · obtain ⟨y, _, h⟩ := Option.bind_eq_some_iff.mp h
      obtain ⟨z, h1, rfl⟩ := Option.map_eq_some_iff.mp h
      simp only [List.length_cons]
      exact Nat.succ_le_succ (compIf_len h1)
    · exact Nat.le_succ_of_le (compIf_len h)
    · cases h
theorem compOk_inv {inner : Scope} {nm : List (Nat × Str)} (hc : compOk sc inner nm = true) : inner.kind = .function ∧ (∀ y ∈ inner.names, y.2 ≠ .cell) ∧ (∀ x ∈ inner.names, x.2 = .local → inner.names.lookup x.1 = some .local) ∧ ∀ p ∈ nm, (sc.comp inner nm).get p.1 = some (p.2, false) := by
  refine b2 hc fun h g9 => b2 h fun h o0 => b2 h fun h o0 => b6 h fun g1 g2 g3 o0 o0 o0 => ⟨eq_of_beq g1, fun y hy q => ?_, fun x hx hl => ?_, fun p hp => eq_of_beq (List.all_eq_true.mp g9 p hp)⟩
  · have := List.all_eq_true.mp g2 y hy
    rw [q] at this; exact no_ff this
  · have := List.all_eq_true.mp g3 x hx
    rw [hl] at this; exact eq_of_beq this
theorem comp_slot {inner : Scope} {nm : List (Nat × Str)} {i : Nat} {x : Str} {b : Bool} (hi : (sc.comp inner nm).get i = some (x, b)) : (b = false ∧ ∃ y, nm.lookup i = some y) ∨ (b = true ∧ nm.lookup i = none ∧ sc.get i = some (x, true)) := by
  have hg := Sc.get_some hi
  simp only [Sc.comp, compSlots, List.getElem?_map] at hg
  obtain ⟨k, hk1, hk2⟩ := Option.map_eq_some_iff.mp hg
  have hki : k = i := by
    obtain ⟨hlt, e⟩ := List.getElem?_eq_some_iff.mp hk1
    simpa using e.symm
  subst hki
  clear hk1 hg hi
  revert hk2
  cases nm.lookup k with
  | some y => intro h; cases h; exact .inl ⟨rfl, _, rfl⟩
  | none =>
    cases sc.get k with
    | none => exact fun h => no_none h
    | some p =>
      obtain ⟨z, c⟩ := p
      cases c with
      | false => exact fun h => no_none h
      | true => exact fun h => ite_s h fun o0 h => by cases h; exact .inr ⟨rfl, rfl, rfl⟩
theorem tgv_len {t : Tg} {x : PV} {xs : List PV} (h : TgV t x = some xs) : xs.length = t.ix.length := by
  cases t with
  | one i => cases h; rfl
  | two i j =>
    cases x with
    | tup l => cases l with
      | nil => exact no_none h
      | cons a l => cases l with
        | nil => exact no_none h
        | cons b l => cases l with
          | nil => cases h; rfl
          | cons _ _ => exact no_none h
    | _ => exact no_none h
theorem Feed.el {tgE : Expr} {t : Tg} {nm : List Str} {h0 h : Heap} {it : Value} {P : Prop} (f : Feed prog w A tgE t nm h0 h Y l it) (k : ∀ fp wr St, FeedW prog w A tgE t nm it h0 Y l fp wr St → St 0 h → (∀ b ∈ fp, ¬ Y b ∧ ∃ o, h.get? b = some o) → P) : P := by
  obtain ⟨fp, wr, St, W, st0, hfp⟩ := f; exact k fp wr St W st0 hfp
theorem Inv.ns1 {h : Heap} (I : Inv hB X env sc h Y Z ρ) : ∃ m, h.Ns env.locals m := by
  obtain ⟨m, _, _, hn, _⟩ := I.st; exact ⟨m, hn⟩
theorem keeps_set {s₂ : Shared} {h : Heap} {tk : Nat} (k : Keeps s s₂) (kk : KeepsH s.heap h) : Keeps s { s₂ with heap := h, toks := tk } := by
  obtain ⟨_, _, rfl, _⟩ := k; exact ⟨h, tk, rfl, kk⟩
theorem mb_b {α : Type} {b : PV} {x y : Option α} {r : α} (h : (match b with | .bool true => x | .bool false => y | _ => none) = some r) : ∃ c, b = .bool c := by
  cases b with
  | bool c => exact ⟨c, rfl⟩
  | _ => exact no_none h
theorem comp_ok {inner : Scope} {tgE iter elt : Expr} {ifs : List Expr} {pos : Pos} {t : Tg} {nm : List (Nat × Str)} {r : List PV} {f c : List Slot → Option PV} (hh : A.handled = none) (O : Ok env sc) (I : Inv hB X env sc s.heap Y Z ρ)
    (hnm : tgNames? t tgE = some nm) (hc : compOk sc inner nm = true) (hl : l.length ≤ LL) (hfs : ∀ x, foldedSetIterable iter env x = pure x)
    (hit : wpAny (model prog w) A (eval iter env) (fun v s' => Keeps s s' ∧ ∃ h0, KeepsH s.heap h0 ∧ KeepsH h0 s'.heap ∧ ItF prog w A tgE t (nm.map (·.2)) h0 Y l v s') NoE s)
    (hgo : compIfGo (clr t (hide ρ)) t f c l = some r)
    (htst : ∀ env' X' Y' Z' ρ' (s' : Shared) b, Ok env' (sc.comp inner nm) → Inv hB X' env' (sc.comp inner nm) s'.heap Y' Z' ρ' → c ρ' = some (.bool b) →
      wpAny (model prog w) A (forIn ifs true fun c r => if r = true then do let ok ← isTrue c env' (eval c env'); pure (ForInStep.yield ok) else pure (ForInStep.yield r)) (fun ok s'' => Keeps s' s'' ∧ ok = b) NoE s')
    (helt : ∀ env' X' Y' Z' ρ' (s' : Shared) y, Ok env' (sc.comp inner nm) → Inv hB X' env' (sc.comp inner nm) s'.heap Y' Z' ρ' → f ρ' = some y → wpAny (model prog w) A (eval elt env') (Gd s' Y' y) NoE s') :
    wpAny (model prog w) A (eval (.ListComp elt [⟨tgE, iter, ifs, 0⟩] inner pos) env) (Gd s Y (.lst r)) NoE s := by
  refine ex3 (O.comp hc) fun cl hclos hclk hOk => an4 (compOk_inv hc) fun hkind hcell hnames htg => ?_
  rw [eval_ListComp]
  refine wpAny_comprehension_free (use := none) rfl hfs hclos hkind hnames (wpAny_mono hit (fun xv s₁ h₁ => ?_) eid)
  refine an2 h₁ fun k₁ h₁ => ex3 h₁ fun h0 k0 k0' hF => ?_
  refine wpAny_mono hF (fun it s₂ h₂ => ?_) eid
  refine an2 h₂ fun k₂ h₂ => Feed.el h₂ fun fp wr St W st0 hfp => ?_
  refine wpAny_newObj_type (wpAny_newFunctionEnv hcell (by intro y hy; simp at hy) (fun h₁ hns₁ hsb₁ => ?_) hkind)
  dsimp only at hns₁ hsb₁ ⊢
  generalize hH2 : s₂.heap.push { cls := .type "list", dict := none, data := .seq ([] : List Value).toArray } = H2 at hns₁ hsb₁ ⊢
  have hC : H2.objs.size = s₂.heap.objs.size + 1 := by rw [← hH2, Heap.size_push]
  generalize hD : s₂.heap.objs.size = D at *
  generalize hCC : H2.objs.size = C at *
  have hDC : D ≠ C := by rw [hC]; exact Nat.ne_of_lt (Nat.lt_succ_self _)
  have old₂ : ∀ b o, s₂.heap.get? b = some o → b ≠ D ∧ b ≠ C := fun b o e => by
    have := Heap.lt_size e
    rw [hD] at this
    exact ⟨Nat.ne_of_lt this, by rw [hC]; exact Nat.ne_of_lt (Nat.lt_succ_of_lt this)⟩
  have up₂ : KeepsH s₂.heap h₁ := fun b o e => hsb₁.extBut b o (old₂ b o e).2 (Heap.get?_push_of_some _ (hH2 ▸ Heap.get?_push_of_some _ e))
  have k12 : KeepsH s₁.heap s₂.heap := Keeps.heap' k₂
  have k0s : KeepsH h0 s₂.heap := fun b o e => k12 b o (k0' b o e)
  have ks2 : KeepsH s.heap s₂.heap := fun b o e => k0s b o (k0 b o e)
  have ksh : KeepsH s.heap h₁ := fun b o e => up₂ b o (ks2 b o e)
  have hDobj : h₁.get? D = some (lstO [] 0) := hsb₁.extBut _ _ hDC (Heap.get?_push_of_some _ (hH2 ▸ (by have := Heap.get?_push_size s₂.heap (o := lstO [] 0) rfl; rw [hD] at this; exact this)))
  have wrO : ∀ b ∈ wr, ∃ o, s₂.heap.get? b = some o := fun b hb => W.ex 0 _ st0 b hb
  have wrN : ∀ b o, h0.get? b = some o → b ∉ wr := fun b o e q => no_none ((W.new b q).symm.trans e)
  have wrDC : ∀ b ∈ wr, b ≠ D ∧ b ≠ C := fun b hb => (wrO b hb).elim fun o e => old₂ b o e
  let X' : Av := fun b => Y b ∨ b = D ∨ b ∈ wr
  let Y' : Av := fun b => X' b ∨ b = C
  let Z' : Av := fun o0 => False
  let B : List Slot := clr t (hide ρ)
  have nY' : ∀ b o, s.heap.get? b = some o → ¬ Y b → ¬ Y' b := fun b o e y q => by
    rcases q with (q | q | q) | q
    · exact y q
    · exact (old₂ b o (ks2 b o e)).1 q
    · exact wrN b o (k0 b o e) q
    · exact (old₂ b o (ks2 b o e)).2 q
  have nCX : ¬ X' C := fun q => by
    rcases q with q | q | q
    · obtain ⟨o, e⟩ := I.old C q
      exact (old₂ C o (ks2 C o e)).2 rfl
    · exact hDC q.symm
    · exact (wrDC C q).2 rfl
  have hLocC : ∀ i x, (sc.comp inner nm).get i = some (x, false) → ∃ y, nm.lookup i = some y := fun i x hi => (comp_slot hi).elim (·.2) fun q => (nomatch q.1)
  have hCelC : ∀ i x, (sc.comp inner nm).get i = some (x, true) → nm.lookup i = none ∧ sc.get i = some (x, true) := fun i x hi => (comp_slot hi).elim (fun q => (nomatch q.1)) (·.2)
  have celOld : ∀ i x c, (sc.comp inner nm).get i = some (x, true) → (compEnvC inner cl C env).cells.lookup x = some c → Y c ∧ env.cells.lookup x = some c := fun i x c hi hx =>
    have hx' : env.cells.lookup x = some c := hclk x c hx
    ⟨I.celY i x c (hCelC i x hi).2 hx', hx'⟩
  have I0 : Inv hB X' (compEnvC inner cl C env) (sc.comp inner nm) h₁ Y' Z' B := by
    obtain ⟨m, vm, ad, hn, hm, hcl, hso, hinj⟩ := id I.st
    refine ⟨fun b o e => ksh b o (I.base b o e), fun b o e => nY' b o (I.base b o e) (I.baseY b o e), fun b x => .inl x, ?_, .inr rfl, fun i x c hi hx => .inl (.inl (celOld i x c hi hx).1), fun b z => z.elim,
      _, fun i => if (nm.lookup i).isSome then none else vm i, ad, hns₁, fun i x hi => ?_, fun i x c hi hx => ?_, fun i => ?_, fun i j l l' hi o0 o0 => ?_⟩
    · intro b y
      rcases y with (y | y | y) | y
      · exact (I.old b y).imp fun o e => ksh b o e
      · rw [y]; exact ⟨_, hDobj⟩
      · exact (wrO b y).imp fun o e => up₂ b o e
      · rw [y]; obtain ⟨o, _, _, e, _⟩ := hns₁; exact ⟨o, e⟩
    · obtain ⟨y, e⟩ := hLocC i x hi
      simp [e]
    · obtain ⟨e1, e2⟩ := hCelC i x hi
      simp only [e1, Option.isSome_none, Bool.false_eq_true, if_false]
      exact (hcl i x c e2 (celOld i x c hi hx).2).keeps ksh
    · by_cases hi : i ∈ t.ix
      · rw [show pget B i = .un from pget_clr.1 hi]; trivial
      · have hnone : nm.lookup i = none := by
          cases e : nm.lookup i with
          | none => rfl
          | some y => exact absurd (tgNames_ix hnm ▸ lookup_ix e) hi
        rw [show pget B i = pget (hide ρ) i from pget_clr.2 hi, pget_hide]
        simp only [hnone, Option.isSome_none, Bool.false_eq_true, if_false]
        have hs := hso i
        cases hq : pget ρ i with
        | un => trivial
        | own l => trivial
        | val p =>
          rw [hq] at hs
          obtain ⟨v, e1, e2⟩ := hs
          exact ⟨v, e1, e2.mono fun b o e y => ⟨ksh b o e, nY' b o e y⟩⟩
    · by_cases hi' : i ∈ t.ix
      · rw [show pget B i = .un from pget_clr.1 hi'] at hi; cases hi
      · rw [show pget B i = pget (hide ρ) i from pget_clr.2 hi', pget_hide] at hi
        cases hq : pget ρ i <;> rw [hq] at hi <;> cases hi
  have tgIn : ∀ p ∈ nm, ∃ b, (sc.comp inner nm).get p.1 = some (p.2, b) ∧ (b = true → ∀ c, (compEnvC inner cl C env).cells.lookup p.2 = some c → ¬ X' c) := fun p hp => by
    exact ⟨false, htg p hp, nofun⟩
  have ixlen : ∀ {x xs}, TgV t x = some xs → xs.length = nm.length := fun {x xs} h => by
    rw [tgv_len h, ← tgNames_ix hnm, List.length_map]
  have loop : ∀ (n i : Nat) (h : Heap) (tk : Nat) (ρ' : List Slot) (acc : List PV) (rest : List PV) (vs : List Value) (k : Nat), n = l.length - i → i ≤ l.length → St i h → Inv hB X' (compEnvC inner cl C env) (sc.comp inner nm) h Y' Z' ρ' →
      (∀ k, pget B k = pget ρ' k ∨ pget B k = .un) → h.get? D = some (lstO vs k) → RepL h Y' vs acc → KeepsH h0 h → compIfGo B t f c (l.drop i) = some rest → acc.length + (l.length - i) ≤ LL → acc ++ rest = r →
      codeAny (model prog w) A (.compLoop (.ListComp elt [⟨tgE, iter, ifs, 0⟩] inner pos) 0 it (.ref D) (compEnvC inner cl C env)) (compPost (model prog w) A NoE none (Gd s Y (.lst r)) (.ref D) C) { s₂ with heap := h, toks := tk } := by
    intro n
    induction n with
    | zero =>
      intro i h tk ρ' acc rest vs k hn hi st I' hB' hd hr ks hgo' hL hacc
      have hil : i = l.length := by lia
      subst hil
      rw [List.drop_length] at hgo'
      cases hgo'
      refine comp_step (W.done _ _ st fun h' tk' hk' => ?_)
      refine ex1 I'.ns1 fun m hn => ?_
      have hCw : C ∉ wr := fun q => (wrDC C q).2 rfl
      have hDw : D ∉ wr := fun q => (wrDC D q).1 rfl
      refine ⟨m, hn.at' fun o e => hk' C o hCw e, fun h'' hs => ?_⟩
      have hk'' : ∀ b o, b ∉ wr → b ≠ C → h.get? b = some o → h''.get? b = some o := fun b o q1 q2 e => (hs.2 b q2).trans (hk' b o q1 e)
      have ksF : KeepsH s.heap h'' := fun b o e => hk'' b o (wrN b o (k0 b o e)) (old₂ b o (ks2 b o e)).2 (ks b o (k0 b o e))
      refine ⟨keeps_set (s₂ := s₂) (keeps_trans k₁ k₂) ksF, ?_⟩
      have hvl : vs.length ≤ LL := by rw [hr.length]; lia
      have racc : acc = r := by simpa using hacc
      subst racc
      refine .lst (hk'' D _ hDw hDC hd) (fun q => ?_) hvl (hr.mono fun b o e y => ⟨hk'' b o (fun q => y (.inl (.inr (.inr q)))) (fun q => y (.inr q)) e, fun q => y (.inl (.inl q))⟩)
      obtain ⟨o, e⟩ := I.old D q
      exact (old₂ D o (ks2 D o e)).1 rfl
    | succ n ih =>
      intro i h tk ρ' acc rest vs k hn hi st I' hB' hd hr ks hgo' hL hacc
      have hlt : i < l.length := by lia
      have hx := List.getElem?_eq_getElem hlt
      rw [List.drop_eq_getElem_cons hlt] at hgo'
      refine bnd hgo' fun ρ1 hρ1 hgo1 => bnd hgo1 fun b hb hgo2 => ex2 (ptg_eq hρ1) fun xs hxs hρ1' => ex1 (mb_b hgo2) fun bb eb => ?_
      cases eb
      have hfpY : ∀ b ∈ fp, b ∉ wr → ¬ Y' b := fun b hb hw q => by
        obtain ⟨y, o, e⟩ := hfp b hb
        rcases q with (q | q | q) | q
        · exact y q
        · exact (old₂ b o e).1 q
        · exact hw q
        · exact (old₂ b o e).2 q
      refine comp_step (wpAny_mono (W.item i _ xs (compEnvC inner cl C env) _ ?Q hx hxs st ?k) ?m eid)
      case m =>
        intro r s1 h1
        cases r with
        | none => exact h1.elim
        | some v => exact h1
      intro us h' tk' hus hul st' hk'
      have wrE' : ∀ b ∈ wr, ∃ o, h'.get? b = some o := fun b hb => W.ex _ _ st' b hb
      have I1 : Inv hB X' (compEnvC inner cl C env) (sc.comp inner nm) h' Y' Z' B :=
        (I'.change (fun b => b ∈ wr) (fun b o q e => hk' b o q e) (fun b q => .inr (.inr q)) wrE' (fun q => (wrDC C q).2 rfl) (fun i x c hi' hx' q => by
          obtain ⟨o, e⟩ := I.old c (celOld i x c hi' hx').1
          exact wrN c o (k0 c o e) q)).forget hB'
      have hd1 : h'.get? D = some (lstO vs k) := hk' D _ (fun q => (wrDC D q).1 rfl) hd
      have hr1 : RepL h' Y' vs acc := hr.mono fun b o e y => ⟨hk' b o (fun q => y (.inl (.inr (.inr q)))) e, y⟩
      have ks1 : KeepsH h0 h' := fun b o e => hk' b o (wrN b o e) (ks b o e)
      have nY0 : ∀ b o, h0.get? b = some o → ¬ Y b → ¬ Y' b := fun b o e y q => by
        rcases q with (q | q | q) | q
        · exact y q
        · exact (old₂ b o (k0s b o e)).1 q
        · exact wrN b o e q
        · exact (old₂ b o (k0s b o e)).2 q
      have us1 : RepL h' Y' us xs := hus.mono fun b o e y => ⟨ks1 b o e, nY0 b o e y⟩
      refine stores_ok (hOk C) nCX nm us xs _ B I1 tgIn (by simpa using hul.symm) us1 fun s3 t3 I3 => ?_
      obtain ⟨⟨h3, tk3, rfl⟩, t3k⟩ := t3
      rw [tgNames_ix hnm, ← hρ1'] at I3
      have B3 : ∀ k, pget B k = pget ρ1 k ∨ pget B k = .un := fun k => pget_ptg hρ1 k
      have st3 : St (i + 1) h3 := W.frame _ _ _ st' fun b hb o e => by
        by_cases hw : b ∈ wr
        · exact (t3k b o e).1 (.inr (.inr hw))
        · exact ((t3k b o e).2 (hfpY b hb hw)).1
      have hd3 : h3.get? D = some (lstO vs k) := (t3k D _ hd1).1 (.inr (.inl rfl))
      have hr3 : RepL h3 Y' vs acc := hr1.mono fun b o e y => (t3k b o e).2 y
      have ks3 : KeepsH h0 h3 := fun b o e => by
        by_cases y : Y b
        · exact (t3k b o (ks1 b o e)).1 (.inl y)
        · exact ((t3k b o (ks1 b o e)).2 (nY0 b o e y)).1
      clear I1 I' hd1 hr1 hd hr st st' us1 t3k
      refine wpAny_mono (htst _ X' Y' Z' ρ1 _ bb (hOk C) I3 hb) (fun ok s4 h4 => ?_) eid
      obtain ⟨⟨h4, tk4, rfl, k4⟩, rfl⟩ := h4
      have k4' : KeepsH h3 h4 := k4
      cases ok with
      | false =>
        rw [if_neg Bool.false_ne_true]
        exact ih (i + 1) h4 tk4 ρ1 acc rest vs k (by lia) hlt (W.frame _ _ _ st3 fun b o0 o e => k4' b o e) (I3.keeps k4') B3 (k4' _ _ hd3) (hr3.keeps k4') (fun b o e => k4' b o (ks3 b o e)) hgo2 (by lia) hacc
      | true =>
        rw [if_pos rfl]
        refine bnd hgo2 fun y hy hgo3 => ex2 (Option.map_eq_some_iff.mp hgo3) fun z hz ez => ?_
        cases ez
        refine wpAny_mono (helt _ X' Y' Z' ρ1 _ y (hOk C) (I3.keeps k4') hy) (fun u s5 h5 => ?_) eid
        obtain ⟨⟨h5, tk5, rfl, k5⟩, hu⟩ := h5
        have k5' : KeepsH h3 h5 := fun b o e => k5 b o (k4' b o e)
        have hvl : vs.length ≤ LL := by rw [hr3.length]; lia
        refine append_at (k5' _ _ hd3) (fun h6 hs6 hd6 => ?_) (by simpa using LL_line hvl)
        have k6 : ∀ b o, b ≠ D → h5.get? b = some o → h6.get? b = some o := fun b o q e => (hs6.2 b q).trans e
        have rep6 : ∀ b o, h5.get? b = some o → ¬ Y' b → h6.get? b = some o ∧ ¬ Y' b := fun b o e y => ⟨k6 b o (fun q => y (.inl (.inr (.inl q)))) e, y⟩
        refine ih (i + 1) h6 tk5 ρ1 (acc ++ [y]) z (vs ++ [u]) (k + 1) (by lia) hlt ?_ ?_ B3 ?_ ?_ ?_ hz ?_ (by simpa using hacc)
        · refine W.frame _ _ _ st3 fun b hb o e => k6 b o ?_ (k5' b o e)
          obtain ⟨_, o', e'⟩ := hfp b hb
          exact (old₂ b o' e').1
        · refine (I3.keeps k5').change (fun b => b = D) (fun b o q e => k6 b o q e) (fun b q => .inr (.inl q)) (fun b q => by rw [q]; exact ⟨_, hd6⟩) hDC.symm (fun i x c hi' hx' q => ?_)
          obtain ⟨o, e⟩ := I.old c (celOld i x c hi' hx').1
          exact (old₂ c o (ks2 c o e)).1 q
        · rw [hd6]; simp
        · exact ((hr3.keeps k5').snoc hu).mono rep6
        · exact fun b o e => k6 b o (old₂ b o (k0s b o e)).1 (k5' b o (ks3 b o e))
        · simp only [List.length_append, List.length_singleton]; lia
  have hrl : r.length ≤ l.length := compIf_len hgo
  have go := loop l.length 0 h₁ (s₂.toks + ([] : List (Str × Value)).length) B [] r [] 0 (by simp) (Nat.zero_le _) (W.frame _ _ _ st0 fun b o0 o e => up₂ b o e) I0 (fun o0 => .inl rfl) hDobj .nil (fun b o e => up₂ b o (k0s b o e)) (by rw [List.drop_zero]; exact hgo) (by simpa using hl) (by simp)
  exact codeAny_compStart_list go (wpAny_mono (W.self 0 _ (fun it' s' => it' = it ∧ s' = _) (W.frame _ _ _ st0 fun b o0 o e => up₂ b o e) ⟨rfl, rfl⟩) (fun it' s' h' => by obtain ⟨rfl, rfl⟩ := h'; exact go) fun o0 o0 e => e.elim)
end
end Mine.Internal
namespace Mine.Internal
open PySem PySem.W PyProof.Rows
theorem peek_t {ρ : List Slot} {p : PE} {l : List PV} (h : peek ρ p = some l) : ∃ i, p = .var i ∧ pget ρ i = .own l := by
  cases p with
  | var i =>
    refine ⟨i, rfl, ?_⟩
    revert h
    show (match pget ρ i with | .own l => some l | _ => none) = some l → _
    cases pget ρ i with
    | own l' => exact fun h => congrArg Slot.own (Option.some.inj h)
    | _ => exact fun h => no_none h
  | _ => exact no_none h
inductive Md | val | lst | it | it2 | tst
  deriving DecidableEq
noncomputable def mdOk : PE → Md → Bool
  | .nil, md => md == .lst
  | .cons _ _, md => md == .lst
  | .rng1 _, md => md == .it
  | .rng2 _ _, md => md == .it
  | .rev _, md => md == .it
  | .enum _, md => md == .it2
  | .cmp _ _ _, md => md == .val || md == .it || md == .tst
  | .notNone _, md => md == .val || md == .it || md == .tst
  | .and _ _, md => md == .val || md == .it || md == .tst
  | .or _ _, md => md == .val || md == .it || md == .tst
  | .any _, md => md == .val || md == .it || md == .tst
  | .isstr _, md => md == .val || md == .it || md == .tst
  | .var _, md => md == .val || md == .it
  | _, md => md == .val || md == .it
noncomputable def tgMd : Tg → Md
  | .one _ => .it
  | .two _ _ => .it2
noncomputable def call1? (e : Expr) (x : Str) : Option Expr := (isCall? e).bind fun t => (one? t.2).bind fun a => if t.1 = x ∧ notStar a = true then some a else none
noncomputable def call2? (e : Expr) (x : Str) : Option (Expr × Expr) := (isCall? e).bind fun t => (two? t.2).bind fun p => if t.1 = x ∧ notStar p.1 = true ∧ notStar p.2 = true then some p else none
noncomputable abbrev o1 (es : List Expr) (f : Expr → Bool) : Bool := ob (one? es) f
noncomputable def shp : PE → Sc → List Expr → Bool
  | .bad, _, _ => true
  | .nil, _, es => es.isEmpty
  | .cons a l, sc, es => (match es with
    | e :: es => notStar e && mdOk a .val && shp a sc [e] && mdOk l .lst && shp l sc es
    | [] => false)
  | .non, _, es => o1 es isNone?
  | .tru, _, es => o1 es fun e => isBool? e == some true
  | .fls, _, es => o1 es fun e => isBool? e == some false
  | .lit v, _, es => o1 es fun e => isInt? e == some v
  | .var i, sc, es => o1 es fun e => ob (isName? e) fun x => ob2 (sc.get i) fun y o0 => x == y
  | .glb g, sc, es => o1 es fun e => isName? e == some g.name && sc.glob g.name
  | .bin o a b, sc, es => o1 es fun e => ob3 (isBin? e) fun l op r => op == bo? o && mdOk a .val && shp a sc [l] && mdOk b .val && shp b sc [r]
  | .neg a, sc, es => o1 es fun e => ob (isNeg? e) fun x => mdOk a .val && shp a sc [x]
  | .cmp o a b, sc, es => o1 es fun e => ob3 (isCmp? e) fun l op r => op == co? o && mdOk a .val && shp a sc [l] && mdOk b .val && shp b sc [r]
  | .notNone a, sc, es => o1 es fun e => ob3 (isCmp? e) fun l op r => op == .IsNot && isNone? r && mdOk a .val && shp a sc [l]
  | .and a b, sc, es => o1 es fun e => ob3 (isBop? e) fun op l r => op == .And && mdOk a .tst && shp a sc [l] && mdOk b .tst && shp b sc [r]
  | .or a b, sc, es => o1 es fun e => ob3 (isBop? e) fun op l r => op == .Or && mdOk a .tst && shp a sc [l] && mdOk b .tst && shp b sc [r]
  | .ite c a b, sc, es => o1 es fun e => ob3 (isIf? e) fun t l r => mdOk c .tst && shp c sc [t] && mdOk a .val && shp a sc [l] && mdOk b .val && shp b sc [r]
  | .tup l, sc, es => o1 es fun e => ob (isTup? e) fun es => mdOk l .lst && shp l sc es && decide (es.length ≤ 64)
  | .lst l, sc, es => o1 es fun e => ob (isLst? e) fun es => mdOk l .lst && shp l sc es
  | .idx a i, sc, es => o1 es fun e => ob2 (isSub? e) fun v s => notSlice s && mdOk a .val && shp a sc [v] && mdOk i .val && shp i sc [s]
  | .«from» a i, sc, es => o1 es fun e => ob2 (isFrom? e) fun v s => mdOk a .val && shp a sc [v] && mdOk i .val && shp i sc [s]
  | .upto a i, sc, es => o1 es fun e => ob2 (isUpto? e) fun v s => mdOk a .val && shp a sc [v] && mdOk i .val && shp i sc [s]
  | .call f l, sc, es => o1 es fun e => ob2 (isCall? e) fun x es => x == Str.ofString f.name && sc.glob x && !es.isEmpty && mdOk l .lst && shp l sc es
  | .abs a, sc, es => o1 es fun e => ob (call1? e "abs") fun x => sc.glob "abs" && mdOk a .val && shp a sc [x]
  | .len a, sc, es => o1 es fun e => ob (call1? e "len") fun x => sc.glob "len" && mdOk a .val && shp a sc [x]
  | .list a, sc, es => o1 es fun e => ob (call1? e "list") fun x => sc.glob "list" && mdOk a .val && shp a sc [x]
  | .maxl a, sc, es => o1 es fun e => ob (call1? e "max") fun x => sc.glob "max" && mdOk a .val && shp a sc [x]
  | .any a, sc, es => o1 es fun e => ob (call1? e "any") fun x => sc.glob "any" && mdOk a .val && shp a sc [x]
  | .max2 a b, sc, es => o1 es fun e => ob2 (call2? e "max") fun x y => sc.glob "max" && mdOk a .val && shp a sc [x] && mdOk b .val && shp b sc [y]
  | .isstr a, sc, es => o1 es fun e => ob2 (call2? e "isinstance") fun x y => sc.glob "isinstance" && sc.glob "str" && mdOk a .val && shp a sc [x] && isName? y == some "str"
  | .rng1 a, sc, es => o1 es fun e => ob (call1? e "range") fun x => sc.glob "range" && mdOk a .val && shp a sc [x]
  | .rng2 a b, sc, es => o1 es fun e => ob2 (call2? e "range") fun x y => sc.glob "range" && mdOk a .val && shp a sc [x] && mdOk b .val && shp b sc [y]
  | .enum a, sc, es => o1 es fun e => ob (call1? e "enumerate") fun x => sc.glob "enumerate" && mdOk a .val && shp a sc [x]
  | .rev a, sc, es => o1 es fun e => ob (call1? e "reversed") fun x => sc.glob "reversed" && mdOk a .val && shp a sc [x]
  | .comp el t it, sc, es => o1 es fun e => ob3 (isComp? e) fun x tg r => r.2.1.isEmpty && ob (tgNames? t tg) fun nm =>
    notSet r.1 && compOk sc r.2.2 nm && mdOk it (tgMd t) && shp it sc [r.1] && mdOk el .val && shp el (sc.comp r.2.2 nm) [x]
  | .compIf el t it c, sc, es => o1 es fun e => ob3 (isComp? e) fun x tg r => ob (one? r.2.1) fun ct => ob (tgNames? t tg) fun nm =>
    notSet r.1 && compOk sc r.2.2 nm && mdOk it (tgMd t) && shp it sc [r.1] && mdOk el .val && shp el (sc.comp r.2.2 nm) [x] && mdOk c .tst && shp c (sc.comp r.2.2 nm) [ct]
theorem call1_eq {e a : Expr} {x : Str} (h : call1? e x = some a) : notStar a = true ∧ ∃ q p, e = .Call (.Name x q) [a] [] p :=
  bnd h fun ⟨_, es⟩ hc h => bnd h fun o0 ha h => ite_s h fun q h => by
    cases h; cases q.1; cases (one_eq ha : es = _); exact ⟨q.2, isCall_eq hc⟩
theorem call2_eq {e a b : Expr} {x : Str} (h : call2? e x = some (a, b)) : notStar a = true ∧ notStar b = true ∧ ∃ q p, e = .Call (.Name x q) [a, b] [] p :=
  bnd h fun ⟨_, es⟩ hc h => bnd h fun o0 ha h => ite_s h fun q h => by
    cases h; cases q.1; cases (two_eq ha : es = _); exact ⟨q.2.1, q.2.2, isCall_eq hc⟩
theorem starEach_plain {e : Expr} {es : List Expr} {env : Env} (h : notStar e = true) : starEach (e :: es) env = (false, eval e env) :: starEach es env := by
  cases e <;> first | rfl | exact no_ff h
structure Gs (hB : Heap) (mg mb : Str → Option Value) : Prop where
  g : hB.Ns mainGlobals mg
  b : hB.Ns builtinsNs mb
  bu : ∀ x ∈ (["abs", "len", "max", "any", "isinstance"] : List String), mg (Str.ofString x) = none ∧ mb (Str.ofString x) = some (.builtin x)
  ty : ∀ x ∈ (["list", "range", "enumerate", "reversed", "str"] : List String), mg (Str.ofString x) = none ∧ mb (Str.ofString x) = some (.type x)
  gl : ∀ g : Gl, ∃ v, mg g.name = some v ∧ Rep hB (fun o0 => False) v (glv g)
  fn : ∀ f : Fn, ∃ a o fd, mg (Str.ofString f.name) = some (.ref a) ∧ hB.get? a = some o ∧ o.data = .func fd
noncomputable def Contract (prog : Program) (w : World) (hB : Heap) (mg : Str → Option Value) (n : Nat) (f : Fn) (args : List PV) (r : PV) : Prop :=
  ∀ (a : Addr) (A : Around) (s : Shared) (X : Av) (vs : List Value), mg (Str.ofString f.name) = some (.ref a) → Room n A → KeepsH hB s.heap → (∀ b o, hB.get? b = some o → ¬ X b) → (∀ b, X b → ∃ o, s.heap.get? b = some o) →
    RepL s.heap X vs args → wpAny (model prog w) A (call (.ref a) vs) (Gd s X r) NoE s
section
variable {prog : Program} {w : World} {A : Around} {hB : Heap} {mg mb : Str → Option Value} {n : Nat} {D : Den}
variable (prog w A hB mg mb n D)
structure Bg : Prop where
  G : Gs hB mg mb
  R : Room n A
  HD : ∀ f args r, D f args = some r → Contract prog w hB mg n f args r
noncomputable abbrev HE (p : PE) : Prop := ∀ sc env X Y Z ρ s e v, Ok env sc → Inv hB X env sc s.heap Y Z ρ → mdOk p .val = true → shp p sc [e] = true → pev D ρ p = some v → wpAny (model prog w) A (eval e env) (Gd s Y v) NoE s
noncomputable abbrev HL (p : PE) : Prop := ∀ sc env X Y Z ρ s es r pos, Ok env sc → Inv hB X env sc s.heap Y Z ρ → mdOk p .lst = true → shp p sc es = true → pev D ρ p = some (.tup r) →
  wpAny (model prog w) A (spliced (backTo pos (starEach es env))) (fun vs s' => Keeps s s' ∧ vs.length = es.length ∧ RepL s'.heap Y vs r) NoE s
noncomputable abbrev HI (p : PE) : Prop := ∀ sc env X Y Z ρ s e l, Ok env sc → Inv hB X env sc s.heap Y Z ρ → mdOk p .it = true → shp p sc [e] = true → (pev D ρ p = some (.lst l) ∨ pev D ρ p = some (.itr l)) →
  wpAny (model prog w) A (eval e env) (fun v s' => Keeps s s' ∧ ∃ h0, KeepsH s.heap h0 ∧ KeepsH h0 s'.heap ∧ Itb prog w A h0 Y l v s') NoE s
noncomputable abbrev HI2 (p : PE) : Prop := ∀ sc env X Y Z ρ s e l, Ok env sc → Inv hB X env sc s.heap Y Z ρ → mdOk p .it2 = true → shp p sc [e] = true → (pev D ρ p = some (.lst l) ∨ pev D ρ p = some (.itr l)) →
  wpAny (model prog w) A (eval e env) (fun v s' => Keeps s s' ∧ ∃ h0, KeepsH s.heap h0 ∧ KeepsH h0 s'.heap ∧ ItbT prog w A h0 Y l v s') NoE s
noncomputable abbrev HT (p : PE) : Prop := ∀ sc env X Y Z ρ s e b, Ok env sc → Inv hB X env sc s.heap Y Z ρ → mdOk p .tst = true → shp p sc [e] = true → pev D ρ p = some (.bool b) →
  wpAny (model prog w) A (isTrue e env (eval e env)) (fun r s' => Keeps s s' ∧ r = b) NoE s
structure Snd (p : PE) : Prop where
  e : HE prog w A hB D p
  l : HL prog w A hB D p
  i : HI prog w A hB D p
  i2 : HI2 prog w A hB D p
  t : HT prog w A hB D p
end
section
variable {prog : Program} {w : World} {A : Around} {hB : Heap} {mg mb : Str → Option Value} {n : Nat} {D : Den} {p : PE}
theorem gd_trans {s s' : Shared} {Y : Av} {p : PV} {v : Value} {s'' : Shared} (k : Keeps s s') (h : Gd s' Y p v s'') : Gd s Y p v s'' := ⟨keeps_trans k h.1, h.2⟩
theorem HI.of (hh : A.handled = none) (h : HE prog w A hB D p) (hm : mdOk p .it = true → mdOk p .val = true) : HI prog w A hB D p := by
  intro sc env X Y Z ρ s e l O I hm' hs hv
  rcases hv with hv | hv
  · refine wpAny_mono (h sc env X Y Z ρ s e _ O I (hm hm') hs hv) (fun v s' h' => ⟨h'.1, s'.heap, Keeps.heap' h'.1, eid, itb_lst hh (I.keeps (Keeps.heap' h'.1)).old h'.2⟩) eid
  · exact wpAny_mono (h sc env X Y Z ρ s e _ O I (hm hm') hs hv) (fun v s' h' => h'.2.notItr.elim) eid
theorem Snd.ofE (hh : A.handled = none) (h : HE prog w A hB D p) (h1 : mdOk p .lst = false) (h2 : mdOk p .it2 = false) (h3 : mdOk p .tst = false) (h4 : mdOk p .val = true) : Snd prog w A hB D p where
  e := h
  l := fun o0 o0 o0 o0 o0 o0 o0 o0 o0 o0 o0 o0 hm => by rw [h1] at hm; cases hm
  i := HI.of hh h fun o0 => h4
  i2 := fun o0 o0 o0 o0 o0 o0 o0 o0 o0 o0 o0 hm => by rw [h2] at hm; cases hm
  t := fun o0 o0 o0 o0 o0 o0 o0 o0 o0 o0 o0 hm => by rw [h3] at hm; cases hm
theorem Snd.ofT (hh : A.handled = none) (h : HE prog w A hB D p) (h' : HT prog w A hB D p) (h1 : mdOk p .lst = false) (h2 : mdOk p .it2 = false) (h4 : mdOk p .val = true) : Snd prog w A hB D p where
  e := h
  l := fun o0 o0 o0 o0 o0 o0 o0 o0 o0 o0 o0 o0 hm => by rw [h1] at hm; cases hm
  i := HI.of hh h fun o0 => h4
  i2 := fun o0 o0 o0 o0 o0 o0 o0 o0 o0 o0 o0 hm => by rw [h2] at hm; cases hm
  t := h'
theorem Snd.ofI (h : HI prog w A hB D p) (h1 : mdOk p .lst = false) (h2 : mdOk p .it2 = false) (h3 : mdOk p .tst = false) (h4 : mdOk p .val = false) : Snd prog w A hB D p where
  e := fun o0 o0 o0 o0 o0 o0 o0 o0 o0 o0 o0 hm => by rw [h4] at hm; cases hm
  l := fun o0 o0 o0 o0 o0 o0 o0 o0 o0 o0 o0 o0 hm => by rw [h1] at hm; cases hm
  i := h
  i2 := fun o0 o0 o0 o0 o0 o0 o0 o0 o0 o0 o0 hm => by rw [h2] at hm; cases hm
  t := fun o0 o0 o0 o0 o0 o0 o0 o0 o0 o0 o0 hm => by rw [h3] at hm; cases hm
theorem Snd.ofL (h : HL prog w A hB D p) (h1 : mdOk p .it = false) (h2 : mdOk p .it2 = false) (h3 : mdOk p .tst = false) (h4 : mdOk p .val = false) : Snd prog w A hB D p where
  e := fun o0 o0 o0 o0 o0 o0 o0 o0 o0 o0 o0 hm => by rw [h4] at hm; cases hm
  l := h
  i := fun o0 o0 o0 o0 o0 o0 o0 o0 o0 o0 o0 hm => by rw [h1] at hm; cases hm
  i2 := fun o0 o0 o0 o0 o0 o0 o0 o0 o0 o0 o0 hm => by rw [h2] at hm; cases hm
  t := fun o0 o0 o0 o0 o0 o0 o0 o0 o0 o0 o0 hm => by rw [h3] at hm; cases hm
theorem peek_ok {sc : Sc} {env : Env} {X Y Z : Av} {ρ : List Slot} {s : Shared} {e : Expr} {x : PV} (h : HE prog w A hB D p) (O : Ok env sc) (I : Inv hB X env sc s.heap Y Z ρ) (hm : mdOk p .val = true) (hs : shp p sc [e] = true)
    (hv : (match peek ρ p with | some l => some (PV.lst l) | none => pev D ρ p) = some x) : wpAny (model prog w) A (eval e env) (fun v s' => Keeps s s' ∧ Pk s'.heap Y v x) NoE s := by
  cases hp : peek ρ p with
  | none =>
    rw [hp] at hv
    exact wpAny_mono (h sc env X Y Z ρ s e _ O I hm hs hv) (fun v s' h' => ⟨h'.1, .inl h'.2⟩) eid
  | some l =>
    rw [hp] at hv
    cases hv
    obtain ⟨i, rfl, hq⟩ := peek_t hp
    obtain ⟨a, ⟨_, _, vs, k, e1, e2, e3⟩, _, hld, _⟩ := own_at (prog := prog) (w := w) (A := A) O I hq
    refine ob_t (o := isName? e) hs fun x hx hs1 => ob2_t (o := sc.get i) hs1 fun y b hy hs2 => ?_
    obtain ⟨pos, rfl⟩ := isName_eq hx
    cases (beq_iff_eq.mp hs2 : x = y)
    exact wpAny_mono (hld x b pos s hy eid) (fun v s' h' => ⟨h'.2 ▸ keeps_refl _, h'.2 ▸ .inr ⟨a, vs, k, _, h'.1, rfl, e1, e2, e3⟩⟩) eid
end
end Mine.Internal
namespace Mine.Internal
open PySem PySem.W PyProof.Rows
section
variable {prog : Program} {w : World} {A : Around} {hB : Heap} {mg mb : Str → Option Value} {n : Nat} {D : Den} {s : Shared} {X Y Z : Av} {env : Env} {sc : Sc} {ρ : List Slot}
theorem backTo_cons {e : Expr} {es : List Expr} {pos : Pos} (h : notStar e = true) : backTo pos (starEach (e :: es) env) = (false, eval e env) :: backTo pos (starEach es env) := by rw [starEach_plain h]; rfl
theorem glob_ok {x : Str} (O : Ok env sc) (h : sc.glob x = true) : env.kindOf x = some .globalImplicit ∧ (x == ("__debug__" : Str)) = false := by
  unfold Sc.glob at h
  rw [Bool.and_eq_true] at h
  refine ⟨?_, by simpa using h.2⟩
  show List.lookup x env.scope.names = _
  rw [O.names]; simpa using h.1
theorem Ok.ns (O : Ok env sc) (G : Gs hB mg mb) (k : KeepsH hB s.heap) : s.heap.Ns env.globals mg ∧ s.heap.Ns env.builtins mb := by rw [O.glob, O.blt]; exact ⟨G.g.keeps k, G.b.keeps k⟩
theorem name_glob {x : Str} {pos : Pos} {v : Value} {Q : Value → Shared → Prop} (G : Gs hB mg mb) (O : Ok env sc) (k : KeepsH hB s.heap) (hg : sc.glob x = true) (hv : mg x = some v) (h : Q v s) : wpAny (model prog w) A (eval (.Name x pos) env) Q NoE s :=
  Calls.Name_function_global O.kind (glob_ok O hg).1 (Calls.loadGlobal_global (O.ns G k).1 hv h) (glob_ok O hg).2
theorem name_blt {x : Str} {pos : Pos} {v : Value} {Q : Value → Shared → Prop} (G : Gs hB mg mb) (O : Ok env sc) (k : KeepsH hB s.heap) (hg : sc.glob x = true) (hv : mg x = none ∧ mb x = some v) (h : Q v s) : wpAny (model prog w) A (eval (.Name x pos) env) Q NoE s :=
  Calls.Name_function_global O.kind (glob_ok O hg).1 (Calls.loadGlobal_builtin (O.ns G k).1 hv.1 (O.ns G k).2 hv.2 h) (glob_ok O hg).2
theorem call_b1 {x : String} {a : Expr} {q pos : Pos} {Q : Value → Shared → Prop} (G : Gs hB mg mb) (O : Ok env sc) (k : KeepsH hB s.heap) (hx : x ∈ (["abs", "len", "max", "any", "isinstance"] : List String)) (hg : sc.glob (Str.ofString x) = true) (hst : notStar a = true)
    (h : wpAny (model prog w) A (eval a env) (fun v s' => wpAny (model prog w) A (call (.builtin x) [v]) Q NoE s') NoE s) : wpAny (model prog w) A (eval (.Call (.Name (Str.ofString x) q) [a] [] pos) env) Q NoE s := by
  refine wpAny_Call_NameR (name_blt G O k hg (G.bu x hx) ?_)
  rw [backTo_cons hst]
  exact Calls.callWith_builtin rfl (Calls.evalArgs_plain (Calls.spliced_cons (wpAny_mono h (fun v s' h' => Calls.spliced_nil h') eid)))
theorem call_b2 {x : String} {a b : Expr} {q pos : Pos} {Q : Value → Shared → Prop} (G : Gs hB mg mb) (O : Ok env sc) (k : KeepsH hB s.heap) (hx : x ∈ (["abs", "len", "max", "any", "isinstance"] : List String)) (hg : sc.glob (Str.ofString x) = true) (hst : notStar a = true) (hst' : notStar b = true)
    (h : wpAny (model prog w) A (eval a env) (fun v s' => wpAny (model prog w) A (eval b env) (fun u s'' => wpAny (model prog w) A (call (.builtin x) [v, u]) Q NoE s'') NoE s') NoE s) : wpAny (model prog w) A (eval (.Call (.Name (Str.ofString x) q) [a, b] [] pos) env) Q NoE s := by
  refine wpAny_Call_NameR (name_blt G O k hg (G.bu x hx) ?_)
  rw [backTo_cons hst, backTo_cons hst']
  exact Calls.callWith_builtin rfl (Calls.evalArgs_plain (Calls.spliced_cons (wpAny_mono h (fun v s' h' => Calls.spliced_cons (wpAny_mono h' (fun u s'' h'' => Calls.spliced_nil h'') eid)) eid)))
theorem call_t1 {x : String} {a : Expr} {q pos : Pos} {Q : Value → Shared → Prop} (G : Gs hB mg mb) (O : Ok env sc) (k : KeepsH hB s.heap) (hx : x ∈ (["list", "range", "enumerate", "reversed", "str"] : List String)) (hg : sc.glob (Str.ofString x) = true) (hst : notStar a = true)
    (h : wpAny (model prog w) A (eval a env) (fun v s' => wpAny (model prog w) A (call (.type x) [v]) Q NoE s') NoE s) : wpAny (model prog w) A (eval (.Call (.Name (Str.ofString x) q) [a] [] pos) env) Q NoE s := by
  refine wpAny_Call_NameR (name_blt G O k hg (G.ty x hx) ?_)
  rw [backTo_cons hst]
  exact PySem.callWith_type rfl (Calls.evalArgs_plain (Calls.spliced_cons (wpAny_mono h (fun v s' h' => Calls.spliced_nil h') eid)))
theorem call_t2 {x : String} {a b : Expr} {q pos : Pos} {Q : Value → Shared → Prop} (G : Gs hB mg mb) (O : Ok env sc) (k : KeepsH hB s.heap) (hx : x ∈ (["list", "range", "enumerate", "reversed", "str"] : List String)) (hg : sc.glob (Str.ofString x) = true) (hst : notStar a = true) (hst' : notStar b = true)
    (h : wpAny (model prog w) A (eval a env) (fun v s' => wpAny (model prog w) A (eval b env) (fun u s'' => wpAny (model prog w) A (call (.type x) [v, u]) Q NoE s'') NoE s') NoE s) : wpAny (model prog w) A (eval (.Call (.Name (Str.ofString x) q) [a, b] [] pos) env) Q NoE s := by
  refine wpAny_Call_NameR (name_blt G O k hg (G.ty x hx) ?_)
  rw [backTo_cons hst, backTo_cons hst']
  exact PySem.callWith_type rfl (Calls.evalArgs_plain (Calls.spliced_cons (wpAny_mono h (fun v s' h' => Calls.spliced_cons (wpAny_mono h' (fun u s'' h'' => Calls.spliced_nil h'') eid)) eid)))
theorem call_f {x : Str} {es : List Expr} {q pos : Pos} {a : Addr} {o : Obj} {fd : FuncData} {Q : Value → Shared → Prop} (G : Gs hB mg mb) (O : Ok env sc) (k : KeepsH hB s.heap) (hx : mg x = some (.ref a)) (ho : hB.get? a = some o) (hd : o.data = .func fd)
    (hg : sc.glob x = true) (hst : ∃ e r, es = e :: r ∧ notStar e = true)
    (h : wpAny (model prog w) A (spliced (backTo pos (starEach es env))) (fun vs s' => KeepsH s.heap s'.heap ∧ wpAny (model prog w) A (call (.ref a) vs) Q NoE s') NoE s) : wpAny (model prog w) A (eval (.Call (.Name x q) es [] pos) env) Q NoE s := by
  refine wpAny_Call_NameR (name_glob G O k hg hx ?_)
  obtain ⟨e, r, rfl, he⟩ := hst
  rw [backTo_cons he] at h ⊢
  exact Calls.callWith_function (Calls.evalArgs_plain (wpAny_mono h (fun vs s' h' => ⟨⟨h'.1 _ _ (k _ _ ho), hd⟩, h'.2⟩) eid))
theorem marks_no {op : CmpOp} (h : (op == .In || op == .NotIn) = false) (r : Expr) : behindInMarks op r = false := by
  cases r with
  | Set _ k _ => show (k == 0 && (op == .In || op == .NotIn) && _) = false; rw [h, Bool.and_false, Bool.false_and]
  | _ => rfl
theorem marks_co (o : CO) (r : Expr) : behindInMarks (co? o) r = false := marks_no (by cases o <;> rfl) r
theorem marks_isnot (r : Expr) : behindInMarks .IsNot r = false := marks_no rfl r
theorem notSet_fold {i : Expr} (h : notSet i = true) (x : Value) : foldedSetIterable i env x = pure x := by
  cases i with
  | Set => exact no_ff h
  | _ => rfl
variable (B : Bg prog w A hB mg mb n D)
include B
theorem snd_bad : Snd prog w A hB D .bad := Snd.ofE B.R.hd (fun o0 o0 o0 o0 o0 o0 o0 o0 o0 o0 o0 o0 o0 h => by cases h) rfl rfl rfl rfl
theorem snd_non : Snd prog w A hB D .non := Snd.ofE B.R.hd (fun sc env X Y Z ρ s e v O I o0 hs h => by
  obtain ⟨k, p, rfl⟩ := isNone_eq (show isNone? e = true from hs); cases h
  exact wpAny_Constant_none ⟨keeps_refl _, .none⟩) rfl rfl rfl rfl
theorem snd_tru : Snd prog w A hB D .tru := Snd.ofE B.R.hd (fun sc env X Y Z ρ s e v O I o0 hs h => by
  obtain ⟨k, p, rfl⟩ := isBool_eq (x := true) (beq_iff_eq.mp hs); cases h
  exact wpAny_Constant_bool ⟨keeps_refl _, .bool _⟩) rfl rfl rfl rfl
theorem snd_fls : Snd prog w A hB D .fls := Snd.ofE B.R.hd (fun sc env X Y Z ρ s e v O I o0 hs h => by
  obtain ⟨k, p, rfl⟩ := isBool_eq (x := false) (beq_iff_eq.mp hs); cases h
  exact wpAny_Constant_bool ⟨keeps_refl _, .bool _⟩) rfl rfl rfl rfl
theorem snd_lit (i : Int) : Snd prog w A hB D (.lit i) := Snd.ofE B.R.hd (fun sc env X Y Z ρ s e v O I o0 hs h => by
  obtain ⟨k, p, rfl⟩ := isInt_eq (x := i) (beq_iff_eq.mp hs); cases h
  exact wpAny_Constant_int ⟨keeps_tok _ _, .int _ _⟩) rfl rfl rfl rfl
omit B in
theorem var_inv {i : Nat} {e : Expr} {v : PV} (hs : shp (.var i) sc [e] = true) (h : pev D ρ (.var i) = some v) : ∃ x b p, e = .Name x p ∧ sc.get i = some (x, b) ∧ pget ρ i = .val v := by
  refine ob_t (o := isName? e) hs fun x hx hs1 => ob2_t (o := sc.get i) hs1 fun y b hy hs2 => ?_
  obtain ⟨p, rfl⟩ := isName_eq hx
  cases (beq_iff_eq.mp hs2 : x = y)
  have h' : (match pget ρ i with | .val v => some v | _ => none) = some v := h
  cases hq : pget ρ i with
  | val u => rw [hq] at h'; exact ⟨x, b, p, rfl, hy, congrArg Slot.val (Option.some.inj h')⟩
  | _ => rw [hq] at h'; exact no_none h'
theorem snd_var (i : Nat) : Snd prog w A hB D (.var i) := Snd.ofE B.R.hd (fun sc env X Y Z ρ s e v O I o0 hs h => by
  obtain ⟨x, b, p, rfl, hy, hu⟩ := var_inv hs h
  exact var_ok O I hy hu) rfl rfl rfl rfl
theorem snd_glb (g : Gl) : Snd prog w A hB D (.glb g) := Snd.ofE B.R.hd (fun sc env X Y Z ρ s e v O I o0 hs h => b2 hs fun hs1 hs2 => by
  obtain ⟨pos, rfl⟩ := isName_eq (x := g.name) (beq_iff_eq.mp hs1)
  obtain ⟨u, hu, hr⟩ := B.G.gl g
  cases h
  exact name_glob B.G O I.base hs2 hu ⟨keeps_refl _, hr.mono fun b o e o0 => ⟨I.base b o e, I.baseY b o e⟩⟩) rfl rfl rfl rfl
theorem snd_bin (o : BO) {a b : PE} (ha : Snd prog w A hB D a) (hb : Snd prog w A hB D b) : Snd prog w A hB D (.bin o a b) := Snd.ofE B.R.hd (fun sc env X Y Z ρ s e v O I o0 hs h =>
  ob3_t (o := isBin? e) hs fun l op r he hs => b5 hs fun ho m1 s1 m2 s2 => bnd h fun x hx h => bnd h fun y hy h => by
    obtain ⟨pos, rfl⟩ := isBin_eq he
    cases beq_iff_eq.mp ho
    refine wpAny_BinOp (wpAny_mono (ha.e _ _ _ _ _ _ _ _ _ O I m1 s1 hx) (fun v1 s1 h1 => ?_) eid)
    have I1 := I.keeps (Keeps.heap' h1.1)
    exact wpAny_mono (hb.e _ _ _ _ _ _ _ _ _ O I1 m2 s2 hy) (fun v2 s2 h2 => wpAny_mono (bop_ok (n := n) (I1.keeps (Keeps.heap' h2.1)).old h (h1.2.keeps (Keeps.heap' h2.1)) h2.2) (fun v3 s3 h3 => gd_trans h1.1 (gd_trans h2.1 h3)) eid) eid) rfl rfl rfl rfl
theorem snd_neg {a : PE} (ha : Snd prog w A hB D a) : Snd prog w A hB D (.neg a) := Snd.ofE B.R.hd (fun sc env X Y Z ρ s e v O I o0 hs h =>
  ob_t (o := isNeg? e) hs fun l he hs => b2 hs fun m1 s1 => bnd h fun x hx h => isI_t h fun i hi h => by
    obtain ⟨pos, rfl⟩ := isNeg_eq he
    cases h; cases hi
    exact wpAny_UnaryOp (wpAny_mono (ha.e _ _ _ _ _ _ _ _ _ O I m1 s1 hx) (fun v1 s1 h1 => wpAny_mono (neg_ok h1.2) (fun v2 s2 h2 => gd_trans h1.1 h2) eid) eid)) rfl rfl rfl rfl
omit B in
theorem Snd.ofCmp {p : PE} (hh : A.handled = none) (key : ∀ sc env X Y Z ρ s e v, Ok env sc → Inv hB X env sc s.heap Y Z ρ → shp p sc [e] = true → pev D ρ p = some v →
      ∃ t pos l op r, v = .bool t ∧ e = .Compare l [op] [r] pos ∧ wpAny (model prog w) A (eval l env) (fun a s₁ => wpAny (model prog w) A (eval r env) (fun b s₂ => wpAny (model prog w) A (compareOp op a b) (GdB s t) NoE s₂) NoE s₁) NoE s ∧ behindInMarks op r = false)
    (h1 : mdOk p .lst = false) (h2 : mdOk p .it2 = false) (h4 : mdOk p .val = true) : Snd prog w A hB D p := by
  refine Snd.ofT hh (fun sc env X Y Z ρ s e v O I o0 hs h => ?_) (fun sc env X Y Z ρ s e t O I o0 hs h => ?_) h1 h2 h4
  · obtain ⟨t, pos, l, op, r, rfl, rfl, hw, hm⟩ := key _ _ _ _ _ _ _ _ _ O I hs h
    exact wpAny_Compare1 (wpAny_mono hw (fun v1 s1 h1 => wpAny_mono h1 (fun v2 s2 h2 => wpAny_mono h2 (fun v3 s3 h3 => h3.gd) eid) eid) eid) hm
  · obtain ⟨t', pos, l, op, r, e, rfl, hw, hm⟩ := key _ _ _ _ _ _ _ _ _ O I hs h
    cases e
    exact wpAny_isTrue_Compare1 (wpAny_mono hw (fun v1 s1 h1 => wpAny_mono h1 (fun v2 s2 h2 => wpAny_mono h2 (fun v3 s3 h3 => h3.2 ▸ wpAny_truthy_bool ⟨h3.1, rfl⟩) eid) eid) eid) hm
theorem snd_cmp (o : CO) {a b : PE} (ha : Snd prog w A hB D a) (hb : Snd prog w A hB D b) : Snd prog w A hB D (.cmp o a b) :=
  Snd.ofCmp B.R.hd (fun sc env X Y Z ρ s e v O I hs h => ob3_t (o := isCmp? e) hs fun l op r he hs => b5 hs fun ho m1 s1 m2 s2 => bnd h fun x hx h => bnd h fun y hy h => bnd (Option.map_eq_bind.symm.trans h) fun t ht h => by
    obtain ⟨pos, e'⟩ := isCmp_eq he
    refine ⟨t, pos, l, op, r, (Option.some.inj h).symm, e', wpAny_mono (peek_ok ha.e O I m1 s1 hx) (fun v1 s1 h1 => ?_) eid, beq_iff_eq.mp ho ▸ marks_co _ _⟩
    exact wpAny_mono (hb.e _ _ _ _ _ _ _ _ _ O (I.keeps (Keeps.heap' h1.1)) m2 s2 hy) (fun v2 s2 h2 => beq_iff_eq.mp ho ▸ wpAny_mono (cop_ok B.R ht (h1.2.keeps (Keeps.heap' h2.1)) h2.2) (fun v3 s3 h3 => ⟨keeps_trans h1.1 (keeps_trans h2.1 h3.1), h3.2⟩) eid) eid) rfl rfl rfl
omit B in
theorem vb_none {h : Heap} {v : Value} {x : PV} : Rep h Y v x → (!(v == Value.none)) = (match x with | .none => false | _ => true) := fun r => by cases r <;> rfl
theorem snd_notNone {a : PE} (ha : Snd prog w A hB D a) : Snd prog w A hB D (.notNone a) :=
  Snd.ofCmp B.R.hd (fun sc env X Y Z ρ s e v O I hs h => ob3_t (o := isCmp? e) hs fun l op r he hs => b4 hs fun ho n1 m1 s1 => bnd (Option.map_eq_bind.symm.trans h) fun x hx h => by
    obtain ⟨pos, e'⟩ := isCmp_eq he
    obtain ⟨k, p, rfl⟩ := isNone_eq n1
    exact ⟨_, pos, l, op, _, (Option.some.inj h).symm, e', wpAny_mono (ha.e _ _ _ _ _ _ _ _ _ O I m1 s1 hx) (fun v1 s1 h1 => wpAny_Constant_none (beq_iff_eq.mp ho ▸ isNot_none ⟨h1.1, congrArg Value.bool (vb_none h1.2)⟩)) eid, beq_iff_eq.mp ho ▸ marks_isnot _⟩) rfl rfl rfl
end
end Mine.Internal
namespace Mine.Internal
open PySem PySem.W PyProof.Rows
section
variable {prog : Program} {w : World} {A : Around} {hB : Heap} {mg mb : Str → Option Value} {n : Nat} {D : Den} {s : Shared} {X Y Z : Av} {env : Env} {sc : Sc} {ρ : List Slot}
variable (B : Bg prog w A hB mg mb n D)
include B
omit B in
theorem and_inv {a b : PE} {v : PV} (h : pev D ρ (.and a b) = some v) : (pev D ρ a = some (.bool true) ∧ ∃ t, v = .bool t ∧ pev D ρ b = some (.bool t)) ∨ (pev D ρ a = some (.bool false) ∧ v = .bool false) :=
  bnd h fun x hx h => isB_t h fun t ht h => by
    cases ht; cases t with
    | true => exact bnd h fun y hy h => isB_t h fun c hc h => .inl ⟨hx, c, (Option.some.inj h).symm, hc ▸ hy⟩
    | false => exact .inr ⟨hx, (Option.some.inj h).symm⟩
theorem snd_and {a b : PE} (ha : Snd prog w A hB D a) (hb : Snd prog w A hB D b) (hav : mdOk a .tst = true → mdOk a .val = true) (hbv : mdOk b .tst = true → mdOk b .val = true) : Snd prog w A hB D (.and a b) := by
  refine Snd.ofT B.R.hd (fun sc env X Y Z ρ s e v O I o0 hs h => ob3_t (o := isBop? e) hs fun op l r he hs => b5 hs fun ho m1 s1 m2 s2 => ?_) (fun sc env X Y Z ρ s e t O I o0 hs h => ob3_t (o := isBop? e) hs fun op l r he hs => b5 hs fun ho m1 s1 m2 s2 => ?_) rfl rfl rfl
  · obtain ⟨pos, rfl⟩ := isBop_eq he
    cases beq_iff_eq.mp ho
    refine wpAny_And2 ?_
    rcases and_inv h with ⟨hx, t, rfl, hy⟩ | ⟨hx, rfl⟩
    · refine wpAny_mono (ha.e _ _ _ _ _ _ _ _ _ O I (hav m1) s1 hx) (fun v1 s1 h1 => ?_) eid
      cases h1.2.isBool
      exact wpAny_truthy_bool ((if_pos rfl).mpr (wpAny_mono (hb.e _ _ _ _ _ _ _ _ _ O (I.keeps (Keeps.heap' h1.1)) (hbv m2) s2 hy) (fun v2 s2 h2 => gd_trans h1.1 h2) eid))
    · refine wpAny_mono (ha.e _ _ _ _ _ _ _ _ _ O I (hav m1) s1 hx) (fun v1 s1 h1 => ?_) eid
      cases h1.2.isBool
      exact wpAny_truthy_bool ((if_neg (by decide)).mpr h1)
  · obtain ⟨pos, rfl⟩ := isBop_eq he
    cases beq_iff_eq.mp ho
    refine wpAny_isTrue_BoolOp (wpAny_allTrue_And_cons ?_)
    rcases and_inv h with ⟨hx, t', e, hy⟩ | ⟨hx, e⟩
    · refine wpAny_mono (ha.t _ _ _ _ _ _ _ _ _ O I m1 s1 hx) (fun v1 s1 h1 => ?_) eid
      cases h1.2
      refine (if_pos rfl).mpr (wpAny_allTrue_And_cons (wpAny_mono (hb.t _ _ _ _ _ _ _ _ _ O (I.keeps (Keeps.heap' h1.1)) m2 s2 hy) (fun v2 s2 h2 => ?_) eid))
      cases e; cases h2.2
      cases t with
      | true => exact (if_pos rfl).mpr (wpAny_allTrue_And_nil ⟨keeps_trans h1.1 h2.1, rfl⟩)
      | false => exact (if_neg (by decide)).mpr ⟨keeps_trans h1.1 h2.1, rfl⟩
    · cases e
      exact wpAny_mono (ha.t _ _ _ _ _ _ _ _ _ O I m1 s1 hx) (fun v1 s1 h1 => by cases h1.2; exact (if_neg (by decide)).mpr ⟨h1.1, rfl⟩) eid
omit B in
theorem or_inv {a b : PE} {v : PV} (h : pev D ρ (.or a b) = some v) : (pev D ρ a = some (.bool false) ∧ ∃ t, v = .bool t ∧ pev D ρ b = some (.bool t)) ∨ (pev D ρ a = some (.bool true) ∧ v = .bool true) :=
  bnd h fun x hx h => isB_t h fun t ht h => by
    cases ht; cases t with
    | false => exact bnd h fun y hy h => isB_t h fun c hc h => .inl ⟨hx, c, (Option.some.inj h).symm, hc ▸ hy⟩
    | true => exact .inr ⟨hx, (Option.some.inj h).symm⟩
theorem snd_or {a b : PE} (ha : Snd prog w A hB D a) (hb : Snd prog w A hB D b) (hav : mdOk a .tst = true → mdOk a .val = true) (hbv : mdOk b .tst = true → mdOk b .val = true) : Snd prog w A hB D (.or a b) := by
  refine Snd.ofT B.R.hd (fun sc env X Y Z ρ s e v O I o0 hs h => ob3_t (o := isBop? e) hs fun op l r he hs => b5 hs fun ho m1 s1 m2 s2 => ?_) (fun sc env X Y Z ρ s e t O I o0 hs h => ob3_t (o := isBop? e) hs fun op l r he hs => b5 hs fun ho m1 s1 m2 s2 => ?_) rfl rfl rfl
  · obtain ⟨pos, rfl⟩ := isBop_eq he
    cases beq_iff_eq.mp ho
    refine wpAny_Or2 ?_
    rcases or_inv h with ⟨hx, t, rfl, hy⟩ | ⟨hx, rfl⟩
    · refine wpAny_mono (ha.e _ _ _ _ _ _ _ _ _ O I (hav m1) s1 hx) (fun v1 s1 h1 => ?_) eid
      cases h1.2.isBool
      exact wpAny_truthy_bool ((if_neg (by decide)).mpr (wpAny_mono (hb.e _ _ _ _ _ _ _ _ _ O (I.keeps (Keeps.heap' h1.1)) (hbv m2) s2 hy) (fun v2 s2 h2 => gd_trans h1.1 h2) eid))
    · refine wpAny_mono (ha.e _ _ _ _ _ _ _ _ _ O I (hav m1) s1 hx) (fun v1 s1 h1 => ?_) eid
      cases h1.2.isBool
      exact wpAny_truthy_bool ((if_pos rfl).mpr h1)
  · obtain ⟨pos, rfl⟩ := isBop_eq he
    cases beq_iff_eq.mp ho
    refine wpAny_isTrue_BoolOp (wpAny_allTrue_Or_cons ?_)
    rcases or_inv h with ⟨hx, t', e, hy⟩ | ⟨hx, e⟩
    · refine wpAny_mono (ha.t _ _ _ _ _ _ _ _ _ O I m1 s1 hx) (fun v1 s1 h1 => ?_) eid
      cases h1.2
      refine (if_neg (by decide)).mpr (wpAny_allTrue_Or_cons (wpAny_mono (hb.t _ _ _ _ _ _ _ _ _ O (I.keeps (Keeps.heap' h1.1)) m2 s2 hy) (fun v2 s2 h2 => ?_) eid))
      cases e; cases h2.2
      cases t with
      | false => exact (if_neg (by decide)).mpr (wpAny_allTrue_Or_nil ⟨keeps_trans h1.1 h2.1, rfl⟩)
      | true => exact (if_pos rfl).mpr ⟨keeps_trans h1.1 h2.1, rfl⟩
    · cases e
      exact wpAny_mono (ha.t _ _ _ _ _ _ _ _ _ O I m1 s1 hx) (fun v1 s1 h1 => by cases h1.2; exact (if_pos rfl).mpr ⟨h1.1, rfl⟩) eid
theorem snd_ite {c a b : PE} (hc : Snd prog w A hB D c) (ha : Snd prog w A hB D a) (hb : Snd prog w A hB D b) : Snd prog w A hB D (.ite c a b) := Snd.ofE B.R.hd (fun sc env X Y Z ρ s e v O I o0 hs h =>
  ob3_t (o := isIf? e) hs fun t l r he hs => b6 hs fun m0 t0 m1 t1 m2 t2 => bnd h fun x hx h => isB_t h fun q hq h => by
    obtain ⟨pos, rfl⟩ := isIf_eq he
    cases hq
    refine wpAny_IfExp (wpAny_mono (hc.t _ _ _ _ _ _ _ _ _ O I m0 t0 hx) (fun v1 s1 h1 => h1.2 ▸ ?_) eid)
    cases q with
    | true => exact (if_pos rfl).mpr (wpAny_mono (ha.e _ _ _ _ _ _ _ _ _ O (I.keeps (Keeps.heap' h1.1)) m1 t1 h) (fun v2 s2 h2 => gd_trans h1.1 h2) eid)
    | false => exact (if_neg (by decide)).mpr (wpAny_mono (hb.e _ _ _ _ _ _ _ _ _ O (I.keeps (Keeps.heap' h1.1)) m2 t2 h) (fun v2 s2 h2 => gd_trans h1.1 h2) eid)) rfl rfl rfl rfl
omit B in
theorem snd_nil : Snd prog w A hB D .nil := Snd.ofL (fun sc env X Y Z ρ s es r pos O I o0 hs h => by
  cases List.isEmpty_iff.mp (show es.isEmpty = true from hs); cases h
  exact wpAny_items_nil ⟨keeps_refl _, rfl, .nil⟩) rfl rfl rfl rfl
omit B in
theorem cons_inv {a l : PE} {es : List Expr} {v : PV} (hs : shp (.cons a l) sc es = true) (h : pev D ρ (.cons a l) = some v) : ∃ e es' x r, es = e :: es' ∧ v = .tup (x :: r) ∧ notStar e = true ∧ mdOk a .val = true ∧ shp a sc [e] = true ∧ mdOk l .lst = true ∧ shp l sc es' = true ∧ pev D ρ a = some x ∧ pev D ρ l = some (.tup r) := by
  cases es with
  | nil => exact no_ff hs
  | cons e es => exact b5 hs fun n0 m1 s1 m2 s2 => bnd h fun x hx h => bnd h fun y hy h => isT_t h fun r hr h => ⟨e, es, x, r, rfl, (Option.some.inj (nI_t h).2).symm, n0, m1, s1, m2, s2, hx, hr ▸ hy⟩
omit B in
theorem snd_cons {a l : PE} (ha : Snd prog w A hB D a) (hl : Snd prog w A hB D l) : Snd prog w A hB D (.cons a l) := Snd.ofL (fun sc env X Y Z ρ s es r pos O I o0 hs h => by
  obtain ⟨e, es', x, r', rfl, hv, n0, m1, s1, m2, s2, hx, hr⟩ := cons_inv hs h
  cases hv
  exact wpAny_items_cons (wpAny_mono (ha.e _ _ _ _ _ _ _ _ _ O I m1 s1 hx) (fun v1 s1 h1 =>
    wpAny_mono (hl.l _ _ _ _ _ _ _ _ _ _ O (I.keeps (Keeps.heap' h1.1)) m2 s2 hr) (fun vs s2 h2 => ⟨keeps_trans h1.1 h2.1, congrArg (· + 1) h2.2.1, .cons (h1.2.keeps (Keeps.heap' h2.1)) h2.2.2⟩) eid) eid) (starEach_plain n0)) rfl rfl rfl rfl
omit B in
theorem lst_tup {l : PE} {es : List Expr} {v : PV} (m : mdOk l .lst = true) (hs : shp l sc es = true) (h : pev D ρ l = some v) : ∃ r, v = .tup r := by
  cases l with
  | nil => exact ⟨_, (Option.some.inj h).symm⟩
  | cons a l => obtain ⟨_, _, _, _, _, e, _⟩ := cons_inv hs h; exact ⟨_, e⟩
  | _ => exact no_ff m
omit B in
theorem len64 {n : Nat} (h : n ≤ 64) : n ≤ LL := Nat.le_trans h (by decide)
theorem snd_tup {l : PE} (hl : Snd prog w A hB D l) : Snd prog w A hB D (.tup l) := Snd.ofE B.R.hd (fun sc env X Y Z ρ s e v O I o0 hs h =>
  ob_t (o := isTup? e) hs fun es he hs => b3 hs fun m1 s1 h64 => by
    obtain ⟨k, pos, rfl⟩ := isTup_eq he
    obtain ⟨r, rfl⟩ := lst_tup m1 s1 h
    refine wpAny_Tuple (wpAny_mono (hl.l _ _ _ _ _ _ _ _ _ _ O I m1 s1 h) (fun vs s1 h1 => ?_) eid)
    have hL : vs.length ≤ LL := h1.2.1 ▸ len64 (of_decide_eq_true h64)
    exact ⟨LL_line hL, keeps_trans h1.1 (keeps_push _ _), .tup (Heap.get?_push_size _ rfl) rfl rfl (fresh_not (I.keeps (Keeps.heap' h1.1)).old (size_none _)) hL (h1.2.2.keeps fun o0 o0 e => Heap.get?_push_of_some _ e)⟩) rfl rfl rfl rfl
theorem snd_lst {l : PE} (hl : Snd prog w A hB D l) : Snd prog w A hB D (.lst l) := Snd.ofE B.R.hd (fun sc env X Y Z ρ s e v O I o0 hs h =>
  ob_t (o := isLst? e) hs fun es he hs => b2 hs fun m1 s1 => bnd h fun y hy h => isT_t h fun r hr h => by
    obtain ⟨pos, rfl⟩ := isLst_eq he
    cases hr
    obtain ⟨q, rfl⟩ := fit_eq h
    refine wpAny_List (wpAny_mono (hl.l _ _ _ _ _ _ _ _ _ _ O I m1 s1 hy) (fun vs s1 h1 => ?_) eid)
    have hL : vs.length ≤ LL := h1.2.2.length ▸ q
    exact ⟨LL_line hL, gd_trans h1.1 (gd_new_lst (I.keeps (Keeps.heap' h1.1)).old h1.2.2 hL)⟩) rfl rfl rfl rfl
theorem snd_idx {a i : PE} (ha : Snd prog w A hB D a) (hi : Snd prog w A hB D i) : Snd prog w A hB D (.idx a i) := Snd.ofE B.R.hd (fun sc env X Y Z ρ s e v O I o0 hs h =>
  ob2_t (o := isSub? e) hs fun u t he hs => b5 hs fun n0 m1 s1 m2 s2 => bnd h fun x hx h => bnd h fun y hy h => isI_t h fun k hk h => by
    obtain ⟨pos, rfl⟩ := isSub_eq he
    cases hk
    refine Subscript_ (wpAny_mono (peek_ok ha.e O I m1 s1 hx) (fun v1 s1 h1 => ?_) eid)
    exact wpAny_mono (hi.e _ _ _ _ _ _ _ _ _ O (I.keeps (Keeps.heap' h1.1)) m2 s2 hy) (fun v2 s2 h2 => wpAny_mono (idx_ok n0 (h1.2.keeps (Keeps.heap' h2.1)) h2.2 h) (fun v3 s3 h3 => gd_trans h1.1 (gd_trans h2.1 h3)) eid) eid) rfl rfl rfl rfl
end
end Mine.Internal
namespace Mine.Internal
open PySem PySem.W PyProof.Rows
section
variable {prog : Program} {w : World} {A : Around} {hB : Heap} {mg mb : Str → Option Value} {n : Nat} {D : Den} {s : Shared} {X Y Z : Av} {env : Env} {sc : Sc} {ρ : List Slot}
theorem gd_slice {vs' : List Value} {l' : List PV} {sl : Obj} {arr : Array Value} (old : ∀ b, Y b → ∃ o, s.heap.get? b = some o) (e : arr = vs'.toArray) (r : RepL s.heap Y vs' l') (hl : vs'.length ≤ LL) :
    Gd s Y (.lst l') (.ref (s.heap.objs.size + 1)) { s with heap := (s.heap.push sl).push { cls := .type "list", data := .seq arr } } := by
  subst e
  have k : KeepsH s.heap ((s.heap.push sl).push (lstO vs' 0)) := fun o0 o0 e => Heap.get?_push_of_some _ (Heap.get?_push_of_some _ e)
  refine ⟨keeps_of s _ s.toks k, .lst (n := 0) ?_ ?_ hl (r.keeps k)⟩
  · rw [← Heap.size_push s.heap sl]
    exact Heap.get?_push_size _ rfl
  · refine fresh_not old ?_
    cases e : s.heap.get? (s.heap.objs.size + 1) with
    | none => rfl
    | some o => exact absurd (Heap.lt_size e) (by simp)
theorem end_from {s1 s2 : Shared} {v1 v2 : Value} {l : List PV} {k : Int} (h0 : 0 ≤ k) (old : ∀ b, Y b → ∃ o, s2.heap.get? b = some o) (h1 : Gd s Y (.lst l) v1 s1) (h2 : Gd s1 Y (.int k) v2 s2) :
    ∃ ad items lo hi, v1 = .ref ad ∧ s2.heap.IsList ad items ∧ items.size ≤ sizeLine ∧ IsPart v2 lo ∧ IsPart .none hi ∧
      Gd s Y (.lst (l.drop k.toNat)) (.ref (s2.heap.objs.size + 1)) { s2 with heap := (s2.heap.push { cls := .type "slice", data := .fields #[v2, .none, .none] }).push { cls := .type "list", data := .seq (slicePick items lo hi none) } } := by
  obtain ⟨ad, vs, m, rfl, e1, e2, e3, e4⟩ := (h1.2.keeps (Keeps.heap' h2.1)).isLst
  refine Rep.int_el h2.2 fun tk => ?_
  refine ⟨ad, vs.toArray, some k, none, rfl, lst_is e1, LL_line e3, .int _ _, .none, gd_trans h1.1 (gd_trans h2.1 (gd_slice old ?_ (e4.drop k.toNat) (Nat.le_trans (Nat.le_of_eq List.length_drop) (Nat.le_trans (Nat.sub_le _ _) e3))))⟩
  have hp := slicePick_from' vs.toArray k.toNat; rw [Int.toNat_of_nonneg h0] at hp; exact hp
theorem end_upto {s1 s2 : Shared} {v1 v2 : Value} {l : List PV} {k : Int} (h0 : 0 ≤ k) (old : ∀ b, Y b → ∃ o, s2.heap.get? b = some o) (h1 : Gd s Y (.lst l) v1 s1) (h2 : Gd s1 Y (.int k) v2 s2) :
    ∃ ad items lo hi, v1 = .ref ad ∧ s2.heap.IsList ad items ∧ items.size ≤ sizeLine ∧ IsPart .none lo ∧ IsPart v2 hi ∧
      Gd s Y (.lst (l.take k.toNat)) (.ref (s2.heap.objs.size + 1)) { s2 with heap := (s2.heap.push { cls := .type "slice", data := .fields #[.none, v2, .none] }).push { cls := .type "list", data := .seq (slicePick items lo hi none) } } := by
  obtain ⟨ad, vs, m, rfl, e1, e2, e3, e4⟩ := (h1.2.keeps (Keeps.heap' h2.1)).isLst
  refine Rep.int_el h2.2 fun tk => ?_
  refine ⟨ad, vs.toArray, none, some k, rfl, lst_is e1, LL_line e3, .none, .int _ _, gd_trans h1.1 (gd_trans h2.1 (gd_slice old ?_ (e4.take k.toNat) (Nat.le_trans (Nat.le_of_eq List.length_take) (Nat.le_trans (Nat.min_le_right _ _) e3))))⟩
  have hp := slicePick_upto' vs.toArray k.toNat; rw [Int.toNat_of_nonneg h0] at hp; exact hp
theorem rng1_inv {a : PE} {l : List PV} (h : pev D ρ (.rng1 a) = some (.lst l) ∨ pev D ρ (.rng1 a) = some (.itr l)) : ∃ k, pev D ρ a = some (.int k) ∧ 0 ≤ k ∧ k ≤ LL ∧ rngPV 0 k = l := by
  rcases h with h | h <;> exact bnd h fun x hx h => isI_t h fun k hk h => ite_s h fun q h => ⟨k, hk ▸ hx, q.1, q.2, by cases h <;> rfl⟩
theorem rng2_inv {a b : PE} {l : List PV} (h : pev D ρ (.rng2 a b) = some (.lst l) ∨ pev D ρ (.rng2 a b) = some (.itr l)) : ∃ i k, pev D ρ a = some (.int i) ∧ pev D ρ b = some (.int k) ∧ (0 ≤ i ∧ i ≤ LL ∧ 0 ≤ k ∧ k ≤ LL) ∧ rngPV i k = l := by
  rcases h with h | h <;> exact bnd h fun x hx h => bnd h fun y hy h => isI_t h fun i hi h => isI_t h fun k hk h => ite_s h fun q h => ⟨i, k, hi ▸ hx, hk ▸ hy, q, by cases h <;> rfl⟩
theorem rev_inv {a : PE} {l : List PV} (h : pev D ρ (.rev a) = some (.lst l) ∨ pev D ρ (.rev a) = some (.itr l)) : ∃ k, pev D ρ a = some (.lst k) ∧ k.reverse = l := by
  rcases h with h | h <;> exact bnd h fun x hx h => isL_t h fun k hk h => ⟨k, hk ▸ hx, by cases h <;> rfl⟩
theorem enum_inv {a : PE} {l : List PV} (h : pev D ρ (.enum a) = some (.lst l) ∨ pev D ρ (.enum a) = some (.itr l)) : ∃ k, pev D ρ a = some (.lst k) ∧ enumPV 0 k = l := by
  rcases h with h | h <;> exact bnd h fun x hx h => isL_t h fun k hk h => ⟨k, hk ▸ hx, by cases h <;> rfl⟩
theorem Snd.ofB {p : PE} (hh : A.handled = none) (key : ∀ sc env X Y Z ρ s e v, Ok env sc → Inv hB X env sc s.heap Y Z ρ → shp p sc [e] = true → pev D ρ p = some v →
      ∃ t f as ks p, v = .bool t ∧ e = .Call f as ks p ∧ wpAny (model prog w) A (eval e env) (GdB s t) NoE s) (h1 : mdOk p .lst = false) (h2 : mdOk p .it2 = false) (h4 : mdOk p .val = true) : Snd prog w A hB D p := by
  refine Snd.ofT hh (fun sc env X Y Z ρ s e v O I o0 hs h => ?_) (fun sc env X Y Z ρ s e t O I o0 hs h => ?_) h1 h2 h4
  · obtain ⟨t, _, _, _, _, rfl, _, hw⟩ := key _ _ _ _ _ _ _ _ _ O I hs h
    exact wpAny_mono hw (fun v s' h' => h'.gd) eid
  · obtain ⟨t', f, as, ks, p, e, rfl, hw⟩ := key _ _ _ _ _ _ _ _ _ O I hs h
    cases e
    exact wpAny_isTrue_value (wpAny_mono hw (fun v s' h' => h'.2 ▸ wpAny_truthy_bool ⟨h'.1, rfl⟩) eid)
variable (B : Bg prog w A hB mg mb n D)
include B
theorem snd_from {a i : PE} (ha : Snd prog w A hB D a) (hi : Snd prog w A hB D i) : Snd prog w A hB D (.«from» a i) := Snd.ofE B.R.hd (fun sc env X Y Z ρ s e v O I o0 hs h =>
  ob2_t (o := isFrom? e) hs fun u t he hs => b4 hs fun m1 t1 m2 t2 => bnd h fun x hx h => bnd h fun y hy h => isI_t h fun k hk h => isL_t h fun l hl h => ite_s h fun h0 h => by
    obtain ⟨q, pos, rfl⟩ := isFrom_eq he
    cases h; cases hk; cases hl
    refine slice_ok (wpAny_mono (ha.e _ _ _ _ _ _ _ _ _ O I m1 t1 hx) (fun v1 s1 h1 => ?_) eid)
    rw [evalPart_some]
    have I1 := I.keeps (Keeps.heap' h1.1)
    refine wpAny_mono (hi.e _ _ _ _ _ _ _ _ _ O I1 m2 t2 hy) (fun v2 s2 h2 => ?_) eid
    rw [evalPart_none]
    exact wpAny_pure (end_from h0 (I1.keeps (Keeps.heap' h2.1)).old h1 h2)) rfl rfl rfl rfl
theorem snd_upto {a i : PE} (ha : Snd prog w A hB D a) (hi : Snd prog w A hB D i) : Snd prog w A hB D (.upto a i) := Snd.ofE B.R.hd (fun sc env X Y Z ρ s e v O I o0 hs h =>
  ob2_t (o := isUpto? e) hs fun u t he hs => b4 hs fun m1 t1 m2 t2 => bnd h fun x hx h => bnd h fun y hy h => isI_t h fun k hk h => isL_t h fun l hl h => ite_s h fun h0 h => by
    obtain ⟨q, pos, rfl⟩ := isUpto_eq he
    cases h; cases hk; cases hl
    refine slice_ok (wpAny_mono (ha.e _ _ _ _ _ _ _ _ _ O I m1 t1 hx) (fun v1 s1 h1 => ?_) eid)
    rw [evalPart_none]
    refine wpAny_pure ?_
    rw [evalPart_some]
    have I1 := I.keeps (Keeps.heap' h1.1)
    exact wpAny_mono (hi.e _ _ _ _ _ _ _ _ _ O I1 m2 t2 hy) (fun v2 s2 h2 => end_upto h0 (I1.keeps (Keeps.heap' h2.1)).old h1 h2) eid) rfl rfl rfl rfl
omit B in
theorem lst_ne {l : PE} {es : List Expr} (ne : (!es.isEmpty) = true) (m : mdOk l .lst = true) (hs : shp l sc es = true) : ∃ e r, es = e :: r ∧ notStar e = true := by
  cases es with
  | nil => exact no_ff ne
  | cons e r => cases l with
    | cons a l => exact b5 hs fun n0 o0 o0 o0 o0 => ⟨e, r, rfl, n0⟩
    | nil => exact no_ff hs
    | _ => exact no_ff m
theorem snd_call (f : Fn) {l : PE} (hl : Snd prog w A hB D l) : Snd prog w A hB D (.call f l) := Snd.ofE B.R.hd (fun sc env X Y Z ρ s e v O I o0 hs h =>
  ob2_t (o := isCall? e) hs fun x es he hs => b5 hs fun hf g ne m1 t1 => bnd h fun y hy h => isT_t h fun r hr h => by
    obtain ⟨q, pos, rfl⟩ := isCall_eq he
    cases beq_iff_eq.mp hf; cases hr
    obtain ⟨a, o, fd, ha, ho, hd⟩ := B.G.fn f
    refine call_f B.G O I.base ha ho hd g (lst_ne ne m1 t1) (wpAny_mono (hl.l _ _ _ _ _ _ _ _ _ _ O I m1 t1 hy) (fun vs s1 h1 => ?_) eid)
    have I1 := I.keeps (Keeps.heap' h1.1)
    exact ⟨Keeps.heap' h1.1, wpAny_mono (B.HD f r v h a A s1 Y vs ha B.R I1.base I1.baseY I1.old h1.2.2) (fun v2 s2 h2 => gd_trans h1.1 h2) eid⟩) rfl rfl rfl rfl
theorem snd_abs {a : PE} (ha : Snd prog w A hB D a) : Snd prog w A hB D (.abs a) := Snd.ofE B.R.hd (fun sc env X Y Z ρ s e v O I o0 hs h =>
  ob_t (o := call1? e "abs") hs fun u he hs => b3 hs fun g m1 t1 => bnd h fun x hx h => isI_t h fun i hi h => by
    obtain ⟨n0, q, pos, rfl⟩ := call1_eq he
    cases h; cases hi
    exact call_b1 (x := "abs") B.G O I.base (by decide) g n0 (wpAny_mono (ha.e _ _ _ _ _ _ _ _ _ O I m1 t1 hx) (fun v1 s1 h1 => wpAny_mono (abs_ok h1.2) (fun v2 s2 h2 => gd_trans h1.1 h2) eid) eid)) rfl rfl rfl rfl
theorem snd_len {a : PE} (ha : Snd prog w A hB D a) : Snd prog w A hB D (.len a) := Snd.ofE B.R.hd (fun sc env X Y Z ρ s e v O I o0 hs h =>
  ob_t (o := call1? e "len") hs fun u he hs => b3 hs fun g m1 t1 => bnd h fun x hx h => isL_t h fun i hi h => by
    obtain ⟨n0, q, pos, rfl⟩ := call1_eq he
    cases h; cases hi
    exact call_b1 (x := "len") B.G O I.base (by decide) g n0 (wpAny_mono (peek_ok ha.e O I m1 t1 hx) (fun v1 s1 h1 => wpAny_mono (len_ok h1.2) (fun v2 s2 h2 => gd_trans h1.1 h2) eid) eid)) rfl rfl rfl rfl
theorem snd_list {a : PE} (ha : Snd prog w A hB D a) : Snd prog w A hB D (.list a) := Snd.ofE B.R.hd (fun sc env X Y Z ρ s e v O I o0 hs h =>
  ob_t (o := call1? e "list") hs fun u he hs => b3 hs fun g m1 t1 => bnd h fun x hx h => isL_t h fun i hi h => by
    obtain ⟨n0, q, pos, rfl⟩ := call1_eq he
    cases h; cases hi
    refine call_t1 (x := "list") B.G O I.base (by decide) g n0 (wpAny_mono (ha.e _ _ _ _ _ _ _ _ _ O I m1 t1 hx) (fun v1 s1 h1 => ?_) eid)
    have old := (I.keeps (Keeps.heap' h1.1)).old
    refine wpAny_mono (list_ok old h1.2) (fun v2 s2 h2 => ?_) eid
    obtain ⟨k, vs, m, rfl, e1, e2, e3⟩ := h2
    exact ⟨keeps_trans h1.1 k, .lst e1 (fresh_not old (size_none _)) e2 (e3.keeps (Keeps.heap' k))⟩) rfl rfl rfl rfl
theorem snd_maxl {a : PE} (ha : Snd prog w A hB D a) : Snd prog w A hB D (.maxl a) := Snd.ofE B.R.hd (fun sc env X Y Z ρ s e v O I o0 hs h =>
  ob_t (o := call1? e "max") hs fun u he hs => b3 hs fun g m1 t1 => bnd h fun x hx h => isL_t h fun i hi h => bnd (Option.map_eq_bind.symm.trans h) fun m hm h => by
    obtain ⟨n0, q, pos, rfl⟩ := call1_eq he
    cases h; cases hi
    exact call_b1 (x := "max") B.G O I.base (by decide) g n0 (wpAny_mono (ha.e _ _ _ _ _ _ _ _ _ O I m1 t1 hx) (fun v1 s1 h1 => wpAny_mono (maxl_ok B.R.hd (I.keeps (Keeps.heap' h1.1)).old hm h1.2) (fun v2 s2 h2 => gd_trans h1.1 h2) eid) eid)) rfl rfl rfl rfl
theorem snd_any {a : PE} (ha : Snd prog w A hB D a) : Snd prog w A hB D (.any a) := Snd.ofB B.R.hd (fun sc env X Y Z ρ s e v O I hs h =>
  ob_t (o := call1? e "any") hs fun u he hs => b3 hs fun g m1 t1 => bnd h fun x hx h => isL_t h fun i hi h => bnd (Option.map_eq_bind.symm.trans h) fun m hm hv => by
    obtain ⟨n0, q, pos, rfl⟩ := call1_eq he
    cases hi
    exact ⟨m, _, _, _, _, (Option.some.inj hv).symm, rfl, call_b1 (x := "any") B.G O I.base (by decide) g n0 (wpAny_mono (ha.e _ _ _ _ _ _ _ _ _ O I m1 t1 hx) (fun v1 s1 h1 => wpAny_mono (any_ok B.R.hd (I.keeps (Keeps.heap' h1.1)).old hm h1.2) (fun v2 s2 h2 => ⟨keeps_trans h1.1 h2.1, h2.2⟩) eid) eid)⟩) rfl rfl rfl
theorem snd_max2 {a b : PE} (ha : Snd prog w A hB D a) (hb : Snd prog w A hB D b) : Snd prog w A hB D (.max2 a b) := Snd.ofE B.R.hd (fun sc env X Y Z ρ s e v O I o0 hs h =>
  ob2_t (o := call2? e "max") hs fun u u' he hs => b5 hs fun g m1 t1 m2 t2 => bnd h fun x hx h => bnd h fun y hy h => isI_t h fun i hi h => isI_t h fun j hj h => by
    obtain ⟨n0, n1, q, pos, rfl⟩ := call2_eq he
    cases h; cases hi; cases hj
    exact call_b2 (x := "max") B.G O I.base (by decide) g n0 n1 (wpAny_mono (ha.e _ _ _ _ _ _ _ _ _ O I m1 t1 hx) (fun v1 s1 h1 => wpAny_mono (hb.e _ _ _ _ _ _ _ _ _ O (I.keeps (Keeps.heap' h1.1)) m2 t2 hy) (fun v2 s2 h2 =>
      wpAny_mono (max2_ok B.R (h1.2.keeps (Keeps.heap' h2.1)) h2.2) (fun v2 s2 h3 => gd_trans h1.1 (gd_trans h2.1 h3)) eid) eid) eid)) rfl rfl rfl rfl
theorem snd_isstr {a : PE} (ha : Snd prog w A hB D a) : Snd prog w A hB D (.isstr a) := Snd.ofB B.R.hd (fun sc env X Y Z ρ s e v O I hs h =>
  ob2_t (o := call2? e "isinstance") hs fun u u' he hs => b5 hs fun g g' m1 t1 hn => bnd h fun x hx h => isT_t h fun l hl hv => by
    obtain ⟨n0, n1, q, pos, rfl⟩ := call2_eq he
    obtain ⟨pos', rfl⟩ := isName_eq (x := "str") (beq_iff_eq.mp hn)
    cases hl
    exact ⟨false, _, _, _, _, (Option.some.inj hv).symm, rfl, call_b2 (x := "isinstance") B.G O I.base (by decide) g n0 n1 (wpAny_mono (ha.e _ _ _ _ _ _ _ _ _ O I m1 t1 hx) (fun v1 s1 h1 =>
      name_blt B.G O (I.keeps (Keeps.heap' h1.1)).base g' (B.G.ty "str" (by decide)) (wpAny_mono (isstr_ok h1.2) (fun v2 s2 h2 => ⟨keeps_trans h1.1 h2.1, h2.2⟩) eid)) eid)⟩) rfl rfl rfl
theorem snd_rng1 {a : PE} (ha : Snd prog w A hB D a) : Snd prog w A hB D (.rng1 a) := Snd.ofI (fun sc env X Y Z ρ s e l O I o0 hs h =>
  ob_t (o := call1? e "range") hs fun u he hs => b3 hs fun g m1 t1 => by
    obtain ⟨n0, q, pos, rfl⟩ := call1_eq he
    obtain ⟨k, hx, k0, k1, rfl⟩ := rng1_inv h
    exact call_t1 (x := "range") B.G O I.base (by decide) g n0 (wpAny_mono (ha.e _ _ _ _ _ _ _ _ _ O I m1 t1 hx) (fun v1 s1 h1 =>
      wpAny_mono (rng1_ok B.R.hd (I.keeps (Keeps.heap' h1.1)).old k0 k1 h1.2) (fun v2 s2 h2 => ⟨keeps_trans h1.1 h2.1, s1.heap, Keeps.heap' h1.1, Keeps.heap' h2.1, h2.2⟩) eid) eid)) rfl rfl rfl rfl
theorem snd_rng2 {a b : PE} (ha : Snd prog w A hB D a) (hb : Snd prog w A hB D b) : Snd prog w A hB D (.rng2 a b) := Snd.ofI (fun sc env X Y Z ρ s e l O I o0 hs h =>
  ob2_t (o := call2? e "range") hs fun u u' he hs => b5 hs fun g m1 t1 m2 t2 => by
    obtain ⟨n0, n1, q, pos, rfl⟩ := call2_eq he
    obtain ⟨i, k, hx, hy, hk, rfl⟩ := rng2_inv h
    refine call_t2 (x := "range") B.G O I.base (by decide) g n0 n1 (wpAny_mono (ha.e _ _ _ _ _ _ _ _ _ O I m1 t1 hx) (fun v1 s1 h1 => ?_) eid)
    have I1 := I.keeps (Keeps.heap' h1.1)
    exact wpAny_mono (hb.e _ _ _ _ _ _ _ _ _ O I1 m2 t2 hy) (fun v2 s2 h2 => wpAny_mono (rng2_ok B.R.hd (I1.keeps (Keeps.heap' h2.1)).old hk.1 hk.2.1 hk.2.2.1 hk.2.2.2 (h1.2.keeps (Keeps.heap' h2.1)) h2.2)
      (fun v3 s3 h3 => ⟨keeps_trans h1.1 (keeps_trans h2.1 h3.1), s2.heap, Keeps.heap' (keeps_trans h1.1 h2.1), Keeps.heap' h3.1, h3.2⟩) eid) eid) rfl rfl rfl rfl
theorem snd_rev {a : PE} (ha : Snd prog w A hB D a) : Snd prog w A hB D (.rev a) := Snd.ofI (fun sc env X Y Z ρ s e l O I o0 hs h =>
  ob_t (o := call1? e "reversed") hs fun u he hs => b3 hs fun g m1 t1 => by
    obtain ⟨n0, q, pos, rfl⟩ := call1_eq he
    obtain ⟨k, hx, rfl⟩ := rev_inv h
    exact call_t1 (x := "reversed") B.G O I.base (by decide) g n0 (wpAny_mono (ha.e _ _ _ _ _ _ _ _ _ O I m1 t1 hx) (fun v1 s1 h1 =>
      wpAny_mono (rev_ok B.R.hd (I.keeps (Keeps.heap' h1.1)).old h1.2) (fun v2 s2 h2 => ⟨keeps_trans h1.1 h2.1, s1.heap, Keeps.heap' h1.1, Keeps.heap' h2.1, h2.2⟩) eid) eid)) rfl rfl rfl rfl
theorem snd_enum {a : PE} (ha : Snd prog w A hB D a) : Snd prog w A hB D (.enum a) where
  e := fun o0 o0 o0 o0 o0 o0 o0 o0 o0 o0 o0 hm => no_ff hm
  l := fun o0 o0 o0 o0 o0 o0 o0 o0 o0 o0 o0 o0 hm => no_ff hm
  i := fun o0 o0 o0 o0 o0 o0 o0 o0 o0 o0 o0 hm => no_ff hm
  t := fun o0 o0 o0 o0 o0 o0 o0 o0 o0 o0 o0 hm => no_ff hm
  i2 := fun sc env X Y Z ρ s e l O I o0 hs h => ob_t (o := call1? e "enumerate") hs fun u he hs => b3 hs fun g m1 t1 => by
    obtain ⟨n0, q, pos, rfl⟩ := call1_eq he
    obtain ⟨k, hx, rfl⟩ := enum_inv h
    exact call_t1 (x := "enumerate") B.G O I.base (by decide) g n0 (wpAny_mono (ha.e _ _ _ _ _ _ _ _ _ O I m1 t1 hx) (fun v1 s1 h1 =>
      wpAny_mono (enum_ok B.R.hd (I.keeps (Keeps.heap' h1.1)).old h1.2) (fun v2 s2 h2 => ⟨keeps_trans h1.1 h2.1, s1.heap, Keeps.heap' h1.1, Keeps.heap' h2.1, h2.2⟩) eid) eid)
end
end Mine.Internal
namespace Mine.Internal
open PySem PySem.W PyProof.Rows
theorem compGo_if {ρ : List Slot} {t : Tg} {f : List Slot → Option PV} : ∀ l, compGo ρ t f l = compIfGo ρ t f (fun o0 => some (.bool true)) l
  | [] => rfl
  | x :: l => by
    simp only [compGo_e1, compGo_e2, compIfGo_e1, compIfGo_e2, Option.bind_some]
    rw [compGo_if l]
theorem mdOk_tst {p : PE} (h : mdOk p .tst = true) : mdOk p .val = true := by
  cases p <;> first | rfl | exact no_ff h
section
variable {prog : Program} {w : World} {A : Around} {hB : Heap} {mg mb : Str → Option Value} {n : Nat} {D : Den} {s : Shared} {X Y Z : Av} {env : Env} {sc : Sc} {ρ : List Slot}
theorem itF_of {p : PE} {t : Tg} {tg it : Expr} {nm : List (Nat × Str)} {l : List PV} (hh : A.handled = none) (hp : Snd prog w A hB D p) (ht : tgNames? t tg = some nm) (O : Ok env sc) (I : Inv hB X env sc s.heap Y Z ρ)
    (hm : mdOk p (tgMd t) = true) (hs : shp p sc [it] = true) (hv : pev D ρ p = some (.lst l) ∨ pev D ρ p = some (.itr l)) :
    wpAny (model prog w) A (eval it env) (fun v s' => Keeps s s' ∧ ∃ h0, KeepsH s.heap h0 ∧ KeepsH h0 s'.heap ∧ ItF prog w A tg t (nm.map (·.2)) h0 Y l v s') NoE s := by
  refine tgNames_el (P := fun t tg nm => mdOk p (tgMd t) = true → wpAny (model prog w) A (eval it env) (fun v s' => Keeps s s' ∧ ∃ h0, KeepsH s.heap h0 ∧ KeepsH h0 s'.heap ∧ ItF prog w A tg t (nm.map (·.2)) h0 Y l v s') NoE s) ht (fun o0 o0 o0 hm => ?_) (fun o0 o0 o0 o0 o0 o0 o0 o0 hm => ?_) hm
  · exact wpAny_mono (hp.i _ _ _ _ _ _ _ _ _ O I hm hs hv) (fun v s' h' => ⟨h'.1, h'.2.imp fun h0 q => ⟨q.1, q.2.1, itf_one q.2.2⟩⟩) eid
  · exact wpAny_mono (hp.i2 _ _ _ _ _ _ _ _ _ O I hm hs hv) (fun v s' h' => ⟨h'.1, h'.2.imp fun h0 q => ⟨q.1, q.2.1, itf_two hh q.2.2⟩⟩) eid
variable (B : Bg prog w A hB mg mb n D)
include B
theorem snd_comp {el it : PE} (t : Tg) (he : Snd prog w A hB D el) (hi : Snd prog w A hB D it) : Snd prog w A hB D (.comp el t it) := Snd.ofE B.R.hd (fun sc env X Y Z ρ s e v O I o0 hs h =>
  ob3_t (o := isComp? e) hs fun x tg ⟨i, fs, inner⟩ hc hs => b2 hs fun hf hs => ob_t (o := tgNames? t tg) hs fun nm hnm hs => b6 hs fun ns co m1 t1 m2 t2 =>
  bnd h fun y hy h => isM_t h fun l hl h => ite_s h fun hL h => bnd (Option.map_eq_bind.symm.trans h) fun r hr hv => by
    cases List.isEmpty_iff.mp hf
    obtain ⟨pos, rfl⟩ := isComp_eq hc
    refine Option.some.inj hv ▸ comp_ok B.R.hd O I hnm co hL (notSet_fold ns) (itF_of B.R.hd hi hnm O I m1 t1 (hl.imp (fun q => hy.trans (congrArg some q)) (fun q => hy.trans (congrArg some q)))) ((compGo_if l).symm.trans hr)
        (fun env' X' Y' Z' ρ' s' b o0 o0 hb => wpAny_tests_nil ⟨keeps_refl _, ?_⟩) (fun env' X' Y' Z' ρ' s' y O' I' hy => he.e _ _ _ _ _ _ _ _ _ O' I' m2 t2 hy)
    cases hb; rfl) rfl rfl rfl rfl
theorem snd_compIf {el it c : PE} (t : Tg) (he : Snd prog w A hB D el) (hi : Snd prog w A hB D it) (hcc : Snd prog w A hB D c) : Snd prog w A hB D (.compIf el t it c) := Snd.ofE B.R.hd (fun sc env X Y Z ρ s e v O I o0 hs h =>
  ob3_t (o := isComp? e) hs fun x tg ⟨i, fs, inner⟩ hc hs => ob_t (o := one? fs) hs fun ct hf hs => ob_t (o := tgNames? t tg) hs fun nm hnm hs => b8 hs fun ns co m1 t1 m2 t2 m3 t3 =>
  bnd h fun y hy h => isM_t h fun l hl h => ite_s h fun hL h => bnd (Option.map_eq_bind.symm.trans h) fun r hr hv => by
    cases one_eq hf
    obtain ⟨pos, rfl⟩ := isComp_eq hc
    exact Option.some.inj hv ▸ comp_ok B.R.hd O I hnm co hL (notSet_fold ns) (itF_of B.R.hd hi hnm O I m1 t1 (hl.imp (fun q => hy.trans (congrArg some q)) (fun q => hy.trans (congrArg some q)))) hr
        (fun env' X' Y' Z' ρ' s' b O' I' hb => wpAny_tests_one (hcc.t _ _ _ _ _ _ _ _ _ O' I' m3 t3 hb)) (fun env' X' Y' Z' ρ' s' y O' I' hy => he.e _ _ _ _ _ _ _ _ _ O' I' m2 t2 hy)) rfl rfl rfl rfl
theorem snd_all (p : PE) : Snd prog w A hB D p := by
  induction p with
  | bad => exact snd_bad B
  | non => exact snd_non B
  | tru => exact snd_tru B
  | fls => exact snd_fls B
  | lit v => exact snd_lit B v
  | var i => exact snd_var B i
  | glb g => exact snd_glb B g
  | bin o a b ha hb => exact snd_bin B o ha hb
  | neg a ha => exact snd_neg B ha
  | cmp o a b ha hb => exact snd_cmp B o ha hb
  | notNone a ha => exact snd_notNone B ha
  | and a b ha hb => exact snd_and B ha hb mdOk_tst mdOk_tst
  | or a b ha hb => exact snd_or B ha hb mdOk_tst mdOk_tst
  | ite c a b hc ha hb => exact snd_ite B hc ha hb
  | nil => exact snd_nil
  | cons a l ha hl => exact snd_cons ha hl
  | tup l hl => exact snd_tup B hl
  | lst l hl => exact snd_lst B hl
  | idx a i ha hi => exact snd_idx B ha hi
  | «from» a i ha hi => exact snd_from B ha hi
  | upto a i ha hi => exact snd_upto B ha hi
  | call f l hl => exact snd_call B f hl
  | abs a ha => exact snd_abs B ha
  | len a ha => exact snd_len B ha
  | list a ha => exact snd_list B ha
  | max2 a b ha hb => exact snd_max2 B ha hb
  | maxl a ha => exact snd_maxl B ha
  | any a ha => exact snd_any B ha
  | isstr a ha => exact snd_isstr B ha
  | rng1 a ha => exact snd_rng1 B ha
  | rng2 a b ha hb => exact snd_rng2 B ha hb
  | enum a ha => exact snd_enum B ha
  | rev a ha => exact snd_rev B ha
  | comp e t it he hi => exact snd_comp B t he hi
  | compIf e t it c he hi hc => exact snd_compIf B t he hi hc
end
end Mine.Internal
namespace Mine.Internal
open PySem PySem.W PyProof.Rows
section
variable {prog : Program} {w : World} {A : Around} {s : Shared}
theorem upd_at {h : Heap} {a : Addr} {vs vs' : List Value} {n : Nat} {f : Array Value → Array Value} (e : h.get? a = some (lstO vs n)) (hf : f vs.toArray = vs'.toArray) :
    ∃ n', (h.update a (Obj.mapSeq f)).get? a = some (lstO vs' n') := by
  have q := PySem.IsL.update (h := h) (l := a) e f
  rw [hf] at q
  exact ⟨_, q⟩
theorem pop_at {D : Addr} {vs : List Value} {y : Value} {n : Nat} {Q : Value → Shared → Prop} (ho : s.heap.get? D = some (lstO (vs ++ [y]) n)) (hsz : (vs ++ [y]).length ≤ sizeLine)
    (h : ∀ h' n', Heap.SameBut D s.heap h' → h'.get? D = some (lstO vs n') → Q y { s with heap := h' }) : wpAny (model prog w) A (call (.builtin "list.pop") [.ref D]) Q NoE s := by
  have hk : (vs ++ [y]).toArray.size - 1 = vs.length := by rw [List.size_toArray, List.length_append]; rfl
  have hy : (vs ++ [y]).toArray[(vs ++ [y]).toArray.size - 1]? = some y := by rw [hk]; simp
  obtain ⟨n', hn'⟩ := upd_at (vs' := vs) (f := fun xs => xs.eraseIdxIfInBounds ((vs ++ [y]).toArray.size - 1)) ho (by rw [hk]; apply Array.ext'; simp [Array.eraseIdxIfInBounds]; rw [List.eraseIdx_append_of_length_le (Nat.le_refl _)]; simp)
  exact call_meets PySem.F.slot_list_pop ⟨_, ho, rfl⟩ PySem.F.entry_list_pop (PySem.F.args_list_pop_1 _) (PySem.MeetsSeq.list_pop_last D _ n y hy (by simpa using hsz)) ⟨ho, h _ n' (Heap.SameBut.update ..) hn'⟩
theorem insert_at {D : Addr} {vs : List Value} {y : Value} {n : Nat} {k : Int} {t : Tok} {Q : Value → Shared → Prop} (ho : s.heap.get? D = some (lstO vs n)) (h0 : 0 ≤ k) (hk : k.toNat ≤ vs.length) (hsz : vs.length ≤ LL)
    (h : ∀ h' n', Heap.SameBut D s.heap h' → h'.get? D = some (lstO (vs.take k.toNat ++ y :: vs.drop k.toNat) n') → Q .none { s with heap := h' }) : wpAny (model prog w) A (call (.builtin "list.insert") [.ref D, .int k t, y]) Q NoE s := by
  have hL : vs.length ≤ 2 ^ 20 := hsz
  have hm : (if k < 0 then (k + ((vs.toArray.size : Nat) : Int)).toNat else min k.toNat vs.toArray.size) = k.toNat := by
    rw [if_neg (by lia)]; simp; lia
  obtain ⟨n', hn'⟩ := upd_at (vs' := vs.take k.toNat ++ y :: vs.drop k.toNat) (f := fun xs => have k := if k < 0 then (k + ((xs.size : Nat) : Int)).toNat else min k.toNat xs.size; (xs.extract 0 k).push y ++ xs.extract k) ho (by
    dsimp only
    rw [hm]
    apply Array.ext'
    simp [List.extract]
    exact List.take_of_length_le (by simp))
  exact call_meets PySem.F.slot_list_insert ⟨_, ho, rfl⟩ PySem.F.entry_list_insert (PySem.F.args_list_insert_3 _ _ _) (PySem.AutoSeq1.list_insert_list_int_val_1 D _ n k t y (by simp [Builtin.List.listFitsIndex]; lia) (by simpa using LL_line hsz))
    ⟨ho, h _ n' (Heap.SameBut.update ..) hn'⟩
theorem set_at {l : Addr} {vs : List Value} {n : Nat} {k : Int} {t : Tok} {v : Value} {Q : Unit → Shared → Prop} (hlo : s.heap.get? l = some (lstO vs n)) (h0 : 0 ≤ k) (hk : k.toNat < vs.length) (hsz : vs.length ≤ LL)
    (hQ : ∀ h' n', Heap.SameBut l s.heap h' → h'.get? l = some (lstO (vs.set k.toNat v) n') → Q () { s with heap := h' }) : wpAny (model prog w) A (setItem (.ref l) (.int k t) v) Q NoE s := by
  have hL : vs.length ≤ 2 ^ 20 := hsz
  have hl := lst_is hlo
  unfold setItem
  try with_reducible refine wpAny_holding ?_
  first | refine wpAny_bind (wpAny_pure ?_) | skip
  refine wpAny_bind (wpAny_sequenceKey hl.typeIs (by decide) ?_)
  refine wpAny_bind (wpAny_callSpecial?_slot (name := Str.ofString "__setitem__") hl.typeIs slot_list_setitem
    (wpAny_call_entry slot_list_setitem hl.typeIs entry_list_setitem ?_ (args_list_setitem _ _ _)))
  show wpAny _ _ (Builtin.List.listSubscript? (.int k t) >>= _) _ _ s
  refine wpAny_bind (wpAny_listSubscript_int (fitsIndex_of h0 (by lia)) ?_)
  obtain ⟨j, rfl⟩ := Int.eq_ofNat_of_zero_le h0
  have hj : j < vs.toArray.size := by simpa using hk
  have hx' : vs.toArray[j]? = some vs.toArray[j] := Array.getElem?_eq_getElem hj
  show wpAny _ _ ((seqItemAt l j >>= fun r => pure (r.map (j, ·))) >>= _) _ _ s
  refine wpAny_bind (wpAny_bind (wpAny_seqItemAt hlo rfl (wpAny_pure ?_)))
  rw [hx']
  show wpAny _ _ (setSeqItemAt l j v >>= _) _ _ s
  obtain ⟨n', hn'⟩ := upd_at (vs' := vs.set j v) (f := (·.setIfInBounds j v)) hlo (by simp)
  refine wpAny_bind (wpAny_setSeqItemAt hlo rfl ?_)
  first
    | exact wpAny_bind (wpAny_pure (wpAny_pure ⟨.none, rfl, wpAny_pure (hQ _ n' (Heap.SameBut.update ..) hn')⟩))
    | exact wpAny_pure ⟨.none, rfl, wpAny_pure (hQ _ n' (Heap.SameBut.update ..) hn')⟩
theorem meth_ {env : Env} {x name : Str} {p apos pos : Pos} {args : List Expr} {id : String} {Q : Value → Shared → Prop} (slot : PySem.Slot "list" name id) (hty : typeOf (.builtin id) = pure (.type "method_descriptor"))
    (hst : args.all notStar = true) (hl : args.length < 20) (hline : (apos.endLine == pos.line) = true)
    (h : wpAny (model prog w) A (eval (.Name x p) env) (fun ov s₁ => (∃ a vs n, ov = .ref a ∧ s₁.heap.get? a = some (lstO vs n)) ∧
      wpAny (model prog w) A (callWith pos (.builtin id) [ov] (backTo pos (starEach args env)) []) Q NoE s₁) NoE s) :
    wpAny (model prog w) A (eval (.Call (.Attribute (.Name x p) name apos) args [] pos) env) Q NoE s := by
  refine wpAny_Call_method rfl ?_ hline PySem.F.plainAttrs_list slot hty (wpAny_mono h (fun ov s₁ h₁ => ?_) eid)
  · have hs : ∀ as : List Expr, as.all notStar = true → (backTo pos (starEach as env)).all (fun x => !x.1) = true := fun as => by
      induction as with
      | nil => intro _; rfl
      | cons a r ih =>
        intro h
        simp only [List.all_cons, Bool.and_eq_true] at h
        rw [starEach_plain h.1]
        show (backTo pos ((false, eval a env) :: starEach r env)).all _ = true
        simp only [backTo, List.map_cons, List.all_cons, Bool.not_false, Bool.true_and]
        exact ih h.2
    rw [hs args hst]
    have e0 : backToKw pos (keywordEach [] env) = [] := rfl
    simp [e0]
    lia
  · obtain ⟨⟨a, vs, n, rfl, e⟩, hc⟩ := h₁
    exact ⟨⟨_, e, rfl⟩, fun b hb => by cases hb; exact ⟨_, e, rfl⟩, hc⟩
theorem exec_one (st : Stmt) (env : Env) : execs [st] env = exec st env := by
  have : (fun f : Flow => (match f with | .next => (pure Flow.next : Sem Flow) | f => pure f)) = pure := by
    funext f; cases f <;> rfl
  show (exec st env >>= fun f : Flow => (match f with | .next => (pure Flow.next : Sem Flow) | f => pure f)) = _
  first
  | (rw [this]; exact bind_pure _)
  | (simp only [this, bind_pure])
theorem while_step {test : Expr} {body : List Stmt} {env : Env} {R : Result → Shared → Prop}
    (h : wpAny (model prog w) A (isTrue test env (eval test env)) (fun b s₂ =>
        if b then wpAny (model prog w) A (execs body env) (fun f s₃ => match f with
            | .next | .cont => codeAny (model prog w) A (.whileLoop test body [] env) R s₃
            | .brk => R (.ok .next) s₃
            | .ret v => R (.ok (.ret v)) s₃) NoE s₂
        else R (.ok .next) s₂) NoE s) : codeAny (model prog w) A (.whileLoop test body [] env) R s := by
  refine codeAny_of_tree ?_
  show wpAny _ A ((whileTurn test body [] env).onRaise (fun x => do noteFrame x env; theTreesLotGoes x)) _ _ s
  refine wpAny_noted ?_
  simp only [whileTurn]
  refine wpAny_bind (wpAny_mono h (fun b s₂ h₂ => ?_) fun o0 o0 e => e.elim)
  cases b with
  | false =>
    simp only [Bool.false_eq_true, if_false] at h₂ ⊢
    exact wpAny_bind (wpAny_execs_nil (wpAny_pure h₂))
  | true =>
    simp only [if_true] at h₂ ⊢
    refine wpAny_bind (wpAny_mono h₂ (fun f s₃ h₃ => ?_) fun o0 o0 e => e.elim)
    cases f with
    | next => exact wpAny_pure (And.intro rfl h₃)
    | cont => exact wpAny_pure (And.intro rfl h₃)
    | brk => exact wpAny_pure h₃
    | ret v => exact wpAny_pure h₃
theorem for_step {target : Expr} {it : Value} {body : List Stmt} {env : Env} {R : Result → Shared → Prop}
    (h : wpAny (model prog w) A (pyNext it) (fun r s₁ => match r with
      | none => R (.ok .next) s₁
      | some v => wpAny (model prog w) A (letOwnedTupleGo target it v) (fun o0 s₀ => wpAny (model prog w) A (assign target env v) (fun o0 s₂ => wpAny (model prog w) A (execs body env) (fun f s₃ => match f with
          | .next | .cont => codeAny (model prog w) A (.forLoop target it body [] env) R s₃
          | .brk => R (.ok .next) s₃
          | .ret v => R (.ok (.ret v)) s₃) NoE s₂) NoE s₀) NoE s₁) NoE s) : codeAny (model prog w) A (.forLoop target it body [] env) R s := by
  refine codeAny_of_tree ?_
  show wpAny _ A ((forTurn target it body [] env).onRaise (fun x => do noteFrame x env; theTreesLotGoes x)) _ _ s
  refine wpAny_noted ?_
  simp only [forTurn]
  refine wpAny_bind (wpAny_standAt (wpAny_bind (wpAny_onRaise (wpAny_mono h (fun r s₁ h₁ => ?_) fun o0 o0 e => e.elim))))
  cases r with
  | none => exact wpAny_pure (And.intro rfl (codeAny_block (wpAny_execs_nil h₁)))
  | some v =>
    refine wpAny_bind (wpAny_mono h₁ (fun o0 s₀ h₀ => ?_) fun o0 o0 e => e.elim)
    refine wpAny_bind (wpAny_mono h₀ (fun o0 s₂ h₂ => wpAny_bind (wpAny_mono h₂ (fun f s₃ h₃ => ?_) fun o0 o0 e => e.elim)) fun o0 o0 e => e.elim)
    cases f with
    | next => exact wpAny_pure (And.intro rfl h₃)
    | cont => exact wpAny_pure (And.intro rfl h₃)
    | brk => exact wpAny_pure h₃
    | ret v => exact wpAny_pure h₃
end
end Mine.Internal
namespace Mine.Internal
open PySem PySem.W PyProof.Rows
@[elab_as_elim] theorem md_ind {P : PE → Prop} (hn : P .nil) (hc : ∀ a l, P l → P (.cons a l)) (ho : ∀ p, mdOk p .lst = false → P p) (p : PE) : P p := by
  induction p with
  | nil => exact hn
  | cons a l _ ih => exact hc a l ih
  | _ => exact ho _ rfl
theorem bop_rep' {r : List PV} {y z : PV} (h : bop .mul (.lst r) y = some z) : ∃ x0 m, r = [x0] ∧ y = .int m ∧ ¬ m < 0 ∧ fit (List.replicate m.toNat x0) = some z := by
  cases r with
  | nil => exact no_none h
  | cons x0 r => cases r with
    | cons _ _ => exact no_none h
    | nil => cases y with
      | int m => exact if q : m < 0 then no_none ((if_pos q).symm.trans h) else ⟨x0, m, rfl, rfl, q, (if_neg q).symm.trans h⟩
      | _ => exact no_none h
section
variable {prog : Program} {w : World} {A : Around} {hB : Heap} {mg mb : Str → Option Value} {n : Nat} {D : Den} {s : Shared} {X Y Z : Av} {env : Env} {sc : Sc} {ρ : List Slot}
noncomputable def NewL (h : Heap) (X Y Z : Av) (q : List (Value × Slot)) : Prop := (∀ p ∈ q, New h X Y Z p.1 p.2) ∧ q.Pairwise fun p r => (∃ l, p.2 = .own l) → (∃ l, r.2 = .own l) → p.1 ≠ r.1
theorem New.after {s s' : Shared} {v v1 : Value} {sl sl1 : Slot} (t : Tr X Y s Y s') (lk : LK s.heap s'.heap) (hne : (∃ l, sl1 = .own l) → (∃ l, sl = .own l) → v1 ≠ v) (h : New s.heap X Y Z v sl) : New s'.heap X Y (zPut Z v1 sl1) v sl := by
  cases sl with
  | un => exact h
  | val p => exact t.rep h
  | own l =>
    obtain ⟨a, rfl, ⟨y, x, vs, k, e, f, r⟩, z⟩ := h
    refine ⟨a, rfl, ⟨y, x, vs, k, lk _ _ _ e, f, r.mono fun b o e y => (t.2 b o e).2 y⟩, fun q => ?_⟩
    cases sl1 with
    | un => exact z q
    | val p => exact z q
    | own l1 =>
      rcases q with q | q
      · exact z q
      · exact hne ⟨_, rfl⟩ ⟨_, rfl⟩ q
theorem stores_mix {Q : Shared → Prop} (O : Ok env sc) (Mi : Mine' X env sc) :
    ∀ (q : List ((Nat × Str) × (Value × Slot))) (s : Shared) (ρ : List Slot) (Z : Av), Inv hB X env sc s.heap Y Z ρ → NewL s.heap X Y Z (q.map (·.2)) → (∀ p ∈ q, ∃ b, sc.get p.1.1 = some (p.1.2, b)) →
      (∀ s' Z', Tr X Y s Y s' → Inv hB X env sc s'.heap Y Z' (psets ρ (q.map fun p => (p.1.1, p.2.2))) → Q s') → StoreAll (model prog w) A env (q.map (·.1.2)) (q.map (·.2.1)) Q s
  | [], s, ρ, Z, I, _, _, k => k s Z (Tr.refl _ _ _) I
  | ((i, x), (v, sl)) :: q, s, ρ, Z, I, N, hn, k => by
    obtain ⟨b, hb⟩ := hn _ List.mem_cons_self
    obtain ⟨N1, N2⟩ := N
    refine wpAny_mono (store_ok O (Mi.get hb) I hb (N1 (v, sl) List.mem_cons_self)) (fun o0 s' h => ?_) eid
    obtain ⟨h1, h2, h3⟩ := h
    obtain ⟨p1, p2⟩ := List.pairwise_cons.mp N2
    refine stores_mix O Mi q s' _ _ h3 ⟨fun p hp => ?_, p2⟩ (fun p hp => hn p (List.mem_cons_of_mem _ hp)) fun s'' Z' t'' I'' => k s'' Z' (h1.trans t'') I''
    exact (N1 p (List.mem_cons_of_mem _ hp)).after h1 h2 (p1 p hp)
theorem Inv.addY {h h' : Heap} (I : Inv hB X env sc h Y Z ρ) (W : Av) (hw : ∀ b, W b → h.get? b = none) (hk : KeepsH h h') (he : ∀ b, W b → ∃ o, h'.get? b = some o) :
    Inv hB X env sc h' (fun b => Y b ∨ W b) Z ρ := by
  have J := I.addX W hw hk he
  obtain ⟨m, vm, ad, hn, hm, hcl, hso, hinj⟩ := id J.st
  refine ⟨J.base, J.baseY, fun b x => .inl (I.sub b x), J.old, J.locY, J.celY, J.zY, m, vm, ad, hn, hm, hcl, fun i => ?_, hinj⟩
  have hi := hso i
  cases hq : pget ρ i with
  | un => trivial
  | val p => rw [hq] at hi; exact hi
  | own l =>
    rw [hq] at hi
    obtain ⟨e1, ⟨y1, x1, r⟩, z1⟩ := hi
    exact ⟨e1, ⟨y1, fun q => x1 (.inl q), r⟩, z1⟩
set_option tactic.hygienic true in
theorem rep_new {v u : Value} {x : PV} {m : Int} (hx : Rep s.heap Y v (.lst [x])) (hy : Rep s.heap Y u (.int m)) (hm : ¬ m < 0) (hl : m.toNat ≤ LL) :
    wpAny (model prog w) A (binaryOp .Mult v u) (fun r s' => Keeps s s' ∧ ∃ vs, r = .ref s.heap.objs.size ∧ s'.heap.get? s.heap.objs.size = some (lstO vs 0) ∧ vs.length ≤ LL ∧ RepL s.heap Y vs (List.replicate m.toNat x)) NoE s := by
  refine Rep.lst_el hx fun a vs k h1 h2 h3 h4 => ?_
  obtain ⟨t', rfl⟩ := hy.isInt
  cases h4 with | cons r q => ?_
  cases q
  rename_i v0
  have q' : m.toNat ≤ 2 ^ 20 := hl
  refine wpAny_binaryOp_repeat_ref (T := "list") (U := "int") (by decide) ⟨_, h1, rfl⟩ (fun s' => typeIs_int s' m t') noFill_list_mul F.fills_int_mul F.slot_int_rmul repeat_list F.slot_int_index.lookup
    (call_meets F.slot_int_rmul (typeIs_int s m t') F.entry_int_rmul (F.args_int_rmul_2 _ _) (int___rmul___int_list m t' a #[v0] k)
      ⟨h1, rfl, ⟨_, h1, rfl⟩, call_meets F.slot_list_mul ⟨_, h1, rfl⟩ F.entry_list_mul (F.args_list_mul_2 _ _)
        (AutoListH.list___mul___list_int_3 a #[v0] k m t' (by simp [Builtin.List.listFitsIndex]; lia) (by simp; lia) (by simp [Builtin.List.listTooLong, sizeLine]; lia))
        ⟨h1, ?_⟩⟩)
  have e1 : (List.foldl (fun x1 x2 => x1 ++ x2) #[] (List.replicate (if (#[v0] : Array Value).isEmpty = true then 0 else m.toNat) #[v0])) = (List.replicate m.toNat v0).toArray := by
    rw [foldl_rep]; simp
  rw [e1]
  exact ⟨keeps_push s _, List.replicate m.toNat v0, rfl, Heap.get?_push_size _ rfl, by simpa using hl, RepL.replicate r _⟩
noncomputable abbrev Fresh (s : Shared) (Y : Av) (l : List PV) : Value → Shared → Prop := fun v s' => Keeps s s' ∧ ∃ h1, KeepsH s.heap h1 ∧ KeepsH h1 s'.heap ∧ ∃ a vs n, v = .ref a ∧ h1.get? a = none ∧ s'.heap.get? a = some (lstO vs n) ∧ vs.length ≤ LL ∧ RepL h1 Y vs l
noncomputable def Ch (hB : Heap) (X : Av) (env : Env) (sc : Sc) (Z : Av) (ρ : List Slot) (Zt : Av) (n : Nat) (ss : List Slot) (s : Shared) (Y : Av) (vs : List Value) (s' : Shared) : Prop :=
  Keeps s s' ∧ vs.length = n ∧ vs.length = ss.length ∧ ∃ Y', (∀ b, Y b → Y' b) ∧ (∀ b o, s.heap.get? b = some o → ¬ Y b → ¬ Y' b) ∧ Inv hB X env sc s'.heap Y' Z ρ ∧
      (∀ b, ¬ Y b → Y' b → s.heap.get? b = none) ∧ NewL s'.heap X Y' Zt (vs.zip ss)
theorem none_of {h : Heap} {b : Addr} (k : ∀ o, h.get? b ≠ some o) : h.get? b = none := by
  cases e : h.get? b with
  | none => rfl
  | some o => exact absurd e (k o)
theorem New.less {h : Heap} {Zt Zu : Av} {v : Value} {sl : Slot} (hz : ∀ b, Zu b → Zt b) (N : New h X Y Zt v sl) : New h X Y Zu v sl := by
  cases sl with
  | own l => obtain ⟨a, e, o, z⟩ := N; exact ⟨a, e, o, fun q => z (hz _ q)⟩
  | _ => exact N
theorem New.apart {h : Heap} {Zt : Av} {a : Addr} {v : Value} {sl : Slot} (N : New h X Y Zt v sl) (ha : Zt a) (ho : ∃ l, sl = .own l) : .ref a ≠ v := by
  obtain ⟨l, rfl⟩ := ho
  obtain ⟨b, rfl, _, z⟩ := N
  intro e; cases e; exact z ha
theorem ch_val {Zt : Av} {m : Nat} {ss : List Slot} {x : PV} {v : Value} {s1 s2 : Shared} {vs : List Value} (h1 : Gd s Y x v s1) (h2 : Ch hB X env sc Z ρ Zt m ss s1 Y vs s2) : Ch hB X env sc Z ρ Zt (m + 1) (.val x :: ss) s Y (v :: vs) s2 := by
  obtain ⟨k2, len, len', Y', y1, y2, I2, y3, N1, N2⟩ := h2
  have k1 := Keeps.heap' h1.1
  refine ⟨keeps_trans h1.1 k2, congrArg (· + 1) len, congrArg (· + 1) len', Y', y1, fun b o e y => y2 b o (k1 b o e) y, I2, fun b y y' => none_of fun o e => ?_, fun p hp => ?_, List.pairwise_cons.mpr ⟨fun p hp ho => ho.elim fun o0 e => (nomatch e), N2⟩⟩
  · have q := y3 b y y'; rw [k1 b o e] at q; exact no_some q
  · rcases List.mem_cons.mp hp with rfl | hp
    · exact h1.2.mono fun b o e y => ⟨Keeps.heap' k2 b o e, y2 b o e y⟩
    · exact N1 p hp
theorem ch_own {Zt : Av} {m : Nat} {ss : List Slot} {xs : List PV} {v : Value} {s1 : Shared} (I : Inv hB X env sc s.heap Y Z ρ) (hz : ∀ b, Zt b → Y b) (h1 : Fresh s Y xs v s1) :
    ∃ Y1 Zt1, Inv hB X env sc s1.heap Y1 Z ρ ∧ (∀ b, Zt1 b → Y1 b) ∧ ∀ vs s2, Ch hB X env sc Z ρ Zt1 m ss s1 Y1 vs s2 → Ch hB X env sc Z ρ Zt (m + 1) (.own xs :: ss) s Y (v :: vs) s2 := by
  obtain ⟨k1, h1', g1, g2, a1, vs1, n1, rfl, fr, e1, l1, r1⟩ := h1
  have nil1 : ∀ o, s.heap.get? a1 ≠ some o := fun o e => by rw [g1 _ _ e] at fr; exact no_some fr
  have na : ∀ b o, s.heap.get? b = some o → b ≠ a1 := fun b o e q => nil1 o (q ▸ e)
  refine ⟨fun b => Y b ∨ b = a1, fun b => Zt b ∨ b = a1, I.addY (fun b => b = a1) (fun b hb => hb ▸ none_of nil1) (Keeps.heap' k1) (fun b hb => ⟨_, hb ▸ e1⟩), fun b z => z.imp (hz b) id, fun vs s2 h2 => ?_⟩
  obtain ⟨k2, len, len', Y', y1, y2, I2, y3, N1, N2⟩ := h2
  refine ⟨keeps_trans k1 k2, congrArg (· + 1) len, congrArg (· + 1) len', Y', fun b y => y1 b (.inl y), fun b o e y => y2 b o (Keeps.heap' k1 b o e) (fun q => q.elim y (na b o e)), I2, fun b y y' => none_of fun o e => ?_, fun p hp => ?_,
    List.pairwise_cons.mpr ⟨fun p hp o0 ho => (N1 p hp).apart (.inr rfl) ho, N2⟩⟩
  · have q := y3 b (fun q => q.elim y (na b o e)) y'; rw [Keeps.heap' k1 b o e] at q; exact no_some q
  · rcases List.mem_cons.mp hp with rfl | hp
    · refine ⟨a1, rfl, ⟨y1 a1 (.inr rfl), fun q => (I.old a1 (I.sub a1 q)).elim nil1, vs1, n1, Keeps.heap' k2 _ _ e1, l1, r1.mono fun b o e y => ?_⟩, fun q => (I.old a1 (hz a1 q)).elim nil1⟩
      exact ⟨Keeps.heap' k2 _ _ (g2 b o e), y2 b o (g2 b o e) fun q => q.elim y fun q => by rw [q, fr] at e; exact no_none e⟩
    · exact (N1 p hp).less fun b q => .inl q
variable (B : Bg prog w A hB mg mb n D)
include B
theorem fresh_lst (q : PE) {e : Expr} {l : List PV} (O : Ok env sc) (I : Inv hB X env sc s.heap Y Z ρ) (hs : shp (.lst q) sc [e] = true) (h : pev D ρ (.lst q) = some (.lst l)) : wpAny (model prog w) A (eval e env) (Fresh s Y l) NoE s :=
  ob_t (o := isLst? e) hs fun es he hs => b2 hs fun m1 t1 => bnd h fun y hy h => isT_t h fun r hr h => by
    obtain ⟨pos, rfl⟩ := isLst_eq he
    cases hr
    obtain ⟨q', e'⟩ := fit_eq h
    cases e'
    refine wpAny_List (wpAny_mono ((snd_all B q).l _ _ _ _ _ _ _ _ _ _ O I m1 t1 hy) (fun vs s1 h1 => ?_) eid)
    have hL : vs.length ≤ LL := h1.2.2.length ▸ q'
    exact ⟨LL_line hL, keeps_trans h1.1 (keeps_push _ _), s1.heap, Keeps.heap' h1.1, fun o0 o0 e => Heap.get?_push_of_some _ e, _, vs, 0, rfl, size_none _, Heap.get?_push_size _ rfl, hL, h1.2.2⟩
theorem fresh_mul (q b : PE) {e : Expr} {l : List PV} (O : Ok env sc) (I : Inv hB X env sc s.heap Y Z ρ) (hs : shp (.bin .mul (.lst q) b) sc [e] = true) (h : pev D ρ (.bin .mul (.lst q) b) = some (.lst l)) : wpAny (model prog w) A (eval e env) (Fresh s Y l) NoE s :=
  ob3_t (o := isBin? e) hs fun l' op r he hs => b5 hs fun ho m1 t1 m2 t2 => bnd h fun x hx h => bnd h fun y hy h => bnd hx fun z hz hzx => isT_t hzx fun zs o0 hzx => by
    obtain ⟨pos, rfl⟩ := isBin_eq he
    cases beq_iff_eq.mp ho
    obtain ⟨_, rfl⟩ := fit_eq hzx
    obtain ⟨x0, m, e1, rfl, hm, hf⟩ := bop_rep' h
    obtain ⟨hl, e2⟩ := fit_eq hf
    cases e2; cases e1
    refine wpAny_BinOp (wpAny_mono ((snd_all B (.lst q)).e _ _ _ _ _ _ _ _ _ O I rfl t1 hx) (fun v1 s1 h1 => ?_) eid)
    refine wpAny_mono ((snd_all B b).e _ _ _ _ _ _ _ _ _ O (I.keeps (Keeps.heap' h1.1)) m2 t2 hy) (fun v2 s2 h2 => ?_) eid
    refine wpAny_mono (rep_new (h1.2.keeps (Keeps.heap' h2.1)) h2.2 hm (Nat.le_trans (Nat.le_of_eq List.length_replicate.symm) hl)) (fun v3 s3 h3 => ?_) eid
    obtain ⟨k3, vs, rfl, e3, l3, r3⟩ := h3
    exact ⟨keeps_trans h1.1 (keeps_trans h2.1 k3), s2.heap, Keeps.heap' (keeps_trans h1.1 h2.1), Keeps.heap' k3, _, vs, 0, rfl, size_none _, e3, l3, r3⟩
theorem fresh_list (q : PE) {e : Expr} {l : List PV} (O : Ok env sc) (I : Inv hB X env sc s.heap Y Z ρ) (hs : shp (.list q) sc [e] = true) (h : pev D ρ (.list q) = some (.lst l)) : wpAny (model prog w) A (eval e env) (Fresh s Y l) NoE s :=
  ob_t (o := call1? e "list") hs fun u he hs => b3 hs fun g m1 t1 => bnd h fun x hx h => isL_t h fun i hi h => by
    obtain ⟨n0, _, pos, rfl⟩ := call1_eq he
    cases h; cases hi
    refine call_t1 (x := "list") B.G O I.base (by decide) g n0 (wpAny_mono ((snd_all B q).e _ _ _ _ _ _ _ _ _ O I m1 t1 hx) (fun v1 s1 h1 => ?_) eid)
    refine wpAny_mono (list_ok (I.keeps (Keeps.heap' h1.1)).old h1.2) (fun v2 s2 h2 => ?_) eid
    obtain ⟨k, vs, m, rfl, e1, e2, e3⟩ := h2
    exact ⟨keeps_trans h1.1 k, s1.heap, Keeps.heap' h1.1, Keeps.heap' k, _, vs, m, rfl, size_none _, e1, e2, e3⟩
theorem fresh_ok {p : PE} {e : Expr} {l : List PV} (O : Ok env sc) (I : Inv hB X env sc s.heap Y Z ρ) (hf : isFresh p = true) (hs : shp p sc [e] = true) (h : pev D ρ p = some (.lst l)) : wpAny (model prog w) A (eval e env) (Fresh s Y l) NoE s :=
  isFresh_el (P := fun p => shp p sc [e] = true → pev D ρ p = some (.lst l) → wpAny (model prog w) A (eval e env) (Fresh s Y l) NoE s) hf (fun q => fresh_lst B q O I) (fun q b => fresh_mul B q b O I) (fun q => fresh_list B q O I) hs h
omit B in
theorem pevs_inv {a l : PE} {es : List Expr} {fs : List Bool} {ss : List Slot} (hs : shp (.cons a l) sc es = true) (h : pevs D ρ fs (.cons a l) = some ss) : ∃ e es' f fs' x r, es = e :: es' ∧ notStar e = true ∧ mdOk a .val = true ∧ shp a sc [e] = true ∧ mdOk l .lst = true ∧ shp l sc es' = true ∧
    pev D ρ a = some x ∧ pevs D ρ fs' l = some r ∧ (match f with | true => isL (fun xs => if isFresh a then some (Slot.own xs :: r) else none) x | false => nI x (some (.val x :: r))) = some ss := by
  cases es with
  | nil => exact no_ff hs
  | cons e es => cases fs with
    | nil => exact no_none h
    | cons f fs => exact b5 hs fun n0 m1 s1 m2 s2 => bnd h fun x hx h => bnd h fun r hr h => ⟨e, es, f, fs, x, r, rfl, n0, m1, s1, m2, s2, hx, hr, h⟩
theorem chain_ok (p : PE) : ∀ (fs : List Bool) (es : List Expr) (ss : List Slot) (s : Shared) (Y Zt : Av) (pos : Pos), Ok env sc → Inv hB X env sc s.heap Y Z ρ → (∀ b, Zt b → Y b) → mdOk p .lst = true → shp p sc es = true → pevs D ρ fs p = some ss →
    wpAny (model prog w) A (spliced (backTo pos (starEach es env))) (Ch hB X env sc Z ρ Zt es.length ss s Y) NoE s := by
  induction p using md_ind with
  | hn =>
    intro fs es ss s Y Zt pos O I hz _ hs h
    cases List.isEmpty_iff.mp (show es.isEmpty = true from hs); cases h
    exact wpAny_items_nil ⟨keeps_refl _, rfl, rfl, Y, fun o0 y => y, fun o0 o0 o0 y => y, I, fun o0 y y' => absurd y' y, fun o0 hp => absurd hp List.not_mem_nil, .nil⟩
  | hc a l ih =>
    intro fs es ss s Y Zt pos O I hz _ hs h
    obtain ⟨e, es, f, fs', x, r, rfl, n0, m1, s1, m2, s2, hx, hr, h⟩ := pevs_inv hs h
    cases f with
    | true =>
      refine isL_t h fun xs hxs h => ite_s h fun hf h => ?_
      cases h; cases hxs
      refine wpAny_items_cons (wpAny_mono (fresh_ok B O I hf s1 hx) (fun v1 s1 h1 => ?_) eid) (starEach_plain n0)
      obtain ⟨Y1, Zt1, I1, z1, fin⟩ := ch_own I hz h1
      exact wpAny_mono (ih fs' es r s1 Y1 Zt1 pos O I1 z1 m2 s2 hr) (fun vs s2 h2 => fin vs s2 h2) eid
    | false =>
      cases (nI_t h).2
      exact wpAny_items_cons (wpAny_mono ((snd_all B a).e _ _ _ _ _ _ _ _ _ O I m1 s1 hx) (fun v1 s1 h1 => wpAny_mono (ih fs' es r s1 Y Zt pos O (I.keeps (Keeps.heap' h1.1)) hz m2 s2 hr) (fun vs s2 h2 => ch_val h1 h2) eid) eid) (starEach_plain n0)
  | ho p hp => intro fs es ss s Y Zt pos O I hz hm; exact no_ff (hp.symm.trans hm)
end
end Mine.Internal
namespace Mine.Internal
open PySem PySem.W PyProof.Rows
noncomputable def notComp (e : Expr) : Bool := !(Nat.beq e.ctorIdx 8 || Nat.beq e.ctorIdx 9 || Nat.beq e.ctorIdx 10)
noncomputable def notTup (e : Expr) : Bool := !Nat.beq e.ctorIdx 25
noncomputable def slotIs (sc : Sc) (i : Nat) (x : Str) : Bool := ob2 (sc.get i) fun y o0 => y == x
noncomputable def isCell (sc : Sc) (i : Nat) : Bool := ob2 (sc.get i) fun o0 b => b
noncomputable def nms? (sc : Sc) : List Nat → List Expr → Option (List (Nat × Str))
  | [], es => (match es with
    | [] => some []
    | _ :: _ => none)
  | i :: is, es => (match es with
    | [] => none
    | e :: es => (xName e).bind fun x => if slotIs sc i x = true then (nms? sc is es).map fun r => (i, x) :: r else none)
noncomputable def asg1? (st : Stmt) : Option (Expr × Expr) := (sAssign st).bind fun t => (one? t.1).bind fun x => some (x, t.2)
theorem asg1_eq {st : Stmt} {t v : Expr} (h : asg1? st = some (t, v)) : ∃ p, st = .Assign [t] v p :=
  bnd h fun ⟨ts, _⟩ hs h => bnd h fun o0 ht h => by
    cases h; cases (one_eq ht : ts = _); exact sAssign_el hs fun p => ⟨p, rfl⟩
noncomputable def meth? (e : Expr) : Option (Str × Str × List Expr) := (xCall e).bind fun t => (xAttribute t.1).bind fun a => (xName a.1).bind fun x => if t.2.2.1 = [] ∧ (a.2.2.endLine == t.2.2.2.line) = true then some (x, a.2.1, t.2.1) else none
theorem meth_eq {e : Expr} {x m : Str} {as : List Expr} (h : meth? e = some (x, m, as)) : ∃ p ap cp, e = .Call (.Attribute (.Name x p) m ap) as [] cp ∧ (ap.endLine == cp.line) = true :=
  bnd h fun ⟨f, bs, ks, cp⟩ hc h => bnd h fun ⟨n, m', ap⟩ ha h => bnd h fun o0 hx h => ite_s h fun q h => by
    cases h
    cases (q.1 : ks = [])
    exact xName_el (P := fun n => xAttribute f = some (n, m', ap) → _) hx (fun p ha => xAttribute_el (P := fun f => xCall e = some (f, bs, [], cp) → _) ha (fun o0 hc => xCall_el (P := fun e => ∃ p ap' cp', e = Expr.Call (.Attribute (.Name _ p) m' ap') bs [] cp' ∧ (ap'.endLine == cp'.line) = true) hc fun o0 => ⟨p, ap, cp, rfl, q.2⟩) hc) ha
noncomputable def swp (sc : Sc) (ts vs : List Expr) : Option (Option (List Str)) :=
  if !(ts.length == 2 || ts.length == 3) || vs.length != ts.length then some none
  else if vs.any (fun | .Starred .. => true | _ => false) then some none
  else
    let line := (ts.head?.map (·.pos.line)).getD 0
    let names := ts.filterMap fun
      | .Name id pos => if sc.names.lookup id == some .local && pos.line == line then some id else none
      | _ => none
    if names.length != ts.length || names.eraseDups.length != names.length then some none
    else if vs.all (foldedForSure 8) then some none
    else if vs.all (constantsAlone 8) then none
    else some (some names)
theorem swp_chain {a a' b c d e : Bool} {N : List Str} {X : Sem (Option (List Str))} {r : Option (List Str)} (ha : a' = a) (h : (if a = true then some none else if b = true then some none else if c = true then some none else if d = true then some none else if e = true then none else some (some N)) = some r) :
    (if a' = true then pure none else if b = true then pure none else if c = true then pure none else if d = true then pure none else if e = true then X else pure (some N)) = (pure r : Sem (Option (List Str))) := by
  cases ha
  cases a with
  | true => cases h; rfl
  | false => cases b with
    | true => cases h; rfl
    | false => cases c with
      | true => cases h; rfl
      | false => cases d with
        | true => cases h; rfl
        | false => cases e with
          | true => exact no_none h
          | false => cases h; rfl
theorem swp_eq {env : Env} {sc : Sc} {ts vs : List Expr} {k k' : Nat} {p p' : Pos} {r : Option (List Str)} (O : Ok env sc) (h : swp sc ts vs = some r) : swappedStores [.Tuple ts k p] (.Tuple vs k' p') env = pure r := by
  have hb : env.blockKind = .function := by unfold Env.blockKind; rw [O.kind]; rfl
  have hn := O.names
  obtain ⟨names, slots⟩ := sc
  cases hn
  refine swp_chain (a' := !(ts.length == 2 || ts.length == 3) || vs.length != ts.length || env.blockKind != .function) ?_ h
  rw [hb]; exact Bool.or_false _
noncomputable def sle1 : List Nat → Bool
  | [] => true
  | i :: r => !r.contains i && sle1 r
noncomputable abbrev s1 (sts : List Stmt) (f : Stmt → Bool) : Bool := ob (one? sts) f
noncomputable def shpS : PS → Sc → List Stmt → Bool
  | .bad, _, _ => true
  | .skip, _, sts => sts.isEmpty
  | .seq a b, sc, sts => (match sts with
    | [] => false
    | st :: rest => shpS a sc [st] && shpS b sc rest)
  | .asg i e, sc, sts => s1 sts fun st => ob2 (asg1? st) fun t value => ob (xName t) fun x => slotIs sc i x && mdOk e .val && shp e sc [value] && (notComp value || isCell sc i)
  | .asgT is l, sc, sts => s1 sts fun st => ob2 (asg1? st) fun t value => ob (xTuple t) fun ts => ob (xTuple value) fun vs => ob (nms? sc is ts) fun nm => ob (swp sc ts vs) fun r =>
      sle1 is && mdOk l .lst && shp l sc vs && ts.length == vs.length && decide (vs.length ≤ 64) && (r == none || r == some (nm.map (·.2)))
  | .unp is e, sc, sts => s1 sts fun st => ob2 (asg1? st) fun t value => ob (xTuple t) fun ts => ob (nms? sc is ts) fun o0 => notTup value && mdOk e .val && shp e sc [value]
  | .pop is i, sc, sts => s1 sts fun st => ob2 (asg1? st) fun t value => ob (xTuple t) fun ts => ob (nms? sc is ts) fun o0 => ob3 (meth? value) fun x m as => slotIs sc i x && m == "pop" && as.isEmpty && !is.contains i
  | .seti i ix e, sc, sts => s1 sts fun st => ob2 (asg1? st) fun t value => ob2 (xSubscript t) fun n ie => ob (xName n) fun x => slotIs sc i x && mdOk ix .val && shp ix sc [ie] && mdOk e .val && shp e sc [value]
  | .aug i o e, sc, sts => s1 sts fun st => ob3 (sAugAssign st) fun t op value => ob (xName t) fun x => slotIs sc i x && op == bo? o && mdOk e .val && shp e sc [value]
  | .app i e, sc, sts => s1 sts fun st => ob (sExpr st) fun v => ob3 (meth? v) fun x m as => ob (one? as) fun a => slotIs sc i x && m == "append" && notStar a && mdOk e .val && shp e sc [a]
  | .ins i ix e, sc, sts => s1 sts fun st => ob (sExpr st) fun v => ob3 (meth? v) fun x m as => ob2 (two? as) fun a b => slotIs sc i x && m == "insert" && notStar a && notStar b && (mdOk ix .val && shp ix sc [a] && mdOk e .val && shp e sc [b])
  | .exp e, sc, sts => s1 sts fun st => ob (sExpr st) fun value => notComp value && mdOk e .val && shp e sc [value]
  | .ret e, sc, sts => s1 sts fun st => ob (sReturn st) fun v => ob v fun value => mdOk e .val && shp e sc [value]
  | .ife c t e, sc, sts => s1 sts fun st => ob3 (sIf st) fun test body orelse => mdOk c .tst && shp c sc [test] && shpS t sc body && shpS e sc orelse
  | .whl c b, sc, sts => s1 sts fun st => ob3 (sWhile st) fun test body orelse => orelse.isEmpty && mdOk c .tst && shp c sc [test] && shpS b sc body
  | .forr t it b, sc, sts => s1 sts fun st => ob3 (sFor st) fun tg iter r => r.2.isEmpty && ob (tgNames? t tg) fun nm => notSet iter && nm.all (fun p => slotIs sc p.1 p.2) && mdOk it (tgMd t) && shp it sc [iter] && shpS b sc r.1
  | .forI _ _ _, _, _ => false
end Mine.Internal
namespace Mine.Internal
open PySem PySem.W PyProof.Rows
section
variable {prog : Program} {w : World} {A : Around} {hB : Heap} {mg mb : Str → Option Value} {n : Nat} {D : Den} {s : Shared} {X Y Z : Av} {env : Env} {sc : Sc} {ρ : List Slot}
noncomputable abbrev PostS (hB : Heap) (X : Av) (env : Env) (sc : Sc) (s : Shared) (Y : Av) (ρ' : List Slot) : Fl → Flow → Shared → Prop
  | .next, f, s' => f = .next ∧ ∃ Y' Z', Tr X Y s Y' s' ∧ Inv hB X env sc s'.heap Y' Z' ρ'
  | .ret p, f, s' => ∃ v, f = .ret v ∧ ∃ Y', Tr X Y s Y' s' ∧ (∀ b, X b → Y' b) ∧ Rep s'.heap Y' v p
theorem PostS.trans {s1 : Shared} {Y1 : Av} {ρ' : List Slot} {fl : Fl} {f : Flow} {s' : Shared} (t : Tr X Y s Y1 s1) (h : PostS hB X env sc s1 Y1 ρ' fl f s') : PostS hB X env sc s Y ρ' fl f s' := by
  cases fl with
  | next => obtain ⟨e, Y', Z', t', I'⟩ := h; exact ⟨e, Y', Z', t.trans t', I'⟩
  | ret p => obtain ⟨v, e, Y', t', x, r⟩ := h; exact ⟨v, e, Y', t.trans t', x, r⟩
theorem slotIs_get {i : Nat} {x : Str} (h : slotIs sc i x = true) : ∃ b, sc.get i = some (x, b) :=
  ob2_t (o := sc.get i) h fun y b e h => ⟨b, beq_iff_eq.mp h ▸ e⟩
theorem isCell_get {i : Nat} {x : Str} (h : slotIs sc i x = true) (h' : isCell sc i = true) : sc.get i = some (x, true) := by
  obtain ⟨b, e⟩ := slotIs_get h
  unfold isCell at h'
  rw [e] at h'
  rw [e, show b = true from h']
theorem swaps_none {value : Expr} {tg : Option Expr} {ln : Nat} (h : notComp value = true) : swapsWith value tg ln env = pure false := by
  cases value with
  | ListComp | SetComp | DictComp => exact no_ff h
  | _ => rfl
theorem swaps_name {value : Expr} {i : Nat} {x : Str} {p : Pos} {ln : Nat} (O : Ok env sc) (hx : slotIs sc i x = true) (h : (notComp value || isCell sc i) = true) : swapsWith value (some (.Name x p)) ln env = pure false := by
  rcases (Bool.or_eq_true _ _).mp h with hn | hc
  · exact swaps_none hn
  · have hk := (O.cel i x (isCell_get hx hc)).1
    cases value with
    | ListComp | SetComp | DictComp => unfold swapsWith; simp [hk, show (NameKind.cell == NameKind.local) = false by decide]
    | _ => rfl
theorem swaps_sub {value o i : Expr} {p : Pos} {ln : Nat} : swapsWith value (some (.Subscript o i p)) ln env = pure false := by cases value <;> rfl
theorem swaps_tup {value : Expr} {ts : List Expr} {k : Nat} {p : Pos} {ln : Nat} : swapsWithSole [.Tuple ts k p] value ln env = pure false := by cases value <;> rfl
theorem stores_tup {value : Expr} {ts : List Expr} {k : Nat} {p : Pos} (h : notTup value = true) : swappedStores [.Tuple ts k p] value env = pure none := by
  cases value with
  | Tuple => exact no_ff h
  | _ => rfl
theorem not_inter (O : Ok env sc) : interactive env = false := by unfold interactive; rw [O.kind]; rfl
theorem nms_el {P : List Nat → List Expr → List (Nat × Str) → Prop} (h0 : P [] [] []) (hc : ∀ i x p is es r, slotIs sc i x = true → P is es r → P (i :: is) (.Name x p :: es) ((i, x) :: r)) (is : List Nat) : ∀ {es : List Expr} {nm : List (Nat × Str)}, nms? sc is es = some nm → P is es nm := by
  induction is with
  | nil =>
    intro es nm h
    cases es with
    | nil => exact Option.some.inj h ▸ h0
    | cons _ _ => exact no_none h
  | cons i is ih =>
    intro es nm h
    cases es with
    | nil => exact no_none h
    | cons e es => exact bnd h fun x hx h => ite_s h fun hs h => bnd (Option.map_eq_bind.symm.trans h) fun r hr h => Option.some.inj h ▸ xName_el (P := fun e => P _ (e :: es) _) hx fun p => hc i x p is es r hs (ih hr)
theorem nms_ix {is : List Nat} {ts : List Expr} {nm : List (Nat × Str)} (h : nms? sc is ts = some nm) : nm.map (·.1) = is ∧ ts.length = is.length ∧ ∀ p ∈ nm, ∃ b, sc.get p.1 = some (p.2, b) :=
  nms_el (P := fun is ts nm => nm.map (·.1) = is ∧ ts.length = is.length ∧ ∀ p ∈ nm, ∃ b, sc.get p.1 = some (p.2, b)) ⟨rfl, rfl, fun o0 h => absurd h List.not_mem_nil⟩
    (fun i x p is es r hs h => ⟨congrArg (i :: ·) h.1, congrArg (· + 1) h.2.1, fun p hp => (List.mem_cons.mp hp).elim (fun e => e ▸ slotIs_get hs) (h.2.2 p)⟩) is h
theorem assign_names {Q : Shared → Prop} {is : List Nat} {ts : List Expr} {nm : List (Nat × Str)} {vs : List Value} {s : Shared} (h : nms? sc is ts = some nm) (hl : nm.length = vs.length) (k : StoreAll (model prog w) A env (nm.map (·.2)) vs Q s) :
    wpAny (model prog w) A (assignInOrder ((assignEach ts env).map (·.2)) vs) (fun o0 => Q) NoE s := by
  refine nms_el (P := fun o0 ts nm => ∀ (vs : List Value) (s : Shared), nm.length = vs.length → StoreAll (model prog w) A env (nm.map (·.2)) vs Q s → wpAny (model prog w) A (assignInOrder ((assignEach ts env).map (·.2)) vs) (fun o0 => Q) NoE s) ?_ ?_ is h vs s hl k
  · intro vs s hl k
    cases vs with
    | nil => exact wpAny_pure k
    | cons v vs => exact nomatch hl
  · intro i x p is es r _ ih vs s hl k
    cases vs with
    | nil => exact nomatch hl
    | cons v vs =>
      show wpAny (model prog w) A (do holding vs (assign (.Name x p) env v); assignInOrder ((assignEach es env).map (·.2)) vs) _ _ _
      refine wpAny_bind (wpAny_holding (wpAny_assign_Name ?_))
      exact wpAny_mono (show wpAny (model prog w) A (storeName env x v) (fun o0 s' => StoreAll (model prog w) A env (r.map (·.2)) vs Q s') NoE s from k) (fun o0 s' h' => ih vs s' (Nat.succ.inj hl) h') eid
theorem assign_binds {Q : Shared → Prop} : ∀ {xs : List Str} {vs : List Value} {s : Shared}, xs.length = vs.length → StoreAll (model prog w) A env xs vs Q s → wpAny (model prog w) A (assignInOrder (xs.map fun n => bindName env n) vs) (fun o0 => Q) NoE s
  | [], [], s, _, k => wpAny_pure k
  | [], _ :: _, _, h, _ => by simp at h
  | _ :: _, [], _, h, _ => by simp at h
  | x :: xs, v :: vs, s, h, k => by
    show wpAny (model prog w) A (do holding vs (bindName env x v); assignInOrder (xs.map fun n => bindName env n) vs) _ _ _
    refine wpAny_bind (wpAny_holding (wpAny_bindName ?_))
    exact wpAny_mono (show wpAny (model prog w) A (storeName env x v) (fun o0 s' => StoreAll (model prog w) A env xs vs Q s') NoE s from k) (fun o0 s' h' => assign_binds (by simpa using h) h') eid
theorem assignEach_names {is : List Nat} {ts : List Expr} {nm : List (Nat × Str)} (h : nms? sc is ts = some nm) : (assignEach ts env).length = nm.length ∧ (assignEach ts env).findIdx? (·.1) = none :=
  nms_el (P := fun o0 ts nm => (assignEach ts env).length = nm.length ∧ (assignEach ts env).findIdx? (·.1) = none) ⟨rfl, rfl⟩ (fun i x p is es r o0 h => ⟨congrArg (· + 1) h.1, by
    show ((false, assign (.Name x p) env) :: assignEach es env).findIdx? (·.1) = none
    rw [List.findIdx?_cons, h.2]; rfl⟩) is h
theorem pget_len : ∀ (ρ : List Slot) (i : Nat) (sl : Slot), pget (pset ρ i sl) i = if i < ρ.length then sl else .un
  | [], _, _ => rfl
  | _ :: _, 0, _ => by simp [pset_e1, pset_e2, pset_e3, pget_e1, pget_e2, pget_e3]
  | _ :: r, i + 1, sl => by simp [pset_e1, pset_e2, pset_e3, pget_e1, pget_e2, pget_e3, pget_len r i sl]
theorem sle1_cons {i : Nat} {r : List Nat} (h : sle1 (i :: r) = true) : i ∉ r ∧ sle1 r = true := by
  simp only [sle1, Bool.and_eq_true, Bool.not_eq_true'] at h
  exact ⟨fun q => (by have := List.contains_iff_mem.mpr q; rw [h.1] at this; cases this), h.2⟩
theorem sle1_nodup : ∀ {l : List Nat}, sle1 l = true → l.Nodup
  | [], _ => .nil
  | i :: r, h => by
    obtain ⟨h1, h2⟩ := sle1_cons h
    exact List.nodup_cons.mpr ⟨h1, sle1_nodup h2⟩
theorem pget_psets_mem : ∀ (q : List (Nat × Slot)) (ρ : List Slot) (k : Nat) (sl : Slot), (q.map (·.1)).Nodup → (k, sl) ∈ q → pget (psets ρ q) k = if k < ρ.length then sl else .un
  | [], _, _, _, _, h => by cases h
  | (i, s0) :: q, ρ, k, sl, hn, h => by
    obtain ⟨h1, h2⟩ := List.nodup_cons.mp hn
    show pget (psets (pset ρ i s0) q) k = _
    rcases List.mem_cons.mp h with e | h
    · cases e
      rw [pget_psets_ne q _ _ h1, pget_len]
    · rw [pget_psets_mem q _ k sl h2 h, pset_len]
theorem psets_rev (q : List (Nat × Slot)) (ρ : List Slot) (k : Nat) (h : sle1 (q.map (·.1)) = true) : pget (psets ρ q) k = pget (psets ρ q.reverse) k := by
  have hn := sle1_nodup h
  by_cases hm : k ∈ q.map (·.1)
  · obtain ⟨p, hp, rfl⟩ := List.mem_map.mp hm
    rw [pget_psets_mem q ρ p.1 p.2 hn hp, pget_psets_mem q.reverse ρ p.1 p.2 (by rw [List.map_reverse]; exact List.pairwise_reverse.mpr (hn.imp fun h => Ne.symm h)) (List.mem_reverse.mpr hp)]
  · rw [pget_psets_ne q _ _ hm, pget_psets_ne q.reverse _ _ (by rw [List.map_reverse]; exact fun q => hm (List.mem_reverse.mp q))]
end
end Mine.Internal
namespace Mine.Internal
open PySem PySem.W PyProof.Rows
section
variable {sc : Sc} {sts : List Stmt}
theorem shp_asg {i : Nat} {e : PE} (h : shpS (.asg i e) sc sts = true) : ∃ x p value pos, sts = [.Assign [.Name x p] value pos] ∧ slotIs sc i x = true ∧ mdOk e .val = true ∧ shp e sc [value] = true ∧ (notComp value || isCell sc i) = true :=
  ob_t (o := one? sts) h fun st hst h => ob2_t (o := asg1? st) h fun t value ha h => ob_t (o := xName t) h fun x hx h => b4 h fun h1 h2 h3 h4 => by
  obtain ⟨pos, rfl⟩ := asg1_eq ha
  exact xName_el (P := fun t => one? sts = some (.Assign [t] value pos) → _) hx (fun p hst => ⟨x, p, value, pos, one_eq hst, h1, h2, h3, h4⟩) hst
theorem shp_asgT {is : List Nat} {l : PE} (h : shpS (.asgT is l) sc sts = true) : ∃ ts k tp vs k' vp pos nm, sts = [.Assign [.Tuple ts k tp] (.Tuple vs k' vp) pos] ∧ nms? sc is ts = some nm ∧ sle1 is = true ∧ mdOk l .lst = true ∧ shp l sc vs = true ∧ ts.length = vs.length ∧ vs.length ≤ 64 ∧
    (swp sc ts vs = some none ∨ swp sc ts vs = some (some (nm.map (·.2)))) :=
  ob_t (o := one? sts) h fun st hst h => ob2_t (o := asg1? st) h fun t value ha h => ob_t (o := xTuple t) h fun ts ht h => ob_t (o := xTuple value) h fun vs hv h => ob_t (o := nms? sc is ts) h fun nm hn h => ob_t (o := swp sc ts vs) h fun r hr h => b6 h fun h1 h2 h3 h4 h5 h6 => by
  obtain ⟨pos, rfl⟩ := asg1_eq ha
  obtain ⟨k, tp, rfl⟩ := isTup_eq ht
  obtain ⟨k', vp, rfl⟩ := isTup_eq hv
  exact ⟨ts, k, tp, vs, k', vp, pos, nm, one_eq hst, hn, h1, h2, h3, beq_iff_eq.mp h4, of_decide_eq_true h5, ((Bool.or_eq_true _ _).mp h6).imp (fun q => hr.trans (congrArg some (beq_iff_eq.mp q))) (fun q => hr.trans (congrArg some (beq_iff_eq.mp q)))⟩
theorem shp_unp {is : List Nat} {e : PE} (h : shpS (.unp is e) sc sts = true) : ∃ ts k tp value pos nm, sts = [.Assign [.Tuple ts k tp] value pos] ∧ nms? sc is ts = some nm ∧ notTup value = true ∧ mdOk e .val = true ∧ shp e sc [value] = true :=
  ob_t (o := one? sts) h fun st hst h => ob2_t (o := asg1? st) h fun t value ha h => ob_t (o := xTuple t) h fun ts ht h => ob_t (o := nms? sc is ts) h fun nm hn h => b3 h fun h1 h2 h3 => by
  obtain ⟨pos, rfl⟩ := asg1_eq ha
  obtain ⟨k, tp, rfl⟩ := isTup_eq ht
  exact ⟨ts, k, tp, value, pos, nm, one_eq hst, hn, h1, h2, h3⟩
theorem shp_pop {is : List Nat} {i : Nat} (h : shpS (.pop is i) sc sts = true) : ∃ ts k tp x p ap cp pos nm, sts = [.Assign [.Tuple ts k tp] (.Call (.Attribute (.Name x p) "pop" ap) [] [] cp) pos] ∧ nms? sc is ts = some nm ∧ slotIs sc i x = true ∧ (ap.endLine == cp.line) = true ∧ i ∉ is :=
  ob_t (o := one? sts) h fun st hst h => ob2_t (o := asg1? st) h fun t value ha h => ob_t (o := xTuple t) h fun ts ht h => ob_t (o := nms? sc is ts) h fun nm hn h => ob3_t (o := meth? value) h fun x m as hm h => b4 h fun h1 h2 h3 h4 => by
  obtain ⟨pos, rfl⟩ := asg1_eq ha
  obtain ⟨k, tp, rfl⟩ := isTup_eq ht
  obtain ⟨p, ap, cp, rfl, hl⟩ := meth_eq hm
  cases beq_iff_eq.mp h2; cases List.isEmpty_iff.mp h3
  exact ⟨ts, k, tp, x, p, ap, cp, pos, nm, one_eq hst, hn, h1, hl, fun q => by rw [List.contains_iff_mem.mpr q] at h4; exact no_ff h4⟩
theorem shp_seti {i : Nat} {ix e : PE} (h : shpS (.seti i ix e) sc sts = true) : ∃ x p ie sp value pos, sts = [.Assign [.Subscript (.Name x p) ie sp] value pos] ∧ slotIs sc i x = true ∧ mdOk ix .val = true ∧ shp ix sc [ie] = true ∧ mdOk e .val = true ∧ shp e sc [value] = true :=
  ob_t (o := one? sts) h fun st hst h => ob2_t (o := asg1? st) h fun t value ha h => ob2_t (o := xSubscript t) h fun n ie ht h => ob_t (o := xName n) h fun x hx h => b5 h fun h1 h2 h3 h4 h5 => by
  obtain ⟨pos, rfl⟩ := asg1_eq ha
  obtain ⟨sp, rfl⟩ := isSub_eq ht
  obtain ⟨p, rfl⟩ := isName_eq hx
  exact ⟨x, p, ie, sp, value, pos, one_eq hst, h1, h2, h3, h4, h5⟩
theorem shp_aug {i : Nat} {o : BO} {e : PE} (h : shpS (.aug i o e) sc sts = true) : ∃ x p value pos, sts = [.AugAssign (.Name x p) (bo? o) value pos] ∧ slotIs sc i x = true ∧ mdOk e .val = true ∧ shp e sc [value] = true :=
  ob_t (o := one? sts) h fun st hst h => ob3_t (o := sAugAssign st) h fun t op value ha h => ob_t (o := xName t) h fun x hx h => b4 h fun h1 h2 h3 h4 => by
  obtain ⟨p, rfl⟩ := isName_eq hx
  cases beq_iff_eq.mp h2
  exact sAugAssign_el (P := fun st => one? sts = some st → _) ha (fun pos hst => ⟨x, p, value, pos, one_eq hst, h1, h3, h4⟩) hst
theorem shp_app {i : Nat} {e : PE} (h : shpS (.app i e) sc sts = true) : ∃ x p ap a cp pos, sts = [.Expr (.Call (.Attribute (.Name x p) "append" ap) [a] [] cp) pos] ∧ slotIs sc i x = true ∧ (ap.endLine == cp.line) = true ∧ notStar a = true ∧ mdOk e .val = true ∧ shp e sc [a] = true :=
  ob_t (o := one? sts) h fun st hst h => ob_t (o := sExpr st) h fun v hv h => ob3_t (o := meth? v) h fun x m as hm h => ob_t (o := one? as) h fun a ha h => b5 h fun h1 h2 h3 h4 h5 => by
  obtain ⟨p, ap, cp, rfl, hl⟩ := meth_eq hm
  cases beq_iff_eq.mp h2; cases one_eq ha
  exact sExpr_el (P := fun st => one? sts = some st → _) hv (fun pos hst => ⟨x, p, ap, a, cp, pos, one_eq hst, h1, hl, h3, h4, h5⟩) hst
theorem shp_ins {i : Nat} {ix e : PE} (h : shpS (.ins i ix e) sc sts = true) : ∃ x p ap a b cp pos, sts = [.Expr (.Call (.Attribute (.Name x p) "insert" ap) [a, b] [] cp) pos] ∧ slotIs sc i x = true ∧ (ap.endLine == cp.line) = true ∧ notStar a = true ∧ notStar b = true ∧
    mdOk ix .val = true ∧ shp ix sc [a] = true ∧ mdOk e .val = true ∧ shp e sc [b] = true :=
  ob_t (o := one? sts) h fun st hst h => ob_t (o := sExpr st) h fun v hv h => ob3_t (o := meth? v) h fun x m as hm h => ob2_t (o := two? as) h fun a b ha h => b5 h fun h1 h2 h3 h4 h5 => b4 h5 fun g1 g2 g3 g4 => by
  obtain ⟨p, ap, cp, rfl, hl⟩ := meth_eq hm
  cases beq_iff_eq.mp h2; cases two_eq ha
  exact sExpr_el (P := fun st => one? sts = some st → _) hv (fun pos hst => ⟨x, p, ap, a, b, cp, pos, one_eq hst, h1, hl, h3, h4, g1, g2, g3, g4⟩) hst
theorem shp_exp {e : PE} (h : shpS (.exp e) sc sts = true) : ∃ value pos, sts = [.Expr value pos] ∧ notComp value = true ∧ mdOk e .val = true ∧ shp e sc [value] = true :=
  ob_t (o := one? sts) h fun st hst h => ob_t (o := sExpr st) h fun v hv h => b3 h fun h1 h2 h3 =>
  sExpr_el (P := fun st => one? sts = some st → _) hv (fun pos hst => ⟨v, pos, one_eq hst, h1, h2, h3⟩) hst
theorem shp_ret {e : PE} (h : shpS (.ret e) sc sts = true) : ∃ value pos, sts = [.Return (some value) pos] ∧ mdOk e .val = true ∧ shp e sc [value] = true :=
  ob_t (o := one? sts) h fun st hst h => ob_t (o := sReturn st) h fun v hv h => ob_t (o := v) h fun value he h => b2 h fun h1 h2 => by
  cases he
  exact sReturn_el (P := fun st => one? sts = some st → _) hv (fun pos hst => ⟨value, pos, one_eq hst, h1, h2⟩) hst
theorem shp_ife {c : PE} {t e : PS} (h : shpS (.ife c t e) sc sts = true) : ∃ test body orelse pos, sts = [.If test body orelse pos] ∧ mdOk c .tst = true ∧ shp c sc [test] = true ∧ shpS t sc body = true ∧ shpS e sc orelse = true :=
  ob_t (o := one? sts) h fun st hst h => ob3_t (o := sIf st) h fun test body orelse hv h => b4 h fun h1 h2 h3 h4 =>
  sIf_el (P := fun st => one? sts = some st → _) hv (fun pos hst => ⟨test, body, orelse, pos, one_eq hst, h1, h2, h3, h4⟩) hst
theorem shp_whl {c : PE} {b : PS} (h : shpS (.whl c b) sc sts = true) : ∃ test body pos, sts = [.While test body [] pos] ∧ mdOk c .tst = true ∧ shp c sc [test] = true ∧ shpS b sc body = true :=
  ob_t (o := one? sts) h fun st hst h => ob3_t (o := sWhile st) h fun test body orelse hv h => b4 h fun h0 h1 h2 h3 => by
  cases List.isEmpty_iff.mp h0
  exact sWhile_el (P := fun st => one? sts = some st → _) hv (fun pos hst => ⟨test, body, pos, one_eq hst, h1, h2, h3⟩) hst
theorem shp_forr {t : Tg} {it : PE} {b : PS} (h : shpS (.forr t it b) sc sts = true) : ∃ tg iter body pos nm, sts = [.For tg iter body [] pos] ∧ tgNames? t tg = some nm ∧ notSet iter = true ∧ (∀ p ∈ nm, slotIs sc p.1 p.2 = true) ∧ mdOk it (tgMd t) = true ∧ shp it sc [iter] = true ∧ shpS b sc body = true :=
  ob_t (o := one? sts) h fun st hst h => ob3_t (o := sFor st) h fun tg iter ⟨body, orelse⟩ hv h => b2 h fun h0 h => ob_t (o := tgNames? t tg) h fun nm hn h => b5 h fun h1 h2 h3 h4 h5 => by
  cases List.isEmpty_iff.mp h0
  exact sFor_el (P := fun st => one? sts = some st → _) hv (fun pos hst => ⟨tg, iter, body, pos, nm, one_eq hst, hn, h1, List.all_eq_true.mp h2, h3, h4, h5⟩) hst
end
section
variable {prog : Program} {w : World} {A : Around} {hB : Heap} {mg mb : Str → Option Value} {n : Nat} {D : Den} {s : Shared} {X Y Z : Av} {env : Env} {sc : Sc} {ρ : List Slot}
variable (prog w A hB) in
noncomputable abbrev MS (ρ : List Slot) (p : PS) (fl : Fl) (ρ' : List Slot) : Prop := ∀ sc env X Y Z s sts, Ok env sc → Mine' X env sc → Inv hB X env sc s.heap Y Z ρ → shpS p sc sts = true → wpAny (model prog w) A (execs sts env) (PostS hB X env sc s Y ρ' fl) NoE s
theorem post_store {i : Nat} {x : Str} {v : Value} {sl : Slot} {s1 : Shared} {Y1 : Av} (O : Ok env sc) (Mi : Mine' X env sc) (t : Tr X Y s Y1 s1) (I : Inv hB X env sc s1.heap Y1 Z ρ) (hx : slotIs sc i x = true) (hnew : New s1.heap X Y1 Z v sl) :
    wpAny (model prog w) A (storeName env x v) (fun o0 => PostS hB X env sc s Y (pset ρ i sl) .next .next) NoE s1 := by
  obtain ⟨b, hb⟩ := slotIs_get hx
  exact wpAny_mono (store_ok O (Mi.get hb) I hb hnew) (fun o0 s' h => ⟨rfl, _, _, t.trans h.1, h.2.2⟩) eid
theorem own_new {s' : Shared} {l : List PV} {v : Value} (I : Inv hB X env sc s.heap Y Z ρ) (h : Fresh s Y l v s') :
    ∃ Y', Tr X Y s Y' s' ∧ Inv hB X env sc s'.heap Y' Z ρ ∧ New s'.heap X Y' Z v (.own l) := by
  obtain ⟨k, h1, g1, g2, a, vs, m, rfl, fr, e, hl, r⟩ := h
  have nil1 : ∀ o, s.heap.get? a ≠ some o := fun o e => by rw [g1 _ _ e] at fr; cases fr
  have na : ∀ b o, s.heap.get? b = some o → b ≠ a := fun b o e q => nil1 o (q ▸ e)
  have I1 : Inv hB X env sc s'.heap (fun b => Y b ∨ b = a) Z ρ := by
    refine I.addY (fun b => b = a) (fun b hb => ?_) (Keeps.heap' k) (fun b hb => by rw [hb]; exact ⟨_, e⟩)
    rw [hb]; cases e : s.heap.get? a with
    | none => rfl
    | some o => exact absurd e (nil1 o)
  obtain ⟨hh, tk, rfl, kk⟩ := k
  refine ⟨_, ⟨⟨hh, tk, rfl⟩, fun b o e => ⟨fun o0 => kk b o e, fun y => ⟨kk b o e, fun q => q.elim y (na b o e)⟩⟩⟩, I1, a, rfl, ⟨.inr rfl, fun q => ?_, vs, m, e, hl, r.mono fun b o e y => ⟨g2 b o e, fun q => q.elim y fun q => ?_⟩⟩, fun q => ?_⟩
  · obtain ⟨o, e⟩ := I.old a (I.sub a q); exact nil1 o e
  · obtain ⟨o, e⟩ := I.old a (I.zY a q); exact nil1 o e
  · rw [q, fr] at e; cases e
variable (B : Bg prog w A hB mg mb n D)
include B
theorem ms_asg {i : Nat} {e : PE} {v : PV} (h : pev D ρ e = some v) : MS prog w A hB ρ (.asg i e) .next (pset ρ i (.val v)) := by
  intro sc env X Y Z s sts O Mi I hs
  obtain ⟨x, p, value, pos, rfl, hx, m1, t1, hc⟩ := shp_asg hs
  rw [exec_one]
  refine wpAny_Assign_Name (wpAny_mono ((snd_all B e).e _ _ _ _ _ _ _ _ _ O I m1 t1 h) (fun v1 s1 h1 => ?_) eid) (swaps_name O hx hc)
  exact post_store O Mi (Tr.of_keeps h1.1) (I.keeps (Keeps.heap' h1.1)) hx h1.2
theorem ms_asgO {i : Nat} {e : PE} {l : List PV} (hf : isFresh e = true) (h : pev D ρ e = some (.lst l)) : MS prog w A hB ρ (.asg i e) .next (pset ρ i (.own l)) := by
  intro sc env X Y Z s sts O Mi I hs
  obtain ⟨x, p, value, pos, rfl, hx, m1, t1, hc⟩ := shp_asg hs
  rw [exec_one]
  refine wpAny_Assign_Name (wpAny_mono (fresh_ok B O I hf t1 h) (fun v1 s1 h1 => ?_) eid) (swaps_name O hx hc)
  obtain ⟨Y', t, I', hn⟩ := own_new I h1
  exact post_store O Mi t I' hx hn
theorem ms_exp {e : PE} (h : pev D ρ e = some .none) : MS prog w A hB ρ (.exp e) .next ρ := by
  intro sc env X Y Z s sts O Mi I hs
  obtain ⟨value, pos, rfl, hc, m1, t1⟩ := shp_exp hs
  rw [exec_one]
  refine wpAny_Expr (wpAny_mono ((snd_all B e).e _ _ _ _ _ _ _ _ _ O I m1 t1 h) (fun v1 s1 h1 => ?_) eid) (not_inter O) (swaps_none hc)
  cases h1.2.isNone
  exact ⟨rfl, Y, Z, Tr.of_keeps h1.1, I.keeps (Keeps.heap' h1.1)⟩
theorem ms_ret {e : PE} {v : PV} (h : pev D ρ e = some v) : MS prog w A hB ρ (.ret e) (.ret v) ρ := by
  intro sc env X Y Z s sts O Mi I hs
  obtain ⟨value, pos, rfl, m1, t1⟩ := shp_ret hs
  rw [exec_one]
  refine wpAny_Return_some (wpAny_mono ((snd_all B e).e _ _ _ _ _ _ _ _ _ O I m1 t1 h) (fun v1 s1 h1 => ?_) eid)
  exact ⟨v1, rfl, Y, Tr.of_keeps h1.1, I.sub, h1.2⟩
theorem ms_aug {i : Nat} {o : BO} {e : PE} {a b r : Int} (hi : pget ρ i = .val (.int a)) (h : pev D ρ e = some (.int b)) (ho : augOk o = true) (hr : bop o (.int a) (.int b) = some (.int r)) : MS prog w A hB ρ (.aug i o e) .next (pset ρ i (.val (.int r))) := by
  intro sc env X Y Z s sts O Mi I hs
  obtain ⟨x, p, value, pos, rfl, hx, m1, t1⟩ := shp_aug hs
  rw [exec_one]
  obtain ⟨bb, hb⟩ := slotIs_get hx
  refine wpAny_AugAssign_Name ?_
  have ld : wpAny (model prog w) A (loadName env x) (Gd s Y (.int a)) NoE s := by
    obtain ⟨m, vm, ad, hn, hm, hc, hso, _⟩ := I.st
    have := hso i
    rw [hi] at this
    obtain ⟨v, hv, hr⟩ := this
    cases bb with
    | false => exact wpAny_loadName_local O.kind (O.loc i x hb).1 hn ((hm i x hb).trans hv) ⟨keeps_refl _, hr⟩
    | true =>
      obtain ⟨hk, hd, c, hl⟩ := O.cel i x hb
      exact wpAny_loadName_cell O.kind hk hl (hv ▸ hc i x c hb hl) ⟨keeps_refl _, hr⟩
  refine wpAny_mono ld (fun v1 s1 h1 => ?_) eid
  have I1 := I.keeps (Keeps.heap' h1.1)
  refine wpAny_mono ((snd_all B e).e _ _ _ _ _ _ _ _ _ O I1 m1 t1 h) (fun v2 s2 h2 => ?_) eid
  have I2 := I1.keeps (Keeps.heap' h2.1)
  refine Rep.int_el h1.2 fun t => ?_
  obtain ⟨t', rfl⟩ := h2.2.isInt
  have fin : ∀ tk, wpAny (model prog w) A (storeName env x (.int r tk)) (fun o0 => PostS hB X env sc s Y (pset ρ i (.val (.int r))) .next .next) NoE { s2 with toks := s2.toks + 1 } := fun tk =>
    post_store O Mi (Tr.of_keeps (keeps_trans (keeps_trans h1.1 h2.1) (keeps_tok _ _))) I2 hx (.int _ _)
  cases o with
  | add => cases hr; exact iadd_int (fin _)
  | sub => cases hr; exact isub_int (fin _)
  | _ => cases ho
end
end Mine.Internal
namespace Mine.Internal
open PySem PySem.W PyProof.Rows
theorem zip3 : ∀ (nm : List (Nat × Str)) (vs : List Value) (ss : List Slot), nm.length = vs.length → vs.length = ss.length → (nm.zip (vs.zip ss)).map (fun p => (p.1.1, p.2.2)) = (nm.map (·.1)).zip ss
  | [], [], [], _, _ => rfl
  | _ :: nm, _ :: vs, _ :: ss, h, h' => by simp [zip3 nm vs ss (by simpa using h) (by simpa using h')]
  | [], _ :: _, _, h, _ => by simp at h
  | _ :: _, [], _, h, _ => by simp at h
  | _, _ :: _, [], _, h => by simp at h
  | _, [], _ :: _, _, h => by simp at h
theorem zip3n : ∀ (nm : List (Nat × Str)) (vs : List Value) (ss : List Slot), nm.length = vs.length → vs.length = ss.length → (nm.zip (vs.zip ss)).map (·.1.2) = nm.map (·.2) ∧ (nm.zip (vs.zip ss)).map (·.2.1) = vs ∧ (nm.zip (vs.zip ss)).map (·.2) = vs.zip ss
  | [], [], [], _, _ => ⟨rfl, rfl, rfl⟩
  | _ :: nm, _ :: vs, _ :: ss, h, h' => by
    obtain ⟨h1, h2, h3⟩ := zip3n nm vs ss (by simpa using h) (by simpa using h')
    exact ⟨by simp [h1], by simp [h2], by simp [h3]⟩
  | [], _ :: _, _, h, _ => by simp at h
  | _ :: _, [], _, h, _ => by simp at h
  | _, _ :: _, [], _, h => by simp at h
  | _, [], _ :: _, _, h => by simp at h
section
variable {prog : Program} {w : World} {A : Around} {hB : Heap} {mg mb : Str → Option Value} {n : Nat} {D : Den} {s : Shared} {X Y Z : Av} {env : Env} {sc : Sc} {ρ : List Slot}
theorem New.keeps {h h' : Heap} (k : KeepsH h h') {v : Value} {sl : Slot} (x : New h X Y Z v sl) : New h' X Y Z v sl := by
  cases sl with
  | un => exact x
  | val p => exact Rep.keeps k x
  | own l => obtain ⟨a, e, o, z⟩ := x; exact ⟨a, e, o.keeps k, z⟩
theorem NewL.keeps {h h' : Heap} (k : KeepsH h h') {q : List (Value × Slot)} (x : NewL h X Y Z q) : NewL h' X Y Z q := ⟨fun p hp => (x.1 p hp).keeps k, x.2⟩
theorem NewL.rev {h : Heap} {q : List (Value × Slot)} (x : NewL h X Y Z q) : NewL h X Y Z q.reverse :=
  ⟨fun p hp => x.1 p (List.mem_reverse.mp hp), List.pairwise_reverse.mpr (x.2.imp fun h a b => (h b a).symm)⟩
theorem NewL.vals {h : Heap} {vs : List Value} {ps : List PV} (r : RepL h Y vs ps) : NewL h X Y Z (vs.zip (ps.map Slot.val)) := by
  refine r.ind (P := fun vs ps => NewL h X Y Z (vs.zip (ps.map Slot.val))) ⟨fun o0 h => by simp at h, .nil⟩ fun v p vs l r _ ih => ?_
  obtain ⟨h1, h2⟩ := ih
  refine ⟨fun p hp => ?_, List.pairwise_cons.mpr ⟨fun p hp ho => (by obtain ⟨l, e⟩ := ho; cases e), h2⟩⟩
  rcases List.mem_cons.mp hp with rfl | hp
  · exact r
  · exact h1 p hp
theorem Tr.of_same {s1 : Shared} {h' : Heap} {a : Addr} {tk : Nat} (k : Keeps s s1) (hs : Heap.SameBut a s1.heap h') (ya : Y a) (xa : ¬ X a) : Tr X Y s Y { s1 with heap := h', toks := tk } := by
  obtain ⟨hh, tt, rfl, kk⟩ := k
  exact ⟨⟨h', tk, rfl⟩, fun b o e => ⟨fun x => (hs.2 b (by rintro rfl; exact xa x)).trans (kk b o e), fun y => ⟨(hs.2 b (by rintro rfl; exact y ya)).trans (kk b o e), y⟩⟩⟩
theorem stores_fwd {nm : List (Nat × Str)} {vs : List Value} {ss : List Slot} {is : List Nat} {s1 : Shared} {Y1 : Av} {Q : Shared → Prop} (O : Ok env sc) (Mi : Mine' X env sc) (t : Tr X Y s Y1 s1) (I : Inv hB X env sc s1.heap Y1 Z ρ)
    (N : NewL s1.heap X Y1 Z (vs.zip ss)) (h1 : nm.map (·.1) = is) (hn : ∀ p ∈ nm, ∃ b, sc.get p.1 = some (p.2, b)) (l1 : nm.length = vs.length) (l2 : vs.length = ss.length)
    (k : ∀ s', PostS hB X env sc s Y (psets ρ (is.zip ss)) .next .next s' → Q s') : StoreAll (model prog w) A env (nm.map (·.2)) vs Q s1 := by
  obtain ⟨e1, e2, e3⟩ := zip3n nm vs ss l1 l2
  have e4 := zip3 nm vs ss l1 l2
  refine (show StoreAll (model prog w) A env ((nm.zip (vs.zip ss)).map (·.1.2)) ((nm.zip (vs.zip ss)).map (·.2.1)) Q s1 → StoreAll (model prog w) A env (nm.map (·.2)) vs Q s1 from fun h => by rw [e1, e2] at h; exact h) ?_
  refine stores_mix O Mi _ s1 ρ Z I (by rw [e3]; exact N) (fun p hp => hn _ (List.of_mem_zip hp).1) fun s' Z' t' I' => k s' ⟨rfl, Y1, Z', t.trans t', ?_⟩
  rw [e4, h1] at I'; exact I'
theorem stores_bwd {nm : List (Nat × Str)} {vs : List Value} {ss : List Slot} {is : List Nat} {s1 : Shared} {Y1 : Av} {Q : Shared → Prop} (O : Ok env sc) (Mi : Mine' X env sc) (t : Tr X Y s Y1 s1) (I : Inv hB X env sc s1.heap Y1 Z ρ)
    (N : NewL s1.heap X Y1 Z (vs.zip ss)) (h1 : nm.map (·.1) = is) (hd : sle1 is = true) (hn : ∀ p ∈ nm, ∃ b, sc.get p.1 = some (p.2, b)) (l1 : nm.length = vs.length) (l2 : vs.length = ss.length)
    (k : ∀ s', PostS hB X env sc s Y (psets ρ (is.zip ss)) .next .next s' → Q s') : StoreAll (model prog w) A env (nm.map (·.2)).reverse vs.reverse Q s1 := by
  obtain ⟨e1, e2, e3⟩ := zip3n nm vs ss l1 l2
  have e4 := zip3 nm vs ss l1 l2
  have key : StoreAll (model prog w) A env ((nm.zip (vs.zip ss)).reverse.map (·.1.2)) ((nm.zip (vs.zip ss)).reverse.map (·.2.1)) Q s1 := by
    refine stores_mix O Mi _ s1 ρ Z I (by rw [List.map_reverse, e3]; exact N.rev) (fun p hp => hn _ (List.of_mem_zip (List.mem_reverse.mp hp)).1) fun s' Z' t' I' => k s' ⟨rfl, Y1, Z', t.trans t', ?_⟩
    rw [List.map_reverse, e4, h1] at I'
    refine I'.forget fun k => .inl (psets_rev _ _ _ ?_)
    rw [List.map_fst_zip]
    · exact hd
    · rw [← h1, List.length_map, l1, l2]; exact Nat.le_refl _
  rw [List.map_reverse, List.map_reverse, e1, e2] at key
  exact key
variable (B : Bg prog w A hB mg mb n D)
include B
theorem ms_asgT {is : List Nat} {e : PE} {ss : List Slot} {fs : List Bool} (h : pevs D ρ fs e = some ss) (hl : is.length = ss.length) : MS prog w A hB ρ (.asgT is e) .next (psets ρ (is.zip ss)) := by
  intro sc env X Y Z s sts O Mi I hs
  obtain ⟨ts, k, tp, vs, k', vp, pos, nm, rfl, hnm, hd, m1, t1, hlen, h64, hsw⟩ := shp_asgT hs
  obtain ⟨g1, g2, g3⟩ := nms_ix hnm
  rw [exec_one]
  have ev : ∀ {Q : Value → Shared → Prop}, (∀ (us : List Value) (T : Addr) (s1 : Shared) (Y1 : Av), us.length = ss.length → nm.length = us.length → IsTup s1.heap T us.toArray → Tr X Y s Y1 s1 → Inv hB X env sc s1.heap Y1 Z ρ → NewL s1.heap X Y1 Z (us.zip ss) → Q (.ref T) s1) →
      wpAny (model prog w) A (eval (.Tuple vs k' vp) env) Q NoE s := fun {Q} kk => by
    refine wpAny_Tuple (wpAny_mono (chain_ok B e fs vs ss s Y Z vp O I I.zY m1 t1 h) (fun us s1 h1 => ?_) eid)
    obtain ⟨k1, q1, q2, Y1, y1, y2, I1, y3, N1⟩ := h1
    have kp : KeepsH s1.heap (s1.heap.push { cls := .type "tuple", data := .seq us.toArray }) := fun o0 o0 e => Heap.get?_push_of_some _ e
    refine ⟨by rw [q1]; simp only [sizeLine]; lia, kk us _ _ Y1 q2 ?_ ⟨_, Heap.get?_push_size _ rfl, rfl, 0, rfl⟩ ?_ (I1.keeps kp) (N1.keeps kp)⟩
    · have := congrArg List.length g1
      rw [List.length_map] at this
      rw [this, q2, hl]
    · obtain ⟨hh, tk, rfl, kk'⟩ := k1
      exact ⟨⟨_, _, rfl⟩, fun b o e => ⟨fun o0 => kp b o (kk' b o e), fun y => ⟨kp b o (kk' b o e), y2 b o e y⟩⟩⟩
  rcases hsw with hsw | hsw
  · refine Assign_Tuple (ev fun us T s1 Y1 q2 q3 hT t I1 N1 => ?_) swaps_tup (swp_eq O hsw)
    obtain ⟨a1, a2⟩ := assignEach_names (env := env) hnm
    refine assign_Tuple_tuple B.R.hd hT (by rw [a1, q3]; simp) a2 fun h' hx => ?_
    have kx : KeepsH s1.heap h' := fun b o e => hx b o (Nat.ne_of_lt (Heap.lt_size e)) e
    refine assign_names hnm q3 (stores_fwd (s1 := { s1 with heap := h' }) O Mi (t.trans (Tr.of_keeps ⟨h', s1.toks, rfl, kx⟩)) (I1.keeps kx) (N1.keeps kx) g1 g3 q3 q2 fun s' h => h)
  · refine Assign_Tuple_swapped (ev fun us T s1 Y1 q2 q3 hT t I1 N1 => ?_) swaps_tup (swp_eq O hsw)
    rw [show (nm.map (·.2)).length = us.toArray.size by simp [q3]]
    refine unpackItems_tuple B.R.hd hT fun h' hx => ?_
    have kx : KeepsH s1.heap h' := fun b o e => hx b o (Nat.ne_of_lt (Heap.lt_size e)) e
    refine assign_binds (by simp [q3]) (stores_bwd (s1 := { s1 with heap := h' }) O Mi (t.trans (Tr.of_keeps ⟨h', s1.toks, rfl, kx⟩)) (I1.keeps kx) (N1.keeps kx) g1 hd g3 q3 q2 fun s' h => h)
theorem ms_unp {is : List Nat} {e : PE} {l : List PV} (h : pev D ρ e = some (.tup l)) (hl : is.length = l.length) : MS prog w A hB ρ (.unp is e) .next (psets ρ (is.zip (l.map .val))) := by
  intro sc env X Y Z s sts O Mi I hs
  obtain ⟨ts, k, tp, value, pos, nm, rfl, hnm, hnt, m1, t1⟩ := shp_unp hs
  obtain ⟨g1, g2, g3⟩ := nms_ix hnm
  rw [exec_one]
  refine Assign_Tuple (wpAny_mono ((snd_all B e).e _ _ _ _ _ _ _ _ _ O I m1 t1 h) (fun v1 s1 h1 => ?_) eid) swaps_tup (stores_tup hnt)
  have I1 := I.keeps (Keeps.heap' h1.1)
  refine Rep.tup_el h1.2 fun T us hT o0 hL r => ?_
  obtain ⟨a1, a2⟩ := assignEach_names (env := env) hnm
  have q3 : nm.length = us.length := by
    have := congrArg List.length g1
    rw [List.length_map] at this
    rw [this, hl, r.length]
  refine assign_Tuple_tuple B.R.hd hT (by rw [a1, q3]; simp) a2 fun h' hx => ?_
  have kx : KeepsH s1.heap h' := fun b o e => hx b o (Nat.ne_of_lt (Heap.lt_size e)) e
  exact assign_names hnm q3 (stores_fwd (s1 := { s1 with heap := h' }) O Mi ((Tr.of_keeps h1.1).trans (Tr.of_keeps ⟨h', s1.toks, rfl, kx⟩)) (I1.keeps kx) (NewL.vals (r.keeps kx)) g1 g3 q3 (by simpa using r.length) fun s' h => h)
theorem ms_pop {is : List Nat} {i : Nat} {l t : List PV} (h : pget ρ i = .own (l ++ [.tup t])) (hl : is.length = t.length) : MS prog w A hB ρ (.pop is i) .next (psets (pset ρ i (.own l)) (is.zip (t.map .val))) := by
  intro sc env X Y Z s sts O Mi I hs
  obtain ⟨ts, k, tp, x, p, ap, cp, pos, nm, rfl, hnm, hx, hln, hni⟩ := shp_pop hs
  obtain ⟨g1, g2, g3⟩ := nms_ix hnm
  obtain ⟨b, hb⟩ := slotIs_get hx
  rw [exec_one]
  obtain ⟨a, ⟨ya, xa, vs, m, e1, e2, e3⟩, _, hld, hch⟩ := own_at (prog := prog) (w := w) (A := A) O I h
  have hvs : ∃ v0 v1, vs = v0 ++ [v1] ∧ RepL s.heap Y v0 l ∧ Rep s.heap Y v1 (.tup t) := by
    have hlen := e3.length
    refine ⟨vs.take l.length, vs[l.length]'(by rw [hlen]; simp), ?_, ?_, ?_⟩
    · rw [← List.take_succ_eq_append_getElem, List.take_of_length_le]
      rw [hlen]; simp
    · have := e3.take l.length
      simpa using this
    · obtain ⟨v, hv, hr⟩ := e3.get l.length (.tup t) (by simp)
      obtain ⟨_, e⟩ := List.getElem?_eq_some_iff.mp hv
      rw [e]; exact hr
  obtain ⟨v0, v1, rfl, r0, r1⟩ := hvs
  refine Assign_Tuple (meth_ PySem.F.slot_list_pop PySem.F.type_list_pop rfl (by decide) hln (wpAny_mono (hld x b p s hb eid) (fun v' s' h' => ?_) eid)) swaps_tup rfl
  obtain ⟨rfl, rfl⟩ := h'
  refine ⟨⟨a, _, m, rfl, e1⟩, Calls.callWith_builtin rfl (PyProof.Rows.evalArgs_none (pop_at e1 (LL_line e2) fun h' n' hs' he' => ?_))⟩
  have hL0 : v0.length ≤ LL := by simp at e2; lia
  have I1 := hch s'.heap h' l v0 n' (eid) hs' he' hL0 r0
  have r1' : Rep h' Y v1 (.tup t) := r1.mono fun b o e y => ⟨(hs'.2 b (by rintro rfl; exact y ya)).trans e, y⟩
  refine Rep.tup_el r1' fun T us hT o0 hL r => ?_
  obtain ⟨a1, a2⟩ := assignEach_names (env := env) hnm
  have q3 : nm.length = us.length := by
    have := congrArg List.length g1
    rw [List.length_map] at this
    rw [this, hl, r.length]
  refine assign_Tuple_tuple (s := { s' with heap := h' }) B.R.hd hT (by rw [a1, q3]; simp) a2 fun h2 hx2 => ?_
  have kx : KeepsH h' h2 := fun b o e => hx2 b o (Nat.ne_of_lt (Heap.lt_size e)) e
  exact assign_names hnm q3 (stores_fwd (s1 := { s' with heap := h2 }) O Mi ((Tr.of_same (tk := s'.toks) (keeps_refl s') hs' ya xa).trans (Tr.of_keeps ⟨h2, s'.toks, rfl, kx⟩)) (I1.keeps kx) (NewL.vals (r.keeps kx)) g1 g3 q3 (by simpa using r.length) fun s' h => h)
theorem ms_seti {i : Nat} {ix e : PE} {v : PV} {k : Int} {l : List PV} (he : pev D ρ e = some v) (h : pget ρ i = .own l) (hix : pev D ρ ix = some (.int k)) (h0 : 0 ≤ k) (hk : k.toNat < l.length) :
    MS prog w A hB ρ (.seti i ix e) .next (pset ρ i (.own (l.set k.toNat v))) := by
  intro sc env X Y Z s sts O Mi I hs
  obtain ⟨x, p, ie, sp, value, pos, rfl, hx, m1, t1, m2, t2⟩ := shp_seti hs
  obtain ⟨b, hb⟩ := slotIs_get hx
  rw [exec_one]
  obtain ⟨a, ⟨ya, xa, vs, m, e1, e2, e3⟩, _, hld, hch⟩ := own_at (prog := prog) (w := w) (A := A) O I h
  refine wpAny_Assign_Subscript (wpAny_mono ((snd_all B e).e _ _ _ _ _ _ _ _ _ O I m2 t2 he) (fun v1 s1 h1 => ?_) eid) swaps_sub
  have I1 := I.keeps (Keeps.heap' h1.1)
  refine wpAny_mono (hld x b p s1 hb (Keeps.heap' h1.1)) (fun v' s' h' => ?_) eid
  obtain ⟨rfl, rfl⟩ := h'
  refine wpAny_mono ((snd_all B ix).e _ _ _ _ _ _ _ _ _ O I1 m1 t1 hix) (fun v2 s2 h2 => ?_) eid
  refine Rep.int_el h2.2 fun t => ?_
  have k2 := keeps_trans h1.1 h2.1
  refine set_at (Keeps.heap' k2 _ _ e1) h0 (by rw [e3.length]; exact hk) e2 fun h' n' hs' he' => ?_
  exact ⟨rfl, Y, Z, Tr.of_same (tk := s2.toks) k2 hs' ya xa, hch s2.heap h' _ _ n' (Keeps.heap' k2) hs' he' (by simpa using e2) ((e3.keeps (Keeps.heap' k2)).set (h1.2.keeps (Keeps.heap' h2.1)) _)⟩
theorem ms_app {i : Nat} {e : PE} {v : PV} {l : List PV} (h : pget ρ i = .own l) (he : pev D ρ e = some v) (hl : l.length < LL) : MS prog w A hB ρ (.app i e) .next (pset ρ i (.own (l ++ [v]))) := by
  intro sc env X Y Z s sts O Mi I hs
  obtain ⟨x, p, ap, a0, cp, pos, rfl, hx, hln, n0, m1, t1⟩ := shp_app hs
  obtain ⟨b, hb⟩ := slotIs_get hx
  rw [exec_one]
  obtain ⟨a, ⟨ya, xa, vs, m, e1, e2, e3⟩, _, hld, hch⟩ := own_at (prog := prog) (w := w) (A := A) O I h
  refine wpAny_Expr (meth_ PySem.F.slot_list_append PySem.F.type_list_append (by simp [n0]) (by simp) hln (wpAny_mono (hld x b p s hb eid) (fun v' s' h' => ?_) eid)) (not_inter O) rfl
  obtain ⟨rfl, rfl⟩ := h'
  refine ⟨⟨a, _, m, rfl, e1⟩, ?_⟩
  rw [backTo_cons n0]
  refine Calls.callWith_builtin rfl (Calls.evalArgs_plain (Calls.spliced_cons (wpAny_mono ((snd_all B e).e _ _ _ _ _ _ _ _ _ O I m1 t1 he) (fun v1 s1 h1 => Calls.spliced_nil ?_) eid)))
  have hvl : vs.length < LL := by rw [e3.length]; exact hl
  refine append_at (Keeps.heap' h1.1 _ _ e1) (fun h' hs' he' => ?_) (by simpa using LL_line e2)
  refine ⟨rfl, Y, Z, Tr.of_same (tk := s1.toks) h1.1 hs' ya xa, hch s1.heap h' _ (vs ++ [v1]) (m + 1) (Keeps.heap' h1.1) hs' (by rw [he']; simp) (by simp; lia) ((e3.keeps (Keeps.heap' h1.1)).snoc h1.2)⟩
theorem ms_ins {i : Nat} {ix e : PE} {v : PV} {k : Int} {l : List PV} (h : pget ρ i = .own l) (hix : pev D ρ ix = some (.int k)) (he : pev D ρ e = some v) (h0 : 0 ≤ k) (hk : k.toNat ≤ l.length) (hl : l.length < LL) :
    MS prog w A hB ρ (.ins i ix e) .next (pset ρ i (.own (l.take k.toNat ++ v :: l.drop k.toNat))) := by
  intro sc env X Y Z s sts O Mi I hs
  obtain ⟨x, p, ap, a0, b0, cp, pos, rfl, hx, hln, n0, n1, m1, t1, m2, t2⟩ := shp_ins hs
  obtain ⟨b, hb⟩ := slotIs_get hx
  rw [exec_one]
  obtain ⟨a, ⟨ya, xa, vs, m, e1, e2, e3⟩, _, hld, hch⟩ := own_at (prog := prog) (w := w) (A := A) O I h
  refine wpAny_Expr (meth_ PySem.F.slot_list_insert PySem.F.type_list_insert (by simp [n0, n1]) (by simp) hln (wpAny_mono (hld x b p s hb eid) (fun v' s' h' => ?_) eid)) (not_inter O) rfl
  obtain ⟨rfl, rfl⟩ := h'
  refine ⟨⟨a, _, m, rfl, e1⟩, ?_⟩
  rw [backTo_cons n0, backTo_cons n1]
  refine Calls.callWith_builtin rfl (Calls.evalArgs_plain (Calls.spliced_cons (wpAny_mono ((snd_all B ix).e _ _ _ _ _ _ _ _ _ O I m1 t1 hix) (fun v1 s1 h1 => ?_) eid)))
  have I1 := I.keeps (Keeps.heap' h1.1)
  refine Calls.spliced_cons (wpAny_mono ((snd_all B e).e _ _ _ _ _ _ _ _ _ O I1 m2 t2 he) (fun v2 s2 h2 => Calls.spliced_nil ?_) eid)
  obtain ⟨t, rfl⟩ := h1.2.isInt
  have k2 := keeps_trans h1.1 h2.1
  have hvl : vs.length < LL := by rw [e3.length]; exact hl
  refine insert_at (Keeps.heap' k2 _ _ e1) h0 (by rw [e3.length]; exact hk) e2 fun h' n' hs' he' => ?_
  have r3 := e3.keeps (Keeps.heap' k2)
  exact ⟨rfl, Y, Z, Tr.of_same (tk := s2.toks) k2 hs' ya xa, hch s2.heap h' _ _ n' (Keeps.heap' k2) hs' he' (by simp; omega) ((r3.take _).append (.cons h2.2 (r3.drop _)))⟩
end
end Mine.Internal
namespace Mine.Internal
open PySem PySem.W PyProof.Rows
section
variable {prog : Program} {w : World} {A : Around} {hB : Heap} {mg mb : Str → Option Value} {n : Nat} {D : Den} {s : Shared} {X Y Z : Av} {env : Env} {sc : Sc} {ρ : List Slot}
@[elab_as_elim] theorem shp_skip {sts : List Stmt} {P : List Stmt → Prop} (h : shpS .skip sc sts = true) (k : P []) : P sts := by
  cases sts with
  | nil => exact k
  | cons _ _ => exact no_ff h
@[elab_as_elim] theorem shp_seq {a b : PS} {sts : List Stmt} {P : List Stmt → Prop} (h : shpS (.seq a b) sc sts = true) (k : ∀ st r, shpS a sc [st] = true → shpS b sc r = true → P (st :: r)) : P sts := by
  cases sts with
  | nil => exact no_ff h
  | cons st r => exact b2 h fun x y => k st r x y
theorem PostS.nx {ρ' : List Slot} {f : Flow} {s' : Shared} {P : Prop} (h : PostS hB X env sc s Y ρ' .next f s') (k : ∀ Y' Z', f = .next → Tr X Y s Y' s' → Inv hB X env sc s'.heap Y' Z' ρ' → P) : P := by
  obtain ⟨e, Y', Z', t, I⟩ := h; exact k Y' Z' e t I
theorem PostS.rt {ρ' : List Slot} {p : PV} {f : Flow} {s' : Shared} {P : Prop} (h : PostS hB X env sc s Y ρ' (.ret p) f s') (k : ∀ v Y', f = .ret v → Tr X Y s Y' s' → (∀ b, X b → Y' b) → Rep s'.heap Y' v p → P) : P := by
  obtain ⟨v, e, Y', t, x, r⟩ := h; exact k v Y' e t x r
noncomputable def TrW (X Y : Av) (wr : List Addr) (s : Shared) (Y' : Av) (s' : Shared) : Prop :=
  (∃ h tk, s' = { s with heap := h, toks := tk }) ∧ ∀ b o, b ∉ wr → s.heap.get? b = some o → (X b → s'.heap.get? b = some o) ∧ (¬ Y b → s'.heap.get? b = some o ∧ ¬ Y' b)
theorem TrW.pre {wr : List Addr} {s1 s' : Shared} {Y1 Y' : Av} (t : TrW X Y wr s Y1 s1) (t' : TrW X Y1 wr s1 Y' s') : TrW X Y wr s Y' s' := by
  obtain ⟨⟨h, k, rfl⟩, q⟩ := t
  obtain ⟨⟨h', k', rfl⟩, q'⟩ := t'
  exact ⟨⟨h', k', rfl⟩, fun b o hb e => ⟨fun x => (q' b o hb ((q b o hb e).1 x)).1 x, fun y => (q' b o hb ((q b o hb e).2 y).1).2 ((q b o hb e).2 y).2⟩⟩
theorem TrW.of {wr : List Addr} {s' : Shared} {Y' : Av} (t : Tr (fun b => X b ∨ b ∈ wr) Y s Y' s') : TrW X Y wr s Y' s' :=
  ⟨t.1, fun b o o0 e => ⟨fun x => (t.2 b o e).1 (.inl x), (t.2 b o e).2⟩⟩
noncomputable abbrev PostF (hB : Heap) (X : Av) (env : Env) (sc : Sc) (s : Shared) (Y : Av) (wr : List Addr) (ρ' : List Slot) : Fl → Flow → Shared → Prop
  | .next, f, s' => f = .next ∧ ∃ Y' Z', TrW X Y wr s Y' s' ∧ Inv hB X env sc s'.heap Y' Z' ρ'
  | .ret p, f, s' => ∃ v, f = .ret v ∧ ∃ Y', TrW X Y wr s Y' s' ∧ (∀ b, X b → Y' b) ∧ Rep s'.heap Y' v p
theorem PostF.pre {wr : List Addr} {s1 : Shared} {Y1 : Av} {ρ' : List Slot} {fl : Fl} {f : Flow} {s' : Shared} (t : TrW X Y wr s Y1 s1) (h : PostF hB X env sc s1 Y1 wr ρ' fl f s') : PostF hB X env sc s Y wr ρ' fl f s' := by
  cases fl with
  | next => obtain ⟨e, Y', Z', t', I'⟩ := h; exact ⟨e, Y', Z', t.pre t', I'⟩
  | ret p => obtain ⟨v, e, Y', t', x, r⟩ := h; exact ⟨v, e, Y', t.pre t', x, r⟩
variable (prog w A hB) in
noncomputable abbrev MW (ρ : List Slot) (c : PE) (b : PS) (fl : Fl) (ρ' : List Slot) : Prop := ∀ sc env X Y Z s test body, Ok env sc → Mine' X env sc → Inv hB X env sc s.heap Y Z ρ → mdOk c .tst = true → shp c sc [test] = true → shpS b sc body = true →
  codeAny (model prog w) A (.whileLoop test body [] env) (fun r s' => ∃ f, r = .ok f ∧ PostS hB X env sc s Y ρ' fl f s') s
variable (prog w A hB) in
noncomputable abbrev MF (ρ : List Slot) (t : Tg) (items : List PV) (b : PS) (fl : Fl) (ρ' : List Slot) : Prop := ∀ sc env X Y Z s tg nm it h0 l i body fp wr St Y0, Ok env sc → Mine' (fun b => X b ∨ b ∈ wr) env sc → Inv hB (fun b => X b ∨ b ∈ wr) env sc s.heap Y Z ρ →
  tgNames? t tg = some nm → (∀ p ∈ nm, slotIs sc p.1 p.2 = true) → shpS b sc body = true → FeedW prog w A tg t (nm.map (·.2)) it h0 Y0 l fp wr St → St i s.heap → items = l.drop i → i ≤ l.length →
  (∀ b ∈ fp, b ∉ wr → ¬ Y b ∧ ∃ o, s.heap.get? b = some o) → (∀ b o, h0.get? b = some o → ¬ Y0 b → s.heap.get? b = some o ∧ ¬ Y b) → (∀ b, X b → b ∉ wr) →
  codeAny (model prog w) A (.forLoop tg it body [] env) (fun r s' => ∃ f, r = .ok f ∧ PostF hB X env sc s Y wr ρ' fl f s') s
variable (prog w A hB) in
noncomputable def Mot (ρ : List Slot) (p : PS) (fl : Fl) (ρ' : List Slot) : Prop := match p with
  | .whl c b => MW prog w A hB ρ c b fl ρ'
  | .forI t items b => MF prog w A hB ρ t items b fl ρ'
  | p => MS prog w A hB ρ p fl ρ'
theorem ms_of_mw {c : PE} {b : PS} {fl : Fl} {ρ' : List Slot} (h : MW prog w A hB ρ c b fl ρ') : MS prog w A hB ρ (.whl c b) fl ρ' := by
  intro sc env X Y Z s sts O Mi I hs
  obtain ⟨test, body, pos, rfl, m1, t1, h1⟩ := shp_whl hs
  rw [exec_one]
  exact wpAny_While (codeAny_mono (h sc env X Y Z s test body O Mi I m1 t1 h1) fun r s' h' => by obtain ⟨f, rfl, q⟩ := h'; exact q)
theorem Mot.ms {p : PS} {fl : Fl} {ρ' : List Slot} (h : Mot prog w A hB ρ p fl ρ') : MS prog w A hB ρ p fl ρ' := by
  cases p with
  | whl c b => exact ms_of_mw h
  | forI t items b =>
    intro sc env X Y Z s sts O Mi I hs
    exfalso; exact no_ff hs
  | _ => exact h
theorem mot_frz {i : Nat} {l : List PV} {p : PS} {fl : Fl} {ρ' : List Slot} (hi : pget ρ i = .own l) (h : Mot prog w A hB (pset ρ i (.val (.lst l))) p fl ρ') : Mot prog w A hB ρ p fl ρ' := by
  have hs : MS prog w A hB (pset ρ i (.val (.lst l))) p fl ρ' → MS prog w A hB ρ p fl ρ' := fun h sc env X Y Z s sts O Mi I hs => by
    obtain ⟨Y', Z', I', t⟩ := freeze_ok (s := s) I hi
    exact wpAny_mono (h sc env X Y' Z' s sts O Mi I' hs) (fun f s' h' => h'.trans t) eid
  cases p with
  | whl c b =>
    intro sc env X Y Z s test body O Mi I m1 t1 h1
    obtain ⟨Y', Z', I', t⟩ := freeze_ok (s := s) I hi
    exact codeAny_mono (h sc env X Y' Z' s test body O Mi I' m1 t1 h1) fun r s' h' => by obtain ⟨f, e, q⟩ := h'; exact ⟨f, e, q.trans t⟩
  | forI tt items b =>
    intro sc env X Y Z s tg nm it h0 l i body fp wr St Y0 O Mi I hnm hsl hb W st hit hle hfp hrep hX
    obtain ⟨Y', Z', I', t⟩ := freeze_ok (s := s) I hi
    refine codeAny_mono (h sc env X Y' Z' s tg nm it h0 l i body fp wr St Y0 O Mi I' hnm hsl hb W st hit hle (fun b hb hw => ?_) (fun b o e y => ?_) hX) fun r s' h' => by obtain ⟨f, e, q⟩ := h'; exact ⟨f, e, q.pre (TrW.of t)⟩
    · obtain ⟨y, o, e⟩ := hfp b hb hw
      exact ⟨((t.2 b o e).2 y).2, o, e⟩
    · obtain ⟨e', y'⟩ := hrep b o e y
      exact ⟨e', ((t.2 b o e').2 y').2⟩
  | _ => exact hs h
variable (B : Bg prog w A hB mg mb n D)
include B
theorem ex_ok {p : PS} {fl : Fl} {ρ' : List Slot} (h : Ex D ρ p fl ρ') : Mot prog w A hB ρ p fl ρ' := by
  refine h (fun ρ p fl ρ' => Mot prog w A hB ρ p fl ρ') { skip := ?skip, seq := ?seq, seqR := ?seqR, frz := ?frz, asg := ?asg, asgO := ?asgO, asgT := ?asgT, unp := ?unp, pop := ?pop, seti := ?seti, aug := ?aug, app := ?app, ins := ?ins, exp := ?exp, ret := ?ret, ifeT := ?ifeT, ifeF := ?ifeF, whlF := ?whlF, whlT := ?whlT, whlR := ?whlR, forr := ?forr, forN := ?forN, forC := ?forC, forR := ?forR }
  case skip =>
    intro ρ
    intro sc env X Y Z s sts O Mi I hs
    exact shp_skip hs (wpAny_execs_nil ⟨rfl, Y, Z, Tr.refl _ _ _, I⟩)
  case seq =>
    intro ρ ρ1 ρ2 a b fl ih1 ih2
    intro sc env X Y Z s sts O Mi I hs
    refine shp_seq hs fun st r h1 h2 => ?_
    refine wpAny_execs_cons (wpAny_mono (exec_one st env ▸ ih1.ms sc env X Y Z s [st] O Mi I h1) (fun f s' h' => ?_) eid)
    refine PostS.nx h' fun Y' Z' e t I' => ?_
    cases e
    exact wpAny_mono (ih2.ms sc env X Y' Z' s' r O Mi I' h2) (fun f s'' h'' => h''.trans t) eid
  case seqR =>
    intro ρ ρ1 a b v ih1
    intro sc env X Y Z s sts O Mi I hs
    refine shp_seq hs fun st r h1 h2 => ?_
    refine wpAny_execs_cons (wpAny_mono (exec_one st env ▸ ih1.ms sc env X Y Z s [st] O Mi I h1) (fun f s' h' => ?_) eid)
    refine PostS.rt h' fun u Y' e t x q => ?_
    cases e
    exact ⟨u, rfl, Y', t, x, q⟩
  case frz => exact fun hi ih => mot_frz hi ih
  case asg => exact fun h o0 => ms_asg B h
  case asgO => exact fun hf h => ms_asgO B hf h
  case asgT => exact fun fs h hl => ms_asgT B h hl
  case unp => exact fun h hl => ms_unp B h hl
  case pop =>
    intro ρ is i l t h hl
    exact ms_pop B h hl
  case seti => exact fun he o0 h hix h0 hk => ms_seti B he h hix h0 hk
  case aug => exact fun hi h ho hr => ms_aug B hi h ho hr
  case app => exact fun h he o0 hl => ms_app B h he hl
  case ins => exact fun h hix he o0 h0 hk hl => ms_ins B h hix he h0 hk hl
  case exp => exact fun h => ms_exp B h
  case ret => exact fun h o0 => ms_ret B h
  case ifeT =>
    intro ρ c t e fl ρ1 h ih
    intro sc env X Y Z s sts O Mi I hs
    obtain ⟨test, body, orelse, pos, rfl, m1, t1, h1, h2⟩ := shp_ife hs
    rw [exec_one]
    refine wpAny_If (wpAny_mono ((snd_all B c).t _ _ _ _ _ _ _ _ _ O I m1 t1 h) (fun b s1 hb => ?_) eid)
    obtain ⟨k, rfl⟩ := hb
    rw [if_pos rfl]
    exact wpAny_mono (ih.ms sc env X Y Z s1 body O Mi (I.keeps (Keeps.heap' k)) h1) (fun f s' h' => h'.trans (Tr.of_keeps k)) eid
  case ifeF =>
    intro ρ c t e fl ρ1 h ih
    intro sc env X Y Z s sts O Mi I hs
    obtain ⟨test, body, orelse, pos, rfl, m1, t1, h1, h2⟩ := shp_ife hs
    rw [exec_one]
    refine wpAny_If (wpAny_mono ((snd_all B c).t _ _ _ _ _ _ _ _ _ O I m1 t1 h) (fun b s1 hb => ?_) eid)
    obtain ⟨k, rfl⟩ := hb
    rw [if_neg (by decide)]
    exact wpAny_mono (ih.ms sc env X Y Z s1 orelse O Mi (I.keeps (Keeps.heap' k)) h2) (fun f s' h' => h'.trans (Tr.of_keeps k)) eid
  case whlF =>
    intro ρ c b h
    intro sc env X Y Z s test body O Mi I m1 t1 h1
    refine while_step (wpAny_mono ((snd_all B c).t _ _ _ _ _ _ _ _ _ O I m1 t1 h) (fun b s1 hb => ?_) eid)
    obtain ⟨k, rfl⟩ := hb
    rw [if_neg (by decide)]
    exact ⟨.next, rfl, rfl, Y, Z, Tr.of_keeps k, I.keeps (Keeps.heap' k)⟩
  case whlT =>
    intro ρ c b ρ1 fl ρ2 h ih1 ih2
    intro sc env X Y Z s test body O Mi I m1 t1 h1
    refine while_step (wpAny_mono ((snd_all B c).t _ _ _ _ _ _ _ _ _ O I m1 t1 h) (fun b s1 hb => ?_) eid)
    obtain ⟨k, rfl⟩ := hb
    rw [if_pos rfl]
    refine wpAny_mono (ih1.ms sc env X Y Z s1 body O Mi (I.keeps (Keeps.heap' k)) h1) (fun f s' h' => ?_) eid
    refine PostS.nx h' fun Y' Z' e t I' => ?_
    cases e
    refine codeAny_mono ((show MW prog w A hB ρ1 c b fl ρ2 from ih2) sc env X Y' Z' s' test body O Mi I' m1 t1 h1) fun r s'' h'' => ?_
    obtain ⟨f, e, q⟩ := h''
    exact ⟨f, e, (q.trans t).trans (Tr.of_keeps k)⟩
  case whlR =>
    intro ρ c b v ρ1 h ih1
    intro sc env X Y Z s test body O Mi I m1 t1 h1
    refine while_step (wpAny_mono ((snd_all B c).t _ _ _ _ _ _ _ _ _ O I m1 t1 h) (fun b s1 hb => ?_) eid)
    obtain ⟨k, rfl⟩ := hb
    rw [if_pos rfl]
    refine wpAny_mono (ih1.ms sc env X Y Z s1 body O Mi (I.keeps (Keeps.heap' k)) h1) (fun f s' h' => ?_) eid
    refine PostS.rt h' fun u Y' e t x r => ?_
    cases e
    exact ⟨_, rfl, u, rfl, Y', (Tr.of_keeps k).trans t, x, r⟩
  case forr =>
    intro ρ t it items b fl ρ1 h ih
    intro sc env X Y Z s sts O Mi I hs
    obtain ⟨tg, iter, body, pos, nm, rfl, hnm, ns, hsl, m1, t1, h1⟩ := shp_forr hs
    rw [exec_one]
    have hv : pev D ρ it = some (.lst items) ∨ pev D ρ it = some (.itr items) := bnd h fun x hx h => isM_t h fun l hl h => Option.some.inj h ▸ hl.imp (fun q => hx.trans (congrArg some q)) (fun q => hx.trans (congrArg some q))
    refine wpAny_For (wpAny_mono (itF_of B.R.hd (snd_all B it) hnm O I m1 t1 hv) (fun v s1 h' => ?_) eid) (notSet_fold ns)
    obtain ⟨k1, h0, g1, g2, hF⟩ := h'
    refine wpAny_mono hF (fun itv s2 h2 => ?_) eid
    obtain ⟨k2, fp, wr, St, W, st, hfp⟩ := h2
    have k12 := keeps_trans k1 k2
    have g02 : KeepsH h0 s2.heap := fun b o e => Keeps.heap' k2 b o (g2 b o e)
    have nw : ∀ b o, h0.get? b = some o → b ∉ wr := fun b o e q => by rw [W.new b q] at e; cases e
    have nws : ∀ b o, s.heap.get? b = some o → b ∉ wr := fun b o e => nw b o (g1 b o e)
    have hw : ∀ b, b ∈ wr → s.heap.get? b = none := fun b hb => by
      cases e : s.heap.get? b with
      | none => rfl
      | some o => exact absurd hb (nws b o e)
    have I2 := I.addX (fun b => b ∈ wr) hw (Keeps.heap' k12) (fun b hb => W.ex 0 _ st b hb)
    have Mi2 : Mine' (fun b => X b ∨ b ∈ wr) env sc := by
      refine ⟨fun q => q.elim Mi.loc fun q => ?_, fun i x c a b q => q.elim (Mi.cel i x c a b) fun q => ?_⟩
      · obtain ⟨o, e⟩ := I.old _ I.locY; exact nws _ o e q
      · obtain ⟨o, e⟩ := I.old _ (I.celY i x c a b); exact nws _ o e q
    refine codeAny_mono ((show MF prog w A hB ρ t items b fl ρ1 from ih) sc env X (fun b => Y b ∨ b ∈ wr) Z s2 tg nm itv h0 items 0 body fp wr St Y O Mi2 I2 hnm hsl h1 W st rfl (Nat.zero_le _) (fun b hb hw => ?_) (fun b o e y => ?_) (fun b x => ?_)) fun r s' h' => ?_
    · obtain ⟨y, o, e⟩ := hfp b hb
      exact ⟨fun q => q.elim y hw, o, e⟩
    · exact ⟨g02 b o e, fun q => q.elim y (nw b o e)⟩
    · obtain ⟨o, e⟩ := I.old b (I.sub b x); exact nws b o e
    · obtain ⟨f, rfl, q⟩ := h'
      obtain ⟨hh, tk, rfl, kk⟩ := k12
      have conv : ∀ {Y' : Av} {s' : Shared}, TrW X (fun b => Y b ∨ b ∈ wr) wr { s with heap := hh, toks := tk } Y' s' → Tr X Y s Y' s' := fun {Y' s'} t => by
        obtain ⟨⟨h3, tk3, rfl⟩, q⟩ := t
        exact ⟨⟨h3, tk3, rfl⟩, fun b o e => ⟨fun x => (q b o (nws b o e) (kk b o e)).1 x, fun y => (q b o (nws b o e) (kk b o e)).2 fun q' => q'.elim y (nws b o e)⟩⟩
      cases fl with
      | next => obtain ⟨e, Y', Z', t', I'⟩ := q; exact ⟨e, Y', Z', conv t', I'⟩
      | ret p => obtain ⟨v, e, Y', t', x, r⟩ := q; exact ⟨v, e, Y', conv t', x, r⟩
  case forN =>
    intro ρ t b
    intro sc env X Y Z s tg nm it h0 l i body fp wr St Y0 O Mi I hnm hsl hb W st hit hle hfp hrep hX
    have hil : i = l.length := by
      have := congrArg List.length hit
      rw [List.length_drop, List.length_nil] at this
      lia
    subst hil
    refine for_step (W.done _ _ st fun h' tk' hk' => ?_)
    exact ⟨.next, rfl, rfl, _, _, ⟨⟨h', tk', rfl⟩, fun b o hb e => ⟨fun o0 => hk' b o hb e, fun y => ⟨hk' b o hb e, fun q => y q.1⟩⟩⟩,
      I.dropX (h' := h') (fun b => b ∈ wr) (fun b o q e => hk' b o q e) hX (fun q => Mi.loc (.inr q)) (fun i x c a b q => Mi.cel i x c a b (.inr q))⟩
  case forC =>
    intro ρ t x r b ρ1 ρ2 fl ρ3 hp ih1 ih2
    intro sc env X Y Z s tg nm it h0 l i body fp wr St Y0 O Mi I hnm hsl hb W st hit hle hfp hrep hX
    have hlt : i < l.length := by
      have := congrArg List.length hit
      rw [List.length_drop, List.length_cons] at this
      lia
    have hdrop := List.drop_eq_getElem_cons hlt
    rw [hdrop] at hit
    obtain ⟨rfl, rfl⟩ := List.cons.inj hit
    have hx : l[i]? = some l[i] := List.getElem?_eq_getElem hlt
    obtain ⟨xs, hxs, hρ1⟩ := ptg_eq hp
    refine for_step (wpAny_mono (W.item i _ xs env _ ?Q hx hxs st ?k) ?m eid)
    case m =>
      intro r s1 h1
      cases r with
      | none => exact h1.elim
      | some v => exact h1
    intro us h' tk' hus hul st' hk'
    have I1 : Inv hB (fun b => X b ∨ b ∈ wr) env sc h' Y Z ρ := I.change (fun b => b ∈ wr) (fun b o q e => hk' b o q e) (fun b q => .inr q) (fun b q => W.ex _ _ st' b q) (fun q => Mi.loc (.inr q)) (fun i x c a b q => Mi.cel i x c a b (.inr q))
    have yw : ∀ b, b ∈ wr → Y b := fun b q => I.sub b (.inr q)
    have us1 : RepL h' Y us xs := hus.mono fun b o e y => by
      obtain ⟨e', y'⟩ := hrep b o e y
      exact ⟨hk' b o (fun q => y' (yw b q)) e', y'⟩
    refine stores_ok O Mi.loc nm us xs { s with heap := h', toks := tk' } ρ I1 (fun p hp => ?_) (by simpa using hul.symm) us1 fun s3 t3 I3 => ?_
    · obtain ⟨b, e⟩ := slotIs_get (hsl p hp)
      exact ⟨b, e, fun eb c hc => Mi.cel _ _ _ (eb ▸ e) hc⟩
    rw [tgNames_ix hnm, ← hρ1] at I3
    refine wpAny_mono (ih1.ms sc env _ Y Z s3 body O Mi I3 hb) (fun f s4 h4 => ?_) eid
    obtain ⟨rfl, Y4, Z4, t4, I4⟩ := h4
    have t34 := t3.trans t4
    have tw : TrW X Y wr s Y4 s4 := by
      obtain ⟨⟨h4', tk4, rfl⟩, q⟩ := t34
      exact ⟨⟨h4', tk4, rfl⟩, fun b o hb e => ⟨fun x => (q b o (hk' b o hb e)).1 (.inl x), fun y => (q b o (hk' b o hb e)).2 y⟩⟩
    refine codeAny_mono ((show MF prog w A hB ρ2 t (l.drop (i + 1)) b fl ρ3 from ih2) sc env X Y4 Z4 s4 tg nm it h0 l (i + 1) body fp wr St Y0 O Mi I4 hnm hsl hb W ?_ rfl hlt (fun b hb hw => ?_) (fun b o e y => ?_) hX) fun r s' h' => ?_
    · refine W.frame _ _ _ st' fun b hb o e => ?_
      by_cases hw : b ∈ wr
      · exact (t34.2 b o e).1 (.inr hw)
      · obtain ⟨y, o', e'⟩ := hfp b hb hw
        have e2 := hk' b o' hw e'
        rw [e] at e2; cases e2
        exact ((t34.2 b o e).2 y).1
    · obtain ⟨y, o, e⟩ := hfp b hb hw
      have q := (t34.2 b o (hk' b o hw e)).2 y
      exact ⟨q.2, o, q.1⟩
    · obtain ⟨e', y'⟩ := hrep b o e y
      exact (t34.2 b o (hk' b o (fun q => y' (yw b q)) e')).2 y'
    · obtain ⟨f, e, q⟩ := h'
      exact ⟨f, e, q.pre tw⟩
  case forR =>
    intro ρ t x r b ρ1 v ρ2 hp ih1
    intro sc env X Y Z s tg nm it h0 l i body fp wr St Y0 O Mi I hnm hsl hb W st hit hle hfp hrep hX
    have hlt : i < l.length := by
      have := congrArg List.length hit
      rw [List.length_drop, List.length_cons] at this
      lia
    have hdrop := List.drop_eq_getElem_cons hlt
    rw [hdrop] at hit
    obtain ⟨rfl, rfl⟩ := List.cons.inj hit
    have hx : l[i]? = some l[i] := List.getElem?_eq_getElem hlt
    obtain ⟨xs, hxs, hρ1⟩ := ptg_eq hp
    refine for_step (wpAny_mono (W.item i _ xs env _ ?Q2 hx hxs st ?k2) ?m2 eid)
    case m2 =>
      intro r s1 h1
      cases r with
      | none => exact h1.elim
      | some v => exact h1
    intro us h' tk' hus hul st' hk'
    have I1 : Inv hB (fun b => X b ∨ b ∈ wr) env sc h' Y Z ρ := I.change (fun b => b ∈ wr) (fun b o q e => hk' b o q e) (fun b q => .inr q) (fun b q => W.ex _ _ st' b q) (fun q => Mi.loc (.inr q)) (fun i x c a b q => Mi.cel i x c a b (.inr q))
    have yw : ∀ b, b ∈ wr → Y b := fun b q => I.sub b (.inr q)
    have us1 : RepL h' Y us xs := hus.mono fun b o e y => by
      obtain ⟨e', y'⟩ := hrep b o e y
      exact ⟨hk' b o (fun q => y' (yw b q)) e', y'⟩
    refine stores_ok O Mi.loc nm us xs { s with heap := h', toks := tk' } ρ I1 (fun p hp => ?_) (by simpa using hul.symm) us1 fun s3 t3 I3 => ?_
    · obtain ⟨b, e⟩ := slotIs_get (hsl p hp)
      exact ⟨b, e, fun eb c hc => Mi.cel _ _ _ (eb ▸ e) hc⟩
    rw [tgNames_ix hnm, ← hρ1] at I3
    refine wpAny_mono (ih1.ms sc env _ Y Z s3 body O Mi I3 hb) (fun f s4 h4 => ?_) eid
    obtain ⟨u, rfl, Y4, t4, x4, r4⟩ := h4
    have t34 := t3.trans t4
    refine ⟨_, rfl, u, rfl, Y4, ?_, fun b x => x4 b (.inl x), r4⟩
    obtain ⟨⟨h4', tk4, rfl⟩, q⟩ := t34
    exact ⟨⟨h4', tk4, rfl⟩, fun b o hb e => ⟨fun x => (q b o (hk' b o hb e)).1 (.inl x), fun y => (q b o (hk' b o hb e)).2 y⟩⟩
end
end Mine.Internal
namespace Mine.Internal
open PySem PySem.W PyProof.Rows
theorem zip_lookup : ∀ {names : List Str} {vs : List Value} {x : Str}, names.length = vs.length → x ∈ names → ((names.zip vs).lookup x).isNone = false
  | n :: names, v :: vs, x, h, hm => by
    rw [List.zip_cons_cons, List.lookup_cons]
    cases hx : x == n with
    | true => simp
    | false =>
      have : x ≠ n := by simpa using hx
      simp only []
      exact zip_lookup (by simpa using h) ((List.mem_cons.mp hm).resolve_left this)
  | [], _, _, _, hm => by cases hm
  | _ :: _, [], _, h, _ => by simp at h
theorem zip_binds : ∀ (names : List Str) (vs : List Value), names.length = vs.length → names.Nodup → (names.filterMap fun n => ((names.zip vs).lookup n).map fun x => (n, x)) = names.zip vs := by
  have key : ∀ (pre : List Str) (pv : List Value) (names : List Str) (vs : List Value), pre.length = pv.length → names.length = vs.length → (pre ++ names).Nodup → (names.filterMap fun n => ((pre.zip pv ++ names.zip vs).lookup n).map fun x => (n, x)) = names.zip vs := by
    intro pre pv names
    induction names generalizing pre pv with
    | nil => intro vs _ _ _; rfl
    | cons n names ih =>
      intro vs hp h hd
      cases vs with
      | nil => simp at h
      | cons v vs =>
        have hn : n ∉ pre := fun q => (List.nodup_append.mp hd).2.2 n q n List.mem_cons_self rfl
        have hl : (pre.zip pv ++ (n :: names).zip (v :: vs)).lookup n = some v := by
          rw [List.lookup_append]
          have : (pre.zip pv).lookup n = none := by
            rw [List.lookup_eq_none_iff]
            intro p hp'
            have := (List.of_mem_zip (a := p.1) (b := p.2) hp').1
            simp only [bne_iff_ne, ne_eq]
            rintro rfl; exact hn this
          rw [this]
          simp
        rw [List.filterMap_cons, hl]
        simp only [Option.map_some, List.zip_cons_cons]
        congr 1
        have := ih (pre ++ [n]) (pv ++ [v]) vs (by simp [hp]) (by simpa using h) (by simpa using hd)
        rw [List.zip_append hp] at this
        simpa using this
  intro names vs h hd
  simpa using key [] [] names vs rfl h (by simpa using hd)
theorem bind_simple {name : Str} {params : Arguments} {body : List Stmt} {scope : Scope} {pm cd doc : Value} {vs : List Value} (h1 : params.posonlyargs = []) (h2 : params.vararg = none) (h3 : params.kwonlyargs = []) (h4 : params.kwarg = none)
    (hl : (params.args.map (·.arg)).length = vs.length) (hd : (params.args.map (·.arg)).Nodup) :
    bindArgs (Calls.docDef name params body scope pm cd doc) ⟨vs, []⟩ = pure ((params.args.map (·.arg)).zip vs) := by
  obtain ⟨po, as, va, ko, kd, kw, df⟩ := params
  cases h1
  cases h2
  cases h3
  cases h4
  have hm : ((as.map (·.arg)).take ((as.map (·.arg)).length - (List.drop (([] : List Value).length - (as.map (·.arg)).length) ([] : List Value)).length)).filter (fun n => (((as.map (·.arg)).zip vs).lookup n).isNone) = [] := by
    refine List.filter_eq_nil_iff.mpr fun x hx => ?_
    rw [zip_lookup hl (List.mem_of_mem_take hx)]; exact Bool.false_ne_true
  refine Eq.trans (if_neg ?_) (Eq.trans (if_neg ?_) ?_)
  · show ¬ (decide (vs.length > (as.map (·.arg)).length) && true) = true
    rw [decide_eq_false (fun q : vs.length > (as.map (·.arg)).length => Nat.lt_irrefl _ (hl ▸ q : vs.length > vs.length))]
    exact Bool.false_ne_true
  · intro q
    have e : ∀ l : List Str, l = [] → (!l.isEmpty) = true → False := fun l h q => by rw [h] at q; exact no_ff q
    exact e _ hm q
  · show (forIn ((List.drop _ _).zip (List.drop _ ([] : List Value))) _ _ >>= _) = _
    rw [List.drop_nil, List.zip_nil_right]
    show (pure ((List.map (fun x : Arg => x.arg) as ++ []).filterMap fun n => (((List.map (fun x : Arg => x.arg) as).zip vs).lookup n).map fun x => (n, x)) : Sem (List (Str × Value))) = _
    rw [List.append_nil, zip_binds _ vs hl hd]
noncomputable def slotsOf (f : Fn) (sc : Scope) : List (Option (Str × Bool)) := f.vars.map fun x => some (Str.ofString x, sc.names.lookup (Str.ofString x) == some .cell)
noncomputable def scOf (f : Fn) (sc : Scope) : Sc := { names := sc.names, slots := slotsOf f sc }
noncomputable def parsOf (f : Fn) : List Str := (f.vars.take f.arity).map Str.ofString
noncomputable def chkDef (f : Fn) (d : DefRec) : Bool :=
  d.name == Str.ofString f.name && d.scope.kind == .function && !d.scope.isCoroutine && !d.scope.isGenerator &&
  d.params.posonlyargs.isEmpty && d.params.vararg.isNone && d.params.kwonlyargs.isEmpty && d.params.kwarg.isNone && d.params.args.map (·.arg) == parsOf f && nodupB (parsOf f) &&
  decide (f.arity ≤ f.vars.length) && slotsOk (scOf f d.scope) && nodupB (namesOf (scOf f d.scope)) && shpS f.body (scOf f d.scope) d.body
structure Gs2 (hB : Heap) (mg mb : Str → Option Value) : Prop extends Gs hB mg mb where
  lim : hB.NoLimit
  fn2 : ∀ f : Fn, ∃ a o d pm code doc, mg (Str.ofString f.name) = some (.ref a) ∧ hB.get? a = some o ∧ o.data = .func (Calls.docDef d.name d.params d.body d.scope pm code doc) ∧ hB.CodeRec code d.name ∧ chkDef f d = true
theorem nodupB_nodup : ∀ {l : List Str}, nodupB l = true → l.Nodup
  | [], _ => .nil
  | x :: r, h => by
    obtain ⟨h1, h2⟩ := nodupB_mem h
    exact List.nodup_cons.mpr ⟨h1, nodupB_nodup h2⟩
theorem cells_acc : ∀ {names : List (Str × NameKind)} {n : Nat} {acc : List (Str × Addr)} {x : Str}, (∃ c, acc.lookup x = some c) → ∃ c, (cellsFrom n names acc).lookup x = some c
  | [], _, _, _, h => h
  | (m, k) :: r, n, acc, x, h => by
    simp only [cellsFrom]
    split
    · refine cells_acc ?_
      rw [List.lookup_cons]
      split
      · exact ⟨_, rfl⟩
      · exact h
    · exact cells_acc h
theorem cells_mem : ∀ {names : List (Str × NameKind)} {n : Nat} {acc : List (Str × Addr)} {x : Str}, (x, NameKind.cell) ∈ names → ∃ c, (cellsFrom n names acc).lookup x = some c
  | (m, k) :: r, n, acc, x, h => by
    rcases List.mem_cons.mp h with e | h'
    · cases e
      simp only [cellsFrom]
      exact cells_acc ⟨n, by simp⟩
    · simp only [cellsFrom]
      split <;> exact cells_mem h'
theorem bindL_out {kindOf : Str → Option NameKind} : ∀ {binds : List (Str × Value)} {m : Str → Option Value} {x : Str}, x ∉ binds.map (·.1) → bindL kindOf binds m x = m x
  | [], _, _, _ => rfl
  | (n, v) :: r, m, x, h => by
    simp only [bindL]
    rw [bindL_out fun q => h (List.mem_cons_of_mem _ q)]
    split
    · exact if_neg fun q => h (by rw [q]; exact List.mem_cons_self)
    · rfl
theorem bindC_out {kindOf : Str → Option NameKind} : ∀ {binds : List (Str × Value)} {m : Str → Option Value} {x : Str}, x ∉ binds.map (·.1) → bindC kindOf binds m x = m x
  | [], _, _, _ => rfl
  | (n, v) :: r, m, x, h => by
    simp only [bindC]
    rw [bindC_out fun q => h (List.mem_cons_of_mem _ q)]
    split
    · rfl
    · exact if_neg fun q => h (by rw [q]; exact List.mem_cons_self)
theorem bindL_in {kindOf : Str → Option NameKind} : ∀ {binds : List (Str × Value)} {m : Str → Option Value} {x : Str} {v : Value}, (binds.map (·.1)).Nodup → (x, v) ∈ binds → kindOf x = some .local → bindL kindOf binds m x = some v
  | (n, u) :: r, m, x, v, hd, h, hk => by
    obtain ⟨h1, h2⟩ := List.nodup_cons.mp hd
    simp only [bindL]
    rcases List.mem_cons.mp h with e | h
    · cases e
      rw [bindL_out h1, if_pos hk]; exact if_pos rfl
    · exact bindL_in h2 h hk
theorem bindC_in {kindOf : Str → Option NameKind} : ∀ {binds : List (Str × Value)} {m : Str → Option Value} {x : Str} {v : Value}, (binds.map (·.1)).Nodup → (x, v) ∈ binds → kindOf x = some .cell → bindC kindOf binds m x = some v
  | (n, u) :: r, m, x, v, hd, h, hk => by
    obtain ⟨h1, h2⟩ := List.nodup_cons.mp hd
    simp only [bindC]
    rcases List.mem_cons.mp h with e | h
    · cases e
      rw [bindC_out h1, if_neg (by rw [hk]; decide)]; exact if_pos rfl
    · exact bindC_in h2 h hk
theorem pget_init : ∀ (args : List PV) (k i : Nat), pget (args.map Slot.val ++ List.replicate k Slot.un) i = match args[i]? with | some p => .val p | none => .un
  | [], k, i => by
    have : ∀ (k i : Nat), pget (List.replicate k Slot.un) i = .un := fun k => by
      induction k with
      | zero => intro i; rfl
      | succ k ih => intro i; cases i with
        | zero => rfl
        | succ i => exact ih i
    simp [this]
  | p :: r, k, 0 => rfl
  | p :: r, k, i + 1 => by
    show pget (r.map Slot.val ++ List.replicate k Slot.un) i = _
    rw [pget_init r k i]
    simp
end Mine.Internal
namespace Mine.Internal
open PySem PySem.W PyProof.Rows
section
variable {prog : Program} {w : World} {hB : Heap} {mg mb : Str → Option Value} {n : Nat} {D : Den}
structure ChkD (f : Fn) (d : DefRec) : Prop where
  c1 : d.name = Str.ofString f.name
  c2 : d.scope.kind = .function
  c3 : d.scope.isCoroutine = false
  c4 : d.scope.isGenerator = false
  c5 : d.params.posonlyargs = []
  c6 : d.params.vararg = none
  c7 : d.params.kwonlyargs = []
  c8 : d.params.kwarg = none
  c9 : d.params.args.map (·.arg) = parsOf f
  c10 : nodupB (parsOf f) = true
  c11 : f.arity ≤ f.vars.length
  c12 : slotsOk (scOf f d.scope) = true
  c13 : nodupB (namesOf (scOf f d.scope)) = true
  c14 : shpS f.body (scOf f d.scope) d.body = true
theorem chkDef_t {f : Fn} {d : DefRec} (hc : chkDef f d = true) : ChkD f d := by
  simp only [chkDef, Bool.and_eq_true, beq_iff_eq, decide_eq_true_eq, Bool.not_eq_true', List.isEmpty_iff, Option.isNone_iff_eq_none] at hc
  obtain ⟨⟨⟨⟨⟨⟨⟨⟨⟨⟨⟨⟨⟨c1, c2⟩, c3⟩, c4⟩, c5⟩, c6⟩, c7⟩, c8⟩, c9⟩, c10⟩, c11⟩, c12⟩, c13⟩, c14⟩ := hc
  exact ⟨c1, c2, c3, c4, c5, c6, c7, c8, c9, c10, c11, c12, c13, c14⟩
theorem contract_of {f : Fn} {args : List PV} {r : PV} (G2 : Gs2 hB mg mb) (HD : ∀ g as q, D g as = some q → Contract prog w hB mg n g as q) (hlen : args.length = f.arity)
    (hex : (∃ ρ', Ex D (init f args) f.body (.ret r) ρ') ∨ (r = .none ∧ ∃ ρ', Ex D (init f args) f.body .next ρ')) : Contract prog w hB mg (n + 1) f args r := by
  intro a A s X vs ha R kB hX oldX hr
  obtain ⟨a', o, d, pm, code, doc, ha', ho, hd, hcr, hc⟩ := G2.fn2 f
  rw [ha] at ha'; cases ha'
  obtain ⟨c1, c2, c3, c4, c5, c6, c7, c8, c9, c10, c11, c12, c13, c14⟩ := chkDef_t hc
  have hvl : vs.length = f.arity := hr.length.trans hlen
  have hpl : (parsOf f).length = f.arity := by simp only [parsOf, List.length_map, List.length_take]; lia
  have hbind : bindArgs (Calls.docDef d.name d.params d.body d.scope pm code doc) ⟨vs, []⟩ = pure ((parsOf f).zip vs) := by
    rw [← c9]
    exact bind_simple c5 c6 c7 c8 (by rw [c9, hpl, hvl]) (by rw [c9]; exact nodupB_nodup c10)
  have hnd : (((parsOf f).zip vs).map (·.1)).Nodup := by
    rw [List.map_fst_zip (by rw [hpl, hvl]; exact Nat.le_refl _)]
    exact nodupB_nodup c10
  have getS : ∀ i x, f.vars[i]? = some x → ∃ b, (scOf f d.scope).get i = some (Str.ofString x, b) := fun i x h => by
    refine ⟨d.scope.names.lookup (Str.ofString x) == some .cell, ?_⟩
    unfold Sc.get
    show (match (slotsOf f d.scope)[i]? with | some o => o | none => none) = _
    unfold slotsOf
    rw [List.getElem?_map, h]; rfl
  have hkind : ∀ x ∈ (parsOf f).zip vs, d.scope.names.lookup x.1 = some .local ∨ (d.scope.names.lookup x.1 = some .cell ∧ ((cellsFrom (s.heap.objs.size + 1) d.scope.names []).lookup x.1).isSome = true) := fun x hx => by
    have hm := (List.of_mem_zip (a := x.1) (b := x.2) hx).1
    obtain ⟨y, hy, he⟩ := List.mem_map.mp hm
    obtain ⟨i, hi, hy'⟩ := List.mem_iff_getElem.mp (List.mem_of_mem_take hy)
    obtain ⟨b, hb⟩ := getS i y (by rw [List.getElem?_eq_getElem hi, hy'])
    have := (slotsOk_get c12 hb).1
    rw [he] at this
    cases b with
    | false => exact .inl this
    | true =>
      refine .inr ⟨this, ?_⟩
      obtain ⟨c, hc⟩ := cells_mem (n := s.heap.objs.size + 1) (acc := []) (mem_of_lookup this)
      exact Option.isSome_iff_exists.mpr ⟨c, hc⟩
  refine wpAny_call (call_cells_ret R.depth (kB _ _ ho) hd (G2.lim.keeps kB) (hcr.keeps kB) hbind hkind (fun h₁ tk F CX => ?_) c3 c4 c2)
  generalize hL : s.heap.objs.size = L at *
  have R' : Room n (A.deeper (envOfC d.name d.scope L a code)) := ⟨R.hd, by have := R.dp; show A.depth + 1 + n < 1000; lia, by have := R.un; show A.units + 3 + 8 * n + 100 < 9900; lia⟩
  have B' : Bg prog w (A.deeper (envOfC d.name d.scope L a code)) hB mg mb n D := ⟨G2.toGs, R', HD⟩
  have O : Ok (envOfC d.name d.scope L a code) (scOf f d.scope) := by
    refine ⟨c2, rfl, rfl, rfl, fun i x hi => slotsOk_get c12 hi, fun i x hi => ?_, fun i j x b b' h h' => slots_inj c13 (Sc.get_some h) (Sc.get_some h'), CX.apart⟩
    have := slotsOk_get c12 hi
    exact ⟨this.1, this.2, cells_mem (mem_of_lookup this.1)⟩
  have ltL : ∀ b o, s.heap.get? b = some o → b < L := fun b o e => hL ▸ Heap.lt_size e
  have Mi : Mine' X (envOfC d.name d.scope L a code) (scOf f d.scope) := by
    refine ⟨fun x => ?_, fun i x c o0 hc xc => ?_⟩
    · obtain ⟨o, e⟩ := oldX _ x; exact Nat.lt_irrefl _ (ltL _ o e)
    · obtain ⟨o, e⟩ := oldX _ xc
      exact Nat.lt_irrefl _ (Nat.lt_trans (ltL _ o e) (CX.above x c (mem_of_lookup hc)))
  let Y0 : Av := fun b => X b ∨ b = L ∨ ∃ x, (cellsFrom (L + 1) d.scope.names []).lookup x = some b
  have nY0 : ∀ b o, s.heap.get? b = some o → ¬ X b → ¬ Y0 b := fun b o e y q => by
    rcases q with q | q | ⟨x, q⟩
    · exact y q
    · have := ltL b o e; rw [q] at this; exact Nat.lt_irrefl _ this
    · exact Nat.lt_irrefl _ (Nat.lt_trans (ltL b o e) (CX.above x b (mem_of_lookup q)))
  have I : Inv hB X (envOfC d.name d.scope L a code) (scOf f d.scope) h₁ Y0 (fun o0 => False) (init f args) := by
    refine ⟨fun b o e => F.keep b o (kB b o e), fun b o e => nY0 b o (kB b o e) (hX b o e), fun b x => .inl x, ?_, .inr (.inl rfl), fun i x c o0 hc => .inr (.inr ⟨x, hc⟩), fun b z => z.elim,
      _, fun i => match (scOf f d.scope).get i with | some (x, false) => bindL (envOfC d.name d.scope L a code).kindOf ((parsOf f).zip vs) (fun o0 => none) x | some (x, true) => bindC (envOfC d.name d.scope L a code).kindOf ((parsOf f).zip vs) (fun o0 => none) x | none => none, fun o0 => 0, F.ns, ?_, ?_, ?_, ?_⟩
    · intro b y
      rcases y with y | y | ⟨x, y⟩
      · exact (oldX b y).imp fun o e => F.keep b o e
      · rw [y]; obtain ⟨o, _, _, e, _⟩ := F.ns; exact ⟨o, e⟩
      · obtain ⟨o, e, _⟩ := CX.cell x b y; exact ⟨o, e⟩
    · intro i x hi; simp only [hi]
    · intro i x c hi hc; simp only [hi]; exact CX.cell x c hc
    · intro i
      have hpi : pget (init f args) i = match args[i]? with | some p => .val p | none => .un := pget_init args _ i
      rw [hpi]
      cases hp : args[i]? with
      | none => trivial
      | some p =>
        obtain ⟨v, hv, hrv⟩ := hr.get i p hp
        have hia : i < f.arity := hlen ▸ (List.getElem?_eq_some_iff.mp hp).1
        obtain ⟨y, hy⟩ : ∃ y, f.vars[i]? = some y := ⟨_, List.getElem?_eq_getElem (Nat.lt_of_lt_of_le hia c11)⟩
        obtain ⟨b, hb⟩ := getS i y hy
        have hpar : (parsOf f)[i]? = some (Str.ofString y) := by
          unfold parsOf
          rw [List.getElem?_map, List.getElem?_take_of_lt hia, hy]; rfl
        have hmem : (Str.ofString y, v) ∈ (parsOf f).zip vs := by
          refine List.mem_of_getElem? (i := i) ?_
          rw [List.getElem?_zip_eq_some]
          exact ⟨hpar, hv⟩
        have hk := (slotsOk_get c12 hb).1
        refine ⟨v, ?_, hrv.mono fun b o e y => ⟨F.keep b o e, nY0 b o e y⟩⟩
        simp only [hb]
        cases b with
        | false => exact bindL_in hnd hmem hk
        | true => exact bindC_in hnd hmem hk
    · intro i j l l' hi _ _
      have hpi : pget (init f args) i = match args[i]? with | some p => .val p | none => .un := pget_init args _ i
      rw [hpi] at hi
      cases hp : args[i]? <;> rw [hp] at hi <;> cases hi
  have kF : ∀ {Y' : Av} {s' : Shared}, Tr X Y0 { s with heap := h₁, toks := tk } Y' s' → Keeps s s' := fun {Y' s'} t => by
    obtain ⟨⟨h', tk', rfl⟩, q⟩ := t
    refine ⟨h', tk', rfl, fun b o e => ?_⟩
    by_cases x : X b
    · exact (q b o (F.keep b o e)).1 x
    · exact ((q b o (F.keep b o e)).2 (nY0 b o e x)).1
  rcases hex with ⟨ρ', hex⟩ | ⟨rfl, ρ', hex⟩
  · refine wpAny_mono ((ex_ok B' hex).ms _ _ X Y0 _ { s with heap := h₁, toks := tk } d.body O Mi I c14) (fun fl s' h' => ?_) eid
    obtain ⟨v, rfl, Y', t, x, q⟩ := h'
    exact ⟨kF t, q.sub x⟩
  · refine wpAny_mono ((ex_ok B' hex).ms _ _ X Y0 _ { s with heap := h₁, toks := tk } d.body O Mi I c14) (fun fl s' h' => ?_) eid
    obtain ⟨rfl, Y', Z', t, I'⟩ := h'
    exact ⟨kF t, .none⟩
set_option tactic.hygienic true in
theorem contracts (Dm : Den) (G2 : Gs2 hB mg mb) (hD : ∀ f args r, Dm f args = some r → args.length = f.arity ∧
      ((∃ ρ', Ex (fun g as => if g.rank < f.rank then Dm g as else none) (init f args) f.body (.ret r) ρ') ∨ (r = .none ∧ ∃ ρ', Ex (fun g as => if g.rank < f.rank then Dm g as else none) (init f args) f.body .next ρ'))) :
    ∀ n f args r, f.rank < n → Dm f args = some r → Contract prog w hB mg n f args r
  | 0, _, _, _, h, _ => absurd h (Nat.not_lt_zero _)
  | n + 1, f, args, r, h, hr => by
    obtain ⟨hl, hex⟩ := hD f args r hr
    refine contract_of G2 (fun g as q hq => ?_) hl hex
    split at hq
    · rename_i hlt
      exact contracts Dm G2 hD n g as q (Nat.lt_of_lt_of_le hlt (Nat.le_of_lt_succ h)) hq
    · cases hq
end
end Mine.Internal
namespace Mine.Internal
structure R where
  s0 : Slot
  s1 : Slot
  s2 : Slot
  s3 : Slot
  s4 : Slot
  s5 : Slot
  s6 : Slot
  s7 : Slot
  s8 : Slot
  s9 : Slot
noncomputable def toL (r : R) : List Slot := [r.s0, r.s1, r.s2, r.s3, r.s4, r.s5, r.s6, r.s7, r.s8, r.s9]
noncomputable def t0 (r : R) (s : Slot) : R := ⟨s, r.s1, r.s2, r.s3, r.s4, r.s5, r.s6, r.s7, r.s8, r.s9⟩
noncomputable def t1 (r : R) (s : Slot) : R := ⟨r.s0, s, r.s2, r.s3, r.s4, r.s5, r.s6, r.s7, r.s8, r.s9⟩
noncomputable def t2 (r : R) (s : Slot) : R := ⟨r.s0, r.s1, s, r.s3, r.s4, r.s5, r.s6, r.s7, r.s8, r.s9⟩
noncomputable def t3 (r : R) (s : Slot) : R := ⟨r.s0, r.s1, r.s2, s, r.s4, r.s5, r.s6, r.s7, r.s8, r.s9⟩
noncomputable def t4 (r : R) (s : Slot) : R := ⟨r.s0, r.s1, r.s2, r.s3, s, r.s5, r.s6, r.s7, r.s8, r.s9⟩
noncomputable def t5 (r : R) (s : Slot) : R := ⟨r.s0, r.s1, r.s2, r.s3, r.s4, s, r.s6, r.s7, r.s8, r.s9⟩
noncomputable def t6 (r : R) (s : Slot) : R := ⟨r.s0, r.s1, r.s2, r.s3, r.s4, r.s5, s, r.s7, r.s8, r.s9⟩
noncomputable def t7 (r : R) (s : Slot) : R := ⟨r.s0, r.s1, r.s2, r.s3, r.s4, r.s5, r.s6, s, r.s8, r.s9⟩
noncomputable def t8 (r : R) (s : Slot) : R := ⟨r.s0, r.s1, r.s2, r.s3, r.s4, r.s5, r.s6, r.s7, s, r.s9⟩
noncomputable def t9 (r : R) (s : Slot) : R := ⟨r.s0, r.s1, r.s2, r.s3, r.s4, r.s5, r.s6, r.s7, r.s8, s⟩
noncomputable def hs (s : Slot) : Slot := match s with | .own _ => .un | s => s
noncomputable def hideR (r : R) : R := ⟨hs r.s0, hs r.s1, hs r.s2, hs r.s3, hs r.s4, hs r.s5, hs r.s6, hs r.s7, hs r.s8, hs r.s9⟩
theorem hide_toL (r : R) : hide (toL r) = toL (hideR r) := by
  have h : ∀ (s : Slot) (l : List Slot), hide (s :: l) = hs s :: hide l := fun s l => by cases s <;> rfl
  simp only [toL, h, hideR]
  rfl
noncomputable def IsG (i : Nat) (g : R → Slot) : Prop := ∀ r, pget (toL r) i = g r
noncomputable def IsT (i : Nat) (t : R → Slot → R) : Prop := ∀ r s, pset (toL r) i s = toL (t r s)
theorem g_0 : IsG 0 R.s0 := fun o0 => rfl
theorem g_1 : IsG 1 R.s1 := fun o0 => rfl
theorem g_2 : IsG 2 R.s2 := fun o0 => rfl
theorem g_3 : IsG 3 R.s3 := fun o0 => rfl
theorem g_4 : IsG 4 R.s4 := fun o0 => rfl
theorem g_5 : IsG 5 R.s5 := fun o0 => rfl
theorem g_6 : IsG 6 R.s6 := fun o0 => rfl
theorem g_7 : IsG 7 R.s7 := fun o0 => rfl
theorem g_8 : IsG 8 R.s8 := fun o0 => rfl
theorem g_9 : IsG 9 R.s9 := fun o0 => rfl
theorem t_0 : IsT 0 t0 := fun o0 o0 => rfl
theorem t_1 : IsT 1 t1 := fun o0 o0 => rfl
theorem t_2 : IsT 2 t2 := fun o0 o0 => rfl
theorem t_3 : IsT 3 t3 := fun o0 o0 => rfl
theorem t_4 : IsT 4 t4 := fun o0 o0 => rfl
theorem t_5 : IsT 5 t5 := fun o0 o0 => rfl
theorem t_6 : IsT 6 t6 := fun o0 o0 => rfl
theorem t_7 : IsT 7 t7 := fun o0 o0 => rfl
theorem t_8 : IsT 8 t8 := fun o0 o0 => rfl
theorem t_9 : IsT 9 t9 := fun o0 o0 => rfl
noncomputable abbrev K := R → Option PV
noncomputable def ox (x : Option PV) (f : PV → Option PV) : Option PV := match x with | some v => f v | none => none
theorem ox_eq (x : Option PV) (f : PV → Option PV) : ox x f = x.bind f := by cases x <;> rfl
noncomputable def slV (s : Slot) : Option PV := match s with | .val v => some v | _ => none
noncomputable def slP (s : Slot) : Option PV := match s with | .val v => some v | .own l => some (.lst l) | _ => none
noncomputable def frcN (n : Nat) (k : Nat → Option PV) : Option PV := @Nat.casesOn (fun o0 => Option PV) n (k 0) (fun m => k (Nat.succ m))
noncomputable def mkI (i : Int) : Option PV := match i with
  | .ofNat n => frcN n fun m => some (.int (.ofNat m))
  | .negSucc n => frcN n fun m => some (.int (.negSucc m))
theorem mkI_eq (i : Int) : mkI i = some (.int i) := by
  cases i with
  | ofNat n => cases n <;> rfl
  | negSucc n => cases n <;> rfl
noncomputable def isZ (b : Int) : Bool := match b with | .ofNat n => Nat.beq n 0 | _ => false
theorem isZ_eq (b : Int) : isZ b = decide (b = 0) := by
  cases b with
  | ofNat n => cases n <;> rfl
  | negSucc n => rfl
noncomputable def isN (b : Int) : Bool := match b with | .ofNat _ => false | _ => true
theorem isN_eq (b : Int) : isN b = decide (b < 0) := by
  cases b with
  | ofNat n => exact (decide_eq_false (Int.not_lt.mpr (Int.natCast_nonneg n))).symm
  | negSucc n => exact (decide_eq_true (Int.negSucc_lt_zero n)).symm
noncomputable def iadd (a b : Int) : Int := match a with
  | .ofNat m => (match b with | .ofNat n => .ofNat (Nat.add m n) | .negSucc n => bif Nat.ble (Nat.succ n) m then .ofNat (Nat.sub m (Nat.succ n)) else .negSucc (Nat.sub n m))
  | .negSucc m => (match b with | .ofNat n => bif Nat.ble (Nat.succ m) n then .ofNat (Nat.sub n (Nat.succ m)) else .negSucc (Nat.sub m n) | .negSucc n => .negSucc (Nat.succ (Nat.add m n)))
noncomputable def ineg (a : Int) : Int := match a with
  | .ofNat n => (match n with | 0 => 0 | Nat.succ m => .negSucc m)
  | .negSucc n => .ofNat (Nat.succ n)
noncomputable def isub (a b : Int) : Int := iadd a (ineg b)
noncomputable def imul (a b : Int) : Int := match a with
  | .ofNat m => (match b with | .ofNat n => .ofNat (Nat.mul m n) | .negSucc n => ineg (.ofNat (Nat.mul m (Nat.succ n))))
  | .negSucc m => (match b with | .ofNat n => ineg (.ofNat (Nat.mul (Nat.succ m) n)) | .negSucc n => .ofNat (Nat.mul (Nat.succ m) (Nat.succ n)))
theorem iadd_eq (a b : Int) : iadd a b = a + b := by
  cases a with
  | ofNat m => cases b with
    | ofNat n => rfl
    | negSucc n =>
      show (bif Nat.ble (Nat.succ n) m then Int.ofNat (Nat.sub m (Nat.succ n)) else .negSucc (Nat.sub n m)) = _
      cases e : Nat.ble (Nat.succ n) m with
      | true => have := Nat.le_of_ble_eq_true e; simp only [cond_true]; show ((m - (n + 1) : Nat) : Int) = (m : Int) + Int.negSucc n; omega
      | false =>
        have : ¬ (n + 1 ≤ m) := fun h => by rw [Nat.ble_eq_true_of_le h] at e; cases e
        simp only [cond_false]; show Int.negSucc (n - m) = (m : Int) + Int.negSucc n; omega
  | negSucc m => cases b with
    | ofNat n =>
      show (bif Nat.ble (Nat.succ m) n then Int.ofNat (Nat.sub n (Nat.succ m)) else .negSucc (Nat.sub m n)) = _
      cases e : Nat.ble (Nat.succ m) n with
      | true => have := Nat.le_of_ble_eq_true e; simp only [cond_true]; show ((n - (m + 1) : Nat) : Int) = Int.negSucc m + (n : Int); omega
      | false =>
        have : ¬ (m + 1 ≤ n) := fun h => by rw [Nat.ble_eq_true_of_le h] at e; cases e
        simp only [cond_false]; show Int.negSucc (m - n) = Int.negSucc m + (n : Int); omega
    | negSucc n => rfl
theorem ineg_eq (a : Int) : ineg a = -a := by
  cases a with
  | ofNat n => cases n <;> rfl
  | negSucc n => rfl
theorem isub_eq (a b : Int) : isub a b = a - b := by unfold isub; rw [iadd_eq, ineg_eq, Int.sub_eq_add_neg]
theorem imul_eq (a b : Int) : imul a b = a * b := by
  cases a <;> cases b <;> first | rfl | (show ineg _ = _; rw [ineg_eq]; rfl)
noncomputable def ltB (a b : Int) : Bool := isN (isub a b)
theorem ltB_eq (a b : Int) : ltB a b = decide (a < b) := by
  unfold ltB; rw [isN_eq, isub_eq]; congr 1; exact propext ⟨fun h => by lia, fun h => by lia⟩
noncomputable def eqB (a b : Int) : Bool := isZ (isub a b)
theorem eqB_eq (a b : Int) : eqB a b = decide (a = b) := by
  unfold eqB; rw [isZ_eq, isub_eq]; congr 1; exact propext ⟨fun h => by lia, fun h => by lia⟩
noncomputable def k_bad : K := fun o0 => none
noncomputable def k_non : K := fun o0 => some .none
noncomputable def kL (v : Int) : K := fun o0 => some (.int v)
noncomputable def k_var (g : R → Slot) : K := fun r => slV (g r)
noncomputable def kP (g : R → Slot) : K := fun r => slP (g r)
noncomputable def k_glb (g : Gl) : K := fun o0 => some (glv g)
noncomputable def o2 (f : PV → PV → Option PV) (x y : K) : K := fun r => ox (x r) fun u => ox (y r) fun v => f u v
noncomputable def v_add (u v : PV) : Option PV := match u with
  | .int a => isI (fun b => mkI (a + b)) v
  | .lst a => isL (fun b => fit (a ++ b)) v
  | _ => none
noncomputable def v_sub (u v : PV) : Option PV := match u with
  | .int a => isI (fun b => mkI (a - b)) v
  | .bool a => isB (fun b => mkI (b2i a - b2i b)) v
  | _ => none
noncomputable def v_mul (u v : PV) : Option PV := match u with
  | .int a => isI (fun b => bif sm a && sm b then mkI (a * b) else none) v
  | .lst l => isI (fun n => match l with | [x] => bif isN n then none else fit (List.replicate n.toNat x) | _ => none) v
  | _ => none
noncomputable def v_fdiv (u v : PV) : Option PV := match u with
  | .int a => isI (fun b => bif isZ b then none else bif sd b then mkI (Int.fdiv a b) else none) v
  | _ => none
noncomputable def v_mod (u v : PV) : Option PV := match u with
  | .int a => isI (fun b => bif isZ b then none else mkI (Int.fmod a b)) v
  | _ => none
noncomputable def v_pow (u v : PV) : Option PV := match u with
  | .int a => isI (fun b => match pow? a b with | some i => mkI i | none => none) v
  | _ => none
theorem v_add_eq (u v : PV) : v_add u v = bop .add u v := by cases u <;> cases v <;> first | rfl | exact mkI_eq _
theorem v_sub_eq (u v : PV) : v_sub u v = bop .sub u v := by cases u <;> cases v <;> first | rfl | exact mkI_eq _
theorem v_mul_eq (u v : PV) : v_mul u v = bop .mul u v := by
  cases u with
  | int a =>
    cases v with
    | int b =>
      show (bif sm a && sm b then mkI (a * b) else none) = (mul a b).map .int
      unfold mul
      rw [mkI_eq]
      cases (sm a && sm b) <;> rfl
    | _ => rfl
  | lst l =>
    rcases l with _ | ⟨x, _ | ⟨y, l⟩⟩
    · cases v <;> rfl
    · cases v with
      | int n =>
        show (bif isN n then none else fit (List.replicate n.toNat x)) = (if n < 0 then none else fit (List.replicate n.toNat x))
        rw [isN_eq]
        by_cases h : n < 0 <;> simp [h]
      | _ => rfl
    · cases v <;> rfl
  | _ => cases v <;> rfl
set_option tactic.hygienic true in
theorem v_fdiv_eq (u v : PV) : v_fdiv u v = bop .fdiv u v := by
  cases u <;> cases v <;> first | rfl | skip
  rename_i a b
  show (bif isZ b then none else bif sd b then mkI (Int.fdiv a b) else none) = (if b = 0 then none else if sd b then some (.int (Int.fdiv a b)) else none)
  rw [isZ_eq, mkI_eq]
  by_cases h : b = 0
  · simp [h]
  · simp only [h, decide_false, cond_false, if_false]
    cases sd b <;> rfl
set_option tactic.hygienic true in
theorem v_mod_eq (u v : PV) : v_mod u v = bop .mod u v := by
  cases u <;> cases v <;> first | rfl | skip
  rename_i a b
  show (bif isZ b then none else mkI (Int.fmod a b)) = (if b = 0 then none else some (.int (Int.fmod a b)))
  rw [isZ_eq, mkI_eq]
  by_cases h : b = 0 <;> simp [h]
set_option tactic.hygienic true in
theorem v_pow_eq (u v : PV) : v_pow u v = bop .pow u v := by
  cases u <;> cases v <;> first | rfl | skip
  rename_i a b
  show (match pow? a b with | some i => mkI i | none => none) = (pow? a b).map .int
  cases pow? a b with
  | none => rfl
  | some i => exact mkI_eq i
noncomputable def k_neg (x : K) : K := fun r => ox (x r) (isI fun i => mkI (-i))
noncomputable def someB (b : Bool) : Option PV := bif b then some (.bool true) else some (.bool false)
theorem someB_eq (b : Bool) : someB b = some (.bool b) := by cases b <;> rfl
noncomputable def w_eq (u v : PV) : Option PV := match u with
  | .int a => isI (fun b => someB (eqB a b)) v
  | .lst a => isL (fun b => match b with | [] => (match a with | [] => some (.bool true) | _ => some (.bool false)) | _ => none) v
  | _ => none
noncomputable def w_ne (u v : PV) : Option PV := match u with
  | .int a => isI (fun b => someB (!eqB a b)) v
  | .lst a => isL (fun b => match b with | [] => (match a with | [] => some (.bool false) | _ => some (.bool true)) | _ => none) v
  | .tup l => isT (fun m => (match i2? l with | some p => (match i2? m with | some q => someB (!(eqB p.1 q.1 && eqB p.2 q.2)) | none => none) | none => none)) v
  | _ => none
noncomputable def w_lt (u v : PV) : Option PV := match u with | .int a => isI (fun b => someB (ltB a b)) v | _ => none
noncomputable def w_le (u v : PV) : Option PV := match u with | .int a => isI (fun b => someB (!ltB b a)) v | _ => none
noncomputable def w_gt (u v : PV) : Option PV := match u with | .int a => isI (fun b => someB (ltB b a)) v | _ => none
noncomputable def w_ge (u v : PV) : Option PV := match u with | .int a => isI (fun b => someB (!ltB a b)) v | _ => none
set_option tactic.hygienic true in
theorem w_eq_eq (u v : PV) : w_eq u v = (cop .eq u v).map .bool := by
  cases u with
  | int a => cases v <;> first | rfl | (show someB (eqB _ _) = some (.bool (decide _)); rw [someB_eq, eqB_eq])
  | lst a => cases v <;> first | rfl | (rename_i b; cases b <;> first | (cases a <;> rfl) | rfl)
  | _ => cases v <;> first | rfl | (rename_i b; cases b <;> rfl)
set_option tactic.hygienic true in
theorem w_lt_eq (u v : PV) : w_lt u v = (cop .lt u v).map .bool := by
  cases u with
  | int a => cases v <;> first | rfl | (show someB (ltB _ _) = some (.bool (decide _)); rw [someB_eq, ltB_eq])
  | _ => cases v <;> first | rfl | (rename_i b; cases b <;> rfl)
set_option tactic.hygienic true in
theorem w_gt_eq (u v : PV) : w_gt u v = (cop .gt u v).map .bool := by
  cases u with
  | int a => cases v <;> first | rfl | (show someB (ltB _ _) = some (.bool (decide _)); rw [someB_eq, ltB_eq])
  | _ => cases v <;> first | rfl | (rename_i b; cases b <;> rfl)
set_option tactic.hygienic true in
theorem w_le_eq (u v : PV) : w_le u v = (cop .le u v).map .bool := by
  cases u with
  | int a =>
    cases v <;> first | rfl | skip
    rename_i b
    show someB (!ltB b a) = some (.bool (decide (a ≤ b)))
    rw [someB_eq, ltB_eq]
    by_cases h : a ≤ b
    · simp [h, Int.not_lt.mpr h]
    · simp [h, Int.not_le.mp h]
  | _ => cases v <;> first | rfl | (rename_i b; cases b <;> rfl)
set_option tactic.hygienic true in
theorem w_ge_eq (u v : PV) : w_ge u v = (cop .ge u v).map .bool := by
  cases u with
  | int a =>
    cases v <;> first | rfl | skip
    rename_i b
    show someB (!ltB a b) = some (.bool (decide (b ≤ a)))
    rw [someB_eq, ltB_eq]
    by_cases h : b ≤ a
    · simp [h, Int.not_lt.mpr h]
    · simp [h, Int.not_le.mp h]
  | _ => cases v <;> first | rfl | (rename_i b; cases b <;> rfl)
theorem w_ne_int (a b : Int) : someB (!eqB a b) = some (.bool (decide (a ≠ b))) := by
  rw [someB_eq, eqB_eq]
  by_cases h : a = b <;> simp [h]
theorem w_ne_tup (a b c d : Int) : someB (!(eqB a c && eqB b d)) = some (.bool (!(decide (a = c) && decide (b = d)))) := by
  rw [someB_eq, eqB_eq, eqB_eq]
end Mine.Internal
namespace Mine.Internal
set_option tactic.hygienic true in
theorem w_ne_eq (u v : PV) : w_ne u v = (cop .ne u v).map .bool := by
  cases u with
  | int a => cases v <;> first | rfl | exact w_ne_int _ _
  | lst a => cases v <;> first | rfl | (rename_i b; cases b <;> first | (cases a <;> rfl) | rfl)
  | tup l =>
    cases v with
    | tup m =>
      show (match i2? l with | some p => (match i2? m with | some q => someB (!(eqB p.1 q.1 && eqB p.2 q.2)) | none => none) | none => none) = ((i2? l).bind fun p => (i2? m).bind fun q => some (!(decide (p.1 = q.1) && decide (p.2 = q.2)))).map .bool
      cases i2? l with
      | none => rfl
      | some p => cases i2? m with
        | none => rfl
        | some q => exact w_ne_tup _ _ _ _
    | _ => rfl
  | _ => cases v <;> rfl
section
variable (D : Den)
noncomputable def Cmp (e : PE) (x : K) : Prop := ∀ r, pev D (toL r) e = x r
noncomputable def CmpP (e : PE) (x : K) : Prop := ∀ r, (∀ l, peek (toL r) e = some l → x r = some (.lst l)) ∧ (peek (toL r) e = none → x r = pev D (toL r) e)
end
section
variable {D : Den} {a b c e l : PE} {x y z : K}
theorem p_var {i : Nat} {g : R → Slot} (h : IsG i g) : CmpP D (.var i) (kP g) := fun r => by
  show (∀ l, (match pget (toL r) i with | .own l => some l | _ => none) = some l → slP (g r) = some (.lst l)) ∧ ((match pget (toL r) i with | .own l => some l | _ => none) = none → slP (g r) = match pget (toL r) i with | .val v => some v | _ => none)
  rw [h r]
  cases g r with
  | un => exact ⟨fun l h => no_none h, fun o0 => rfl⟩
  | val v => exact ⟨fun l h => no_none h, fun o0 => rfl⟩
  | own l => exact ⟨fun l' h => Option.some.inj h ▸ rfl, fun h => no_some h⟩
theorem p_of (h : Cmp D e x) (hn : ∀ i, e ≠ .var i) : CmpP D e x := fun r => by
  refine ⟨fun l hl => ?_, fun o0 => (h r).symm⟩
  cases e <;> first | (exfalso; exact no_none hl) | exact absurd rfl (hn _)
theorem CmpP.eq {f : PV → Option PV} (h : CmpP D e x) (r : R) : ((match peek (toL r) e with | some l => some (PV.lst l) | none => pev D (toL r) e).bind f) = (x r).bind f := by
  cases hp : peek (toL r) e with
  | none => rw [(h r).2 hp]
  | some l => rw [(h r).1 l hp]
theorem l_bad : Cmp D .bad k_bad := fun o0 => rfl
theorem l_non : Cmp D .non k_non := fun o0 => rfl
theorem lL (i : Int) : Cmp D (.lit i) (kL i) := fun o0 => rfl
theorem lV {i : Nat} {g : R → Slot} (h : IsG i g) : Cmp D (.var i) (k_var g) := fun r => by simp only [pv_var, h r, k_var, slV]; try (cases g r <;> rfl)
theorem l_glb (g : Gl) : Cmp D (.glb g) (k_glb g) := fun o0 => rfl
theorem o2_eq {f : PV → PV → Option PV} {r : R} {X Y : Option PV} (hx : X = x r) (hy : Y = y r) : (X.bind fun u => Y.bind fun v => f u v) = o2 f x y r := by
  subst hx hy; unfold o2; simp only [ox_eq]
theorem l_bin {o : BO} {f : PV → PV → Option PV} (hf : ∀ u v, f u v = bop o u v) (ha : Cmp D a x) (hb : Cmp D b y) : Cmp D (.bin o a b) (o2 f x y) := fun r => by
  rw [← o2_eq (ha r) (hb r)]; simp only [hf, pv_bin]
theorem l_cmp {o : CO} {f : PV → PV → Option PV} (hf : ∀ u v, f u v = (cop o u v).map .bool) (ha : CmpP D a x) (hb : Cmp D b y) : Cmp D (.cmp o a b) (o2 f x y) := fun r => by
  simp only [pv_cmp]
  unfold o2
  simp only [ox_eq, hf, ← hb r]
  exact ha.eq r
theorem l_neg (ha : Cmp D a x) : Cmp D (.neg a) (k_neg x) := fun r => by
  unfold k_neg
  simp only [pv_neg, ha r, ox_eq, mkI_eq]
noncomputable def notN (v : PV) : Option PV := match v with | .none => some (.bool false) | _ => some (.bool true)
noncomputable def k_notNone (x : K) : K := fun r => ox (x r) notN
theorem l_notNone (ha : Cmp D a x) : Cmp D (.notNone a) (k_notNone x) := fun r => by
  unfold k_notNone
  simp only [pv_notNone, ha r, ox_eq]
  cases x r with
  | none => rfl
  | some v => cases v <;> rfl
noncomputable def k_and (x y : K) : K := fun r => ox (x r) (isB fun b => bif b then ox (y r) (isB fun c => some (.bool c)) else some (.bool false))
noncomputable def k_or (x y : K) : K := fun r => ox (x r) (isB fun b => bif b then some (.bool true) else ox (y r) (isB fun c => some (.bool c)))
noncomputable def k_ite (c x y : K) : K := fun r => ox (c r) (isB fun b => bif b then x r else y r)
theorem l_and (ha : Cmp D a x) (hb : Cmp D b y) : Cmp D (.and a b) (k_and x y) := fun r => by
  unfold k_and
  simp only [pv_and, ha r, hb r, ox_eq]
  cases x r with
  | none => rfl
  | some v =>
    cases v <;> try rfl
set_option tactic.hygienic true in
theorem l_or (ha : Cmp D a x) (hb : Cmp D b y) : Cmp D (.or a b) (k_or x y) := fun r => by
  unfold k_or
  simp only [pv_or, ha r, hb r, ox_eq]
  cases x r with
  | none => rfl
  | some v =>
    cases v <;> try rfl
    rename_i t
    cases t <;> rfl
theorem l_ite (hc : Cmp D c z) (ha : Cmp D a x) (hb : Cmp D b y) : Cmp D (.ite c a b) (k_ite z x y) := fun r => by
  unfold k_ite
  simp only [pv_ite, hc r, ha r, hb r, ox_eq]
  cases z r with
  | none => rfl
  | some v =>
    cases v <;> try rfl
noncomputable def kN : K := fun o0 => some (.tup [])
noncomputable def consV (u : PV) (r : List PV) : Option PV := match u with | .itr _ => none | u => some (.tup (u :: r))
noncomputable def kC (x y : K) : K := fun r => ox (x r) fun u => ox (y r) (isT fun l => consV u l)
noncomputable def k_lst (x : K) : K := fun r => ox (x r) (isT fit)
theorem lN : Cmp D .nil kN := fun o0 => rfl
theorem lC (ha : Cmp D a x) (hl : Cmp D l y) : Cmp D (.cons a l) (kC x y) := fun r => by
  unfold kC
  simp only [pv_cons, ha r, hl r, ox_eq]
  cases x r with
  | none => rfl
  | some u => cases y r with
    | none => rfl
    | some v => cases u <;> cases v <;> rfl
theorem l_tup (hl : Cmp D l x) : Cmp D (.tup l) x := fun r => hl r
theorem l_lst (hl : Cmp D l x) : Cmp D (.lst l) (k_lst x) := fun r => by
  unfold k_lst
  simp only [pv_lst, hl r, ox_eq]
noncomputable def pidxF (l : List PV) (k : Int) : Option PV := match k with
  | .ofNat n => l[n]?
  | .negSucc n => bif Nat.blt n l.length then l[l.length - (n + 1)]? else none
theorem pidxF_eq (l : List PV) (k : Int) : pidxF l k = pidx l k := by
  cases k with
  | ofNat n =>
    unfold pidx
    exact (if_pos (Int.natCast_nonneg n)).symm
  | negSucc n =>
    unfold pidx
    refine Eq.trans ?_ (if_neg (Int.not_le.mpr (Int.negSucc_lt_zero n))).symm
    show (bif Nat.blt n l.length then l[l.length - (n + 1)]? else none) = _
    by_cases h : n < l.length
    · have h1 : Nat.blt n l.length = true := Nat.ble_eq_true_of_le h
      rw [h1, if_pos (by lia)]
      simp only [cond_true]
      congr 1
      lia
    · have h1 : Nat.blt n l.length = false := by
        cases e : Nat.blt n l.length with
        | false => rfl
        | true => exact absurd (Nat.le_of_ble_eq_true e) h
      rw [h1, if_neg (by lia)]; rfl
noncomputable def idxV (u : PV) (k : Int) : Option PV := match u with | .lst l => pidxF l k | .tup l => pidxF l k | _ => none
noncomputable def kI (x y : K) : K := fun r => ox (x r) fun u => ox (y r) (isI fun k => idxV u k)
theorem l_idx (ha : CmpP D a x) (hb : Cmp D b y) : Cmp D (.idx a b) (kI x y) := fun r => by
  unfold kI
  simp only [pv_idx, hb r, ox_eq]
  refine (ha.eq r).trans ?_
  cases x r with
  | none => rfl
  | some u => cases y r with
    | none => rfl
    | some v => cases u <;> cases v <;> first | rfl | exact (pidxF_eq _ _).symm
noncomputable def k_from (x y : K) : K := fun r => ox (x r) fun u => ox (y r) (isI fun k => isL (fun l => if 0 ≤ k then some (.lst (l.drop k.toNat)) else none) u)
noncomputable def k_upto (x y : K) : K := fun r => ox (x r) fun u => ox (y r) (isI fun k => isL (fun l => if 0 ≤ k then some (.lst (l.take k.toNat)) else none) u)
theorem l_from (ha : Cmp D a x) (hb : Cmp D b y) : Cmp D (.«from» a b) (k_from x y) := fun r => by
  unfold k_from
  simp only [pv_from, ha r, hb r, ox_eq]
theorem l_upto (ha : Cmp D a x) (hb : Cmp D b y) : Cmp D (.upto a b) (k_upto x y) := fun r => by
  unfold k_upto
  simp only [pv_upto, ha r, hb r, ox_eq]
noncomputable def k_call (n : List PV → Option PV) (x : K) : K := fun r => ox (x r) (isT n)
theorem lF {f : Fn} {n : List PV → Option PV} (hn : D f = n) (hl : Cmp D l x) : Cmp D (.call f l) (k_call n x) := fun r => by
  subst hn
  unfold k_call
  simp only [pv_call, hl r, ox_eq]
noncomputable def k_abs (x : K) : K := fun r => ox (x r) (isI fun i => match i with | .ofNat n => some (.int (.ofNat n)) | .negSucc n => some (.int (.ofNat (Nat.succ n))))
set_option tactic.hygienic true in
theorem l_abs (ha : Cmp D a x) : Cmp D (.abs a) (k_abs x) := fun r => by
  unfold k_abs
  simp only [pv_abs, ha r, ox_eq]
  cases x r with
  | none => rfl
  | some v =>
    cases v <;> try rfl
    rename_i i
    cases i with
    | ofNat n => show some (PV.int (if (Int.ofNat n) < 0 then -Int.ofNat n else Int.ofNat n)) = some (.int (.ofNat n)); rw [if_neg (by exact Int.not_lt.mpr (Int.natCast_nonneg n))]
    | negSucc n => show some (PV.int (if Int.negSucc n < 0 then -Int.negSucc n else Int.negSucc n)) = some (.int (.ofNat (Nat.succ n))); rw [if_pos (Int.negSucc_lt_zero n)]; rfl
noncomputable def k_len (x : K) : K := fun r => ox (x r) (isL fun l => mkI l.length)
theorem l_len (ha : CmpP D a x) : Cmp D (.len a) (k_len x) := fun r => by
  unfold k_len
  simp only [pv_len, ox_eq, mkI_eq]
  refine (ha.eq r).trans ?_; congr 1
noncomputable def k_list (x : K) : K := fun r => ox (x r) (isL fun l => some (.lst l))
theorem l_list (ha : Cmp D a x) : Cmp D (.list a) (k_list x) := fun r => by
  unfold k_list
  simp only [pv_list, ha r, ox_eq]
noncomputable def max2V (u v : PV) : Option PV := match u with | .int a => isI (fun b => bif ltB a b then some (.int b) else some (.int a)) v | _ => none
set_option tactic.hygienic true in
theorem l_max2 (ha : Cmp D a x) (hb : Cmp D b y) : Cmp D (.max2 a b) (o2 max2V x y) := fun r => by
  rw [← o2_eq (ha r) (hb r)]
  simp only [pv_max2]
  cases pev D (toL r) a with
  | none => rfl
  | some u => cases pev D (toL r) b with
    | none => rfl
    | some v =>
      cases u <;> cases v <;> try rfl
      rename_i i j
      show some (PV.int (if j > i then j else i)) = (bif ltB i j then some (.int j) else some (.int i))
      rw [ltB_eq]
      by_cases h : i < j <;> simp [h]
noncomputable def k_maxl (x : K) : K := fun r => ox (x r) (isL fun l => (maxInts l).map .int)
theorem l_maxl (ha : Cmp D a x) : Cmp D (.maxl a) (k_maxl x) := fun r => by
  unfold k_maxl
  simp only [pv_maxl, ha r, ox_eq]
noncomputable def k_any (x : K) : K := fun r => ox (x r) (isL fun l => (anyB l).map .bool)
theorem l_any (ha : Cmp D a x) : Cmp D (.any a) (k_any x) := fun r => by
  unfold k_any
  simp only [pv_any, ha r, ox_eq]
noncomputable def k_isstr (x : K) : K := fun r => ox (x r) (isT fun o0 => some (.bool false))
theorem l_isstr (ha : Cmp D a x) : Cmp D (.isstr a) (k_isstr x) := fun r => by
  unfold k_isstr
  simp only [pv_isstr, ha r, ox_eq]
noncomputable def k_rng1 (x : K) : K := fun r => ox (x r) (isI fun n => if 0 ≤ n ∧ n ≤ LL then some (.itr (rngPV 0 n)) else none)
theorem l_rng1 (ha : Cmp D a x) : Cmp D (.rng1 a) (k_rng1 x) := fun r => by
  unfold k_rng1
  simp only [pv_rng1, ha r, ox_eq]
noncomputable def rng2V (u v : PV) : Option PV := match u with | .int a => isI (fun b => if 0 ≤ a ∧ a ≤ LL ∧ 0 ≤ b ∧ b ≤ LL then some (.itr (rngPV a b)) else none) v | _ => none
theorem l_rng2 (ha : Cmp D a x) (hb : Cmp D b y) : Cmp D (.rng2 a b) (o2 rng2V x y) := fun r => by
  rw [← o2_eq (ha r) (hb r)]
  simp only [pv_rng2]
  cases pev D (toL r) a with
  | none => rfl
  | some u => cases pev D (toL r) b with
    | none => rfl
    | some v => cases u <;> cases v <;> rfl
noncomputable def k_enum (x : K) : K := fun r => ox (x r) (isL fun l => some (.itr (enumPV 0 l)))
theorem l_enum (ha : Cmp D a x) : Cmp D (.enum a) (k_enum x) := fun r => by
  unfold k_enum
  simp only [pv_enum, ha r, ox_eq]
noncomputable def k_rev (x : K) : K := fun r => ox (x r) (isL fun l => some (.itr l.reverse))
theorem l_rev (ha : Cmp D a x) : Cmp D (.rev a) (k_rev x) := fun r => by
  unfold k_rev
  simp only [pv_rev, ha r, ox_eq]
noncomputable def IsTg (t : Tg) (st : R → PV → Option R) (cl : R → R) : Prop := (∀ r v, ptg (toL r) t v = (st r v).map toL) ∧ ∀ r, clr t (toL r) = toL (cl r)
noncomputable def g1 (t : R → Slot → R) (r : R) (v : PV) : Option R := some (t r (.val v))
noncomputable def g2 (t u : R → Slot → R) (r : R) (v : PV) : Option R := match v with | .tup [a, b] => some (u (t r (.val a)) (.val b)) | _ => none
noncomputable def c1 (t : R → Slot → R) (r : R) : R := t r .un
noncomputable def c2 (t u : R → Slot → R) (r : R) : R := u (t r .un) .un
theorem tg_1 {i : Nat} {t : R → Slot → R} (h : IsT i t) : IsTg (.one i) (g1 t) (c1 t) := ⟨fun r v => by simp only [ptg, h r]; rfl, fun r => h r _⟩
set_option tactic.hygienic true in
theorem tg_2 {i j : Nat} {t u : R → Slot → R} (h : IsT i t) (h' : IsT j u) : IsTg (.two i j) (g2 t u) (c2 t u) := by
  refine ⟨fun r v => ?_, fun r => ?_⟩
  · cases v <;> try rfl
    rename_i l
    rcases l with _ | ⟨a, _ | ⟨b, _ | ⟨c, l⟩⟩⟩ <;> try rfl
    simp only [ptg, h r, h' _]; rfl
  · show pset (pset (toL r) i .un) j .un = _
    rw [h r, h' _]; rfl
noncomputable def kgo (st : R → PV → Option R) (f : K) (base : R) : List PV → Option (List PV)
  | [] => some []
  | x :: l => match st base x with
    | none => none
    | some r => match f r with
      | none => none
      | some y => match kgo st f base l with
        | none => none
        | some z => some (y :: z)
noncomputable def kgoIf (st : R → PV → Option R) (f c : K) (base : R) : List PV → Option (List PV)
  | [] => some []
  | x :: l => match st base x with
    | none => none
    | some r => match c r with
      | some (.bool true) => (match f r with
        | none => none
        | some y => match kgoIf st f c base l with
          | none => none
          | some z => some (y :: z))
      | some (.bool false) => kgoIf st f c base l
      | _ => none
theorem kgo_eq {t : Tg} {st : R → PV → Option R} {cl : R → R} {f : K} {F : List Slot → Option PV} (ht : IsTg t st cl) (hf : ∀ r, F (toL r) = f r) (base : R) : ∀ l, compGo (toL base) t F l = kgo st f base l
  | [] => rfl
  | x :: l => by
    show ((ptg (toL base) t x).bind fun ρ' => (F ρ').bind fun y => (compGo (toL base) t F l).map fun z => y :: z) = match st base x with | none => none | some r => match f r with | none => none | some y => match kgo st f base l with | none => none | some z => some (y :: z)
    rw [ht.1, kgo_eq ht hf base l]
    cases st base x with
    | none => rfl
    | some r =>
      show ((F (toL r)).bind fun y => (kgo st f base l).map fun z => y :: z) = match f r with | none => none | some y => match kgo st f base l with | none => none | some z => some (y :: z)
      rw [hf]
      cases f r with
      | none => rfl
      | some y => cases kgo st f base l <;> rfl
set_option tactic.hygienic true in
theorem kgoIf_eq {t : Tg} {st : R → PV → Option R} {cl : R → R} {f c : K} {F C : List Slot → Option PV} (ht : IsTg t st cl) (hf : ∀ r, F (toL r) = f r) (hc : ∀ r, C (toL r) = c r) (base : R) : ∀ l, compIfGo (toL base) t F C l = kgoIf st f c base l
  | [] => rfl
  | x :: l => by
    show ((ptg (toL base) t x).bind fun ρ' => (C ρ').bind fun b => match b with
      | .bool true => (F ρ').bind fun y => (compIfGo (toL base) t F C l).map fun z => y :: z
      | .bool false => compIfGo (toL base) t F C l
      | _ => none) = match st base x with
      | none => none
      | some r => match c r with
        | some (.bool true) => (match f r with
          | none => none
          | some y => match kgoIf st f c base l with
            | none => none
            | some z => some (y :: z))
        | some (.bool false) => kgoIf st f c base l
        | _ => none
    rw [ht.1, kgoIf_eq ht hf hc base l]
    cases st base x with
    | none => rfl
    | some r =>
      show ((C (toL r)).bind fun b => match b with
        | .bool true => (F (toL r)).bind fun y => (kgoIf st f c base l).map fun z => y :: z
        | .bool false => kgoIf st f c base l
        | _ => none) = match c r with
        | some (.bool true) => (match f r with
          | none => none
          | some y => match kgoIf st f c base l with
            | none => none
            | some z => some (y :: z))
        | some (.bool false) => kgoIf st f c base l
        | _ => none
      rw [hc]
      cases c r with
      | none => rfl
      | some b =>
        cases b <;> try rfl
        rename_i b
        cases b with
        | false => rfl
        | true =>
          show ((F (toL r)).bind fun y => (kgoIf st f c base l).map fun z => y :: z) = match f r with | none => none | some y => match kgoIf st f c base l with | none => none | some z => some (y :: z)
          rw [hf]
          cases f r with
          | none => rfl
          | some y => cases kgoIf st f c base l <;> rfl
noncomputable def lstO' (l : Option (List PV)) : Option PV := match l with | some l => some (.lst l) | none => none
noncomputable def k_comp (st : R → PV → Option R) (cl : R → R) (x y : K) : K := fun r => ox (y r) (isM fun l => bif Nat.ble l.length LL then lstO' (kgo st x (cl (hideR r)) l) else none)
noncomputable def k_compIf (st : R → PV → Option R) (cl : R → R) (x y c : K) : K := fun r => ox (y r) (isM fun l => bif Nat.ble l.length LL then lstO' (kgoIf st x c (cl (hideR r)) l) else none)
theorem lstO_eq (l : Option (List PV)) : lstO' l = l.map .lst := by cases l <;> rfl
theorem big_eq {α : Type} (n : Nat) (a b : α) : (bif Nat.ble n LL then a else b) = if n ≤ LL then a else b := by
  cases e : Nat.ble n LL with
  | true => exact (if_pos (Nat.le_of_ble_eq_true e)).symm
  | false => exact (if_neg (fun h : n ≤ LL => by rw [Nat.ble_eq_true_of_le h] at e; cases e)).symm
theorem l_comp {t : Tg} {st : R → PV → Option R} {cl : R → R} (ht : IsTg t st cl) (ha : Cmp D a x) (hb : Cmp D b y) : Cmp D (.comp a t b) (k_comp st cl x y) := fun r => by
  unfold k_comp
  simp only [pv_comp, hb r, ox_eq, lstO_eq, hide_toL, ht.2, big_eq, kgo_eq (F := fun ρ' => pev D ρ' a) ht ha]
theorem l_compIf {t : Tg} {st : R → PV → Option R} {cl : R → R} (ht : IsTg t st cl) (ha : Cmp D a x) (hb : Cmp D b y) (hc : Cmp D c z) : Cmp D (.compIf a t b c) (k_compIf st cl x y z) := fun r => by
  unfold k_compIf
  simp only [pv_compIf, hb r, ox_eq, lstO_eq, hide_toL, ht.2, big_eq, kgoIf_eq (F := fun ρ' => pev D ρ' a) (C := fun ρ' => pev D ρ' c) ht ha hc]
end
theorem kgo_e1 : kgo st f base ([]) = (some []) := rfl
theorem kgo_e2 : kgo st f base (x :: l) = (match st base x with
    | none => none
    | some r => match f r with
      | none => none
      | some y => match kgo st f base l with
        | none => none
        | some z => some (y :: z)) := rfl
theorem kgoIf_e1 : kgoIf st f c base ([]) = (some []) := rfl
theorem kgoIf_e2 : kgoIf st f c base (x :: l) = (match st base x with
    | none => none
    | some r => match c r with
      | some (.bool true) => (match f r with
        | none => none
        | some y => match kgoIf st f c base l with
          | none => none
          | some z => some (y :: z))
      | some (.bool false) => kgoIf st f c base l
      | _ => none) := rfl
end Mine.Internal
namespace Mine.Internal
section
variable {β : Type} {rb : β} {P : Prop}
theorem own_t {s : Slot} {f : List PV → Option β} (h : (match s with | .own l => f l | _ => none) = some rb) (k : ∀ l, s = .own l → f l = some rb → P) : P := by
  cases s with
  | own l => exact k l rfl h
  | _ => exact no_none h
theorem sint_t {s : Slot} {f : Int → Option β} (h : (match s with | .val (.int a) => f a | _ => none) = some rb) (k : ∀ a, s = .val (.int a) → f a = some rb → P) : P := by
  cases s with
  | val v => cases v with
    | int a => exact k a rfl h
    | _ => exact no_none h
  | _ => exact no_none h
theorem oint_t {o : Option PV} {f : Int → Option β} (h : (match o with | some (.int b) => f b | _ => none) = some rb) (k : ∀ a, o = some (.int a) → f a = some rb → P) : P := by
  cases o with
  | none => exact no_none h
  | some v => cases v with
    | int a => exact k a rfl h
    | _ => exact no_none h
theorem olst_t {o : Option PV} {f : List PV → Option β} (h : (match o with | some (.lst b) => f b | _ => none) = some rb) (k : ∀ a, o = some (.lst a) → f a = some rb → P) : P := by
  cases o with
  | none => exact no_none h
  | some v => cases v with
    | lst a => exact k a rfl h
    | _ => exact no_none h
theorem otup_t {o : Option PV} {f : List PV → Option β} (h : (match o with | some (.tup b) => f b | _ => none) = some rb) (k : ∀ a, o = some (.tup a) → f a = some rb → P) : P := by
  cases o with
  | none => exact no_none h
  | some v => cases v with
    | tup a => exact k a rfl h
    | _ => exact no_none h
theorem osm_t {o : Option PV} {f : PV → Option β} (h : (match o with | some v => f v | none => none) = some rb) (k : ∀ a, o = some a → f a = some rb → P) : P := by
  cases o with
  | none => exact no_none h
  | some v => exact k v rfl h
theorem osl_t {o : Option (List Slot)} {f : List Slot → Option β} (h : (match o with | some v => f v | none => none) = some rb) (k : ∀ a, o = some a → f a = some rb → P) : P := by
  cases o with
  | none => exact no_none h
  | some v => exact k v rfl h
theorem ovl_t {o : Option PV} {f : PV → β} (h : (match o with | none => none | some (.itr _) => none | some v => some (f v)) = some rb) (k : ∀ v, v.ok = true → o = some v → f v = rb → P) : P := by
  cases o with
  | none => exact no_none h
  | some v => cases v with
    | itr a => exact no_none h
    | _ => exact k _ rfl rfl (Option.some.inj h)
theorem bif_t {b : Bool} {x : β} (h : (bif b then some x else none) = some rb) (k : b = true → x = rb → P) : P := by
  cases b with
  | true => exact k rfl (Option.some.inj h)
  | false => exact no_none h
theorem onat_t {k : Int} {f : Nat → Option β} (h : (match k with | .ofNat n => f n | _ => none) = some rb) (kk : ∀ n, k = .ofNat n → f n = some rb → P) : P := by
  cases k with
  | ofNat n => exact kk n rfl h
  | negSucc n => exact no_none h
end
noncomputable abbrev RS := Option (Fl × R)
noncomputable abbrev S := R → RS
noncomputable def CmpS (D : Den) (p : PS) (h : S) : Prop := ∀ r fl r', h r = some (fl, r') → Ex D (toL r) p fl (toL r')
section
variable {D : Den} {a b c e l it : PE} {x y z : K} {p q : PS} {h k : S} {g : R → Slot} {t : R → Slot → R} {i : Nat}
noncomputable def q_bad : S := fun o0 => none
noncomputable def qK : S := fun r => some (.next, r)
noncomputable def q_then (k : S) (x : RS) : RS := match x with
  | none => none
  | some (.next, r) => k r
  | some (.ret v, r) => some (.ret v, r)
noncomputable def qS (h k : S) : S := fun r => q_then k (h r)
theorem m_bad : CmpS D .bad q_bad := fun o0 o0 o0 h => by cases h
theorem mK : CmpS D .skip qK := fun o0 o0 o0 h => by cases h; exact .skip
theorem then_t {k : S} {x : RS} {fl : Fl} {r' : R} {P : Prop} (h : q_then k x = some (fl, r')) (kn : ∀ r1, x = some (.next, r1) → k r1 = some (fl, r') → P) (kr : ∀ v, fl = .ret v → x = some (.ret v, r') → P) : P := by
  cases x with
  | none => exact no_none h
  | some p =>
    obtain ⟨f, r1⟩ := p
    cases f with
    | next => exact kn r1 rfl h
    | ret v => cases h; exact kr v rfl rfl
theorem mS (ha : CmpS D p h) (hb : CmpS D q k) : CmpS D (.seq p q) (qS h k) := fun r fl r' e => by
  refine then_t e (fun r1 e1 e => .seq (ha _ _ _ e1) (hb _ _ _ e)) fun v q e1 => ?_
  cases q; exact .seqR (ha _ _ _ e1)
noncomputable def fz (g : R → Slot) (t : R → Slot → R) (r : R) : R := match g r with | .own l => t r (.val (.lst l)) | _ => r
noncomputable def q_frz (g : R → Slot) (t : R → Slot → R) (h : S) : S := fun r => h (fz g t r)
set_option tactic.hygienic true in
theorem m_frz (hg : IsG i g) (ht : IsT i t) (hp : CmpS D p h) : CmpS D p (q_frz g t h) := fun r fl r' e => by
  have e1 := hp _ _ _ e
  unfold fz at e1
  split at e1
  · rename_i l hl
    rw [← ht r] at e1
    exact .frz ((hg r).trans hl) e1
  · exact e1
noncomputable def asgV (t : R → Slot → R) (r : R) (v : Option PV) : RS := match v with
  | none => none
  | some (.itr _) => none
  | some v => some (.next, t r (.val v))
noncomputable def qA (t : R → Slot → R) (x : K) : S := fun r => asgV t r (x r)
theorem mA (ht : IsT i t) (hx : Cmp D e x) : CmpS D (.asg i e) (qA t x) := fun r fl r' h => by
  refine ovl_t (o := x r) (f := fun v => (Fl.next, t r (.val v))) h fun v hn hv e => ?_
  cases e
  exact ht r _ ▸ .asg ((hx r).trans hv) hn
noncomputable def q_asgO (t : R → Slot → R) (x : K) : S := fun r => match x r with | some (.lst l) => some (.next, t r (.own l)) | _ => none
theorem m_asgO (hf : isFresh e = true) (ht : IsT i t) (hx : Cmp D e x) : CmpS D (.asg i e) (q_asgO t x) := fun r fl r' h => by
  refine olst_t (o := x r) h fun l hv e => ?_
  cases e
  exact ht r _ ▸ .asgO hf ((hx r).trans hv)
noncomputable abbrev KS := R → Option (List Slot)
noncomputable def CmpK (D : Den) (fs : List Bool) (e : PE) (x : KS) : Prop := ∀ r, pevs D (toL r) fs e = x r
noncomputable def n_nil : KS := fun o0 => some []
noncomputable def n_val (x : K) (k : KS) : KS := fun r => match x r with
  | none => none
  | some (.itr _) => none
  | some v => match k r with
    | none => none
    | some l => some (.val v :: l)
noncomputable def n_own (x : K) (k : KS) : KS := fun r => match x r with
  | some (.lst v) => (match k r with
    | none => none
    | some l => some (.own v :: l))
  | _ => none
theorem k_n : CmpK D [] .nil n_nil := fun o0 => rfl
theorem k_v {fs : List Bool} {ks : KS} (hx : Cmp D a x) (hk : CmpK D fs l ks) : CmpK D (false :: fs) (.cons a l) (n_val x ks) := fun r => by
  unfold n_val
  show (pev D (toL r) a).bind (fun u => (pevs D (toL r) fs l).bind fun v => _) = _
  rw [hx r, hk r]
  cases x r with
  | none => rfl
  | some v => cases ks r with
    | none => cases v <;> rfl
    | some l => cases v <;> rfl
theorem k_o {fs : List Bool} {ks : KS} (hf : isFresh a = true) (hx : Cmp D a x) (hk : CmpK D fs l ks) : CmpK D (true :: fs) (.cons a l) (n_own x ks) := fun r => by
  unfold n_own
  show (pev D (toL r) a).bind (fun u => (pevs D (toL r) fs l).bind fun v => _) = _
  rw [hx r, hk r]
  cases x r with
  | none => rfl
  | some v => cases ks r with
    | none => cases v <;> rfl
    | some l => cases v <;> first | rfl | exact if_pos hf
noncomputable abbrev ST := R → List Slot → Option R
noncomputable def IsSt (is : List Nat) (st : ST) : Prop := ∀ r ss r', st r ss = some r' → is.length = ss.length ∧ psets (toL r) (is.zip ss) = toL r'
noncomputable def st_n : ST := fun r ss => match ss with | [] => some r | _ => none
noncomputable def st_c (t : R → Slot → R) (k : ST) : ST := fun r ss => match ss with | s :: l => k (t r s) l | [] => none
theorem i_n : IsSt [] st_n := fun r ss r' h => by
  cases ss with
  | nil => cases h; exact ⟨rfl, rfl⟩
  | cons _ _ => cases h
theorem i_c {is : List Nat} {st : ST} (ht : IsT i t) (hs : IsSt is st) : IsSt (i :: is) (st_c t st) := fun r ss r' h => by
  cases ss with
  | nil => cases h
  | cons s l =>
    obtain ⟨h1, h2⟩ := hs _ _ _ h
    refine ⟨by simp [h1], ?_⟩
    show psets (pset (toL r) i s) (is.zip l) = _
    rw [ht r]; exact h2
noncomputable def nx (r : Option R) : RS := match r with | some r => some (.next, r) | none => none
noncomputable def asgTV (st : ST) (r : R) (v : Option (List Slot)) : RS := match v with | some l => nx (st r l) | none => none
noncomputable def qT (ks : KS) (st : ST) : S := fun r => asgTV st r (ks r)
theorem nx_t {o : Option R} {fl : Fl} {r' : R} {P : Prop} (h : nx o = some (fl, r')) (k : fl = .next → o = some r' → P) : P := by
  cases o with
  | none => exact no_none h
  | some r => cases h; exact k rfl rfl
theorem m_asgT {fs : List Bool} {is : List Nat} {ks : KS} {st : ST} (hk : CmpK D fs e ks) (hs : IsSt is st) : CmpS D (.asgT is e) (qT ks st) := fun r fl r' h => by
  refine osl_t (o := ks r) h fun l hl h => nx_t h fun q hq => ?_
  cases q
  have w := hs _ _ _ hq
  exact w.2 ▸ .asgT fs ((hk r).trans hl) w.1
noncomputable def unpV (st : ST) (r : R) (v : Option PV) : RS := match v with | some (.tup l) => nx (st r (l.map .val)) | _ => none
noncomputable def q_unp (x : K) (st : ST) : S := fun r => unpV st r (x r)
theorem m_unp {is : List Nat} {st : ST} (hx : Cmp D e x) (hs : IsSt is st) : CmpS D (.unp is e) (q_unp x st) := fun r fl r' h => by
  refine otup_t (o := x r) h fun l hl h => nx_t h fun q hq => ?_
  cases q
  have w := hs _ _ _ hq
  exact w.2 ▸ .unp ((hx r).trans hl) (w.1.trans (List.length_map ..))
noncomputable def q_pop (g : R → Slot) (t : R → Slot → R) (st : ST) : S := fun r => match g r with
  | .own l => (match l.reverse with
    | .tup tl :: rest => nx (st (t r (.own rest.reverse)) (tl.map .val))
    | _ => none)
  | _ => none
theorem last_t {β : Type} {rb : β} {P : Prop} {l : List PV} {f : List PV → List PV → Option β} (h : (match l.reverse with | .tup tl :: rest => f tl rest | _ => none) = some rb) (k : ∀ tl rest, l = rest.reverse ++ [.tup tl] → f tl rest = some rb → P) : P := by
  revert h
  generalize hq : l.reverse = q
  intro h
  cases q with
  | nil => exact no_none h
  | cons v rest => cases v with
    | tup tl => exact k tl rest (by rw [← List.reverse_cons, ← hq, List.reverse_reverse]) h
    | _ => exact no_none h
theorem m_pop {is : List Nat} {st : ST} (hg : IsG i g) (ht : IsT i t) (hs : IsSt is st) : CmpS D (.pop is i) (q_pop g t st) := fun r fl r' h => by
  refine own_t (s := g r) h fun l hl h => last_t h fun tl rest e2 h => nx_t h fun q hq => ?_
  cases q
  have w := hs _ _ _ hq
  rw [← w.2, ← ht r]
  exact .pop ((hg r).trans (hl.trans (congrArg Slot.own e2))) (w.1.trans (List.length_map ..))
noncomputable def setV (t : R → Slot → R) (r : R) (l : List PV) (v : PV) (k : Int) : RS := match k with
  | .ofNat n => bif v.ok && Nat.blt n l.length then some (.next, t r (.own (l.set n v))) else none
  | _ => none
noncomputable def q_seti (g : R → Slot) (t : R → Slot → R) (x y : K) : S := fun r => match y r with
  | some v => (match g r with
    | .own l => (match x r with
      | some (.int k) => setV t r l v k
      | _ => none)
    | _ => none)
  | none => none
theorem m_seti (hg : IsG i g) (ht : IsT i t) (hx : Cmp D a x) (hy : Cmp D e y) : CmpS D (.seti i a e) (q_seti g t x y) := fun r fl r' h => by
  refine osm_t (o := y r) h fun v hv h => own_t (s := g r) h fun l hl h => oint_t (o := x r) h fun k hk h => onat_t (k := k) h fun n hn h => bif_t h fun hb e => b2 hb fun b1 b2 => ?_
  cases e
  cases hn
  exact ht r _ ▸ .seti (k := Int.ofNat n) ((hy r).trans hv) b1 ((hg r).trans hl) ((hx r).trans hk) (Int.natCast_nonneg n) (Nat.le_of_ble_eq_true b2)
noncomputable def q_aug (g : R → Slot) (t : R → Slot → R) (f : PV → PV → Option PV) (y : K) : S := fun r => match g r with
  | .val (.int a) => (match y r with
    | some (.int b) => (match f (.int a) (.int b) with
      | some (.int i) => some (.next, t r (.val (.int i)))
      | _ => none)
    | _ => none)
  | _ => none
theorem m_aug {o : BO} {f : PV → PV → Option PV} (ho : augOk o = true) (hf : ∀ u v, f u v = bop o u v) (hg : IsG i g) (ht : IsT i t) (hy : Cmp D e y) : CmpS D (.aug i o e) (q_aug g t f y) := fun r fl r' h => by
  refine sint_t (s := g r) h fun a ha h => oint_t (o := y r) h fun b hb h => oint_t (o := f (.int a) (.int b)) h fun k hk e => ?_
  cases e
  exact ht r _ ▸ .aug ((hg r).trans ha) ((hy r).trans hb) ho ((hf _ _).symm.trans hk)
noncomputable def q_app (g : R → Slot) (t : R → Slot → R) (y : K) : S := fun r => match g r with
  | .own l => (match y r with
    | some v => bif v.ok && Nat.blt l.length LL then some (.next, t r (.own (l ++ [v]))) else none
    | none => none)
  | _ => none
theorem m_app (hg : IsG i g) (ht : IsT i t) (hy : Cmp D e y) : CmpS D (.app i e) (q_app g t y) := fun r fl r' h => by
  refine own_t (s := g r) h fun l hl h => osm_t (o := y r) h fun v hv h => bif_t h fun hb e => b2 hb fun b1 b2 => ?_
  cases e
  exact ht r _ ▸ .app ((hg r).trans hl) ((hy r).trans hv) b1 (Nat.le_of_ble_eq_true b2)
noncomputable def insV (t : R → Slot → R) (r : R) (l : List PV) (v : PV) (k : Int) : RS := match k with
  | .ofNat n => bif v.ok && (Nat.ble n l.length && Nat.blt l.length LL) then some (.next, t r (.own (l.take n ++ v :: l.drop n))) else none
  | _ => none
noncomputable def q_ins (g : R → Slot) (t : R → Slot → R) (x y : K) : S := fun r => match g r with
  | .own l => (match x r with
    | some (.int k) => (match y r with
      | some v => insV t r l v k
      | none => none)
    | _ => none)
  | _ => none
theorem m_ins (hg : IsG i g) (ht : IsT i t) (hx : Cmp D a x) (hy : Cmp D e y) : CmpS D (.ins i a e) (q_ins g t x y) := fun r fl r' h => by
  refine own_t (s := g r) h fun l hl h => oint_t (o := x r) h fun k hk h => osm_t (o := y r) h fun v hv h => onat_t (k := k) h fun n hn h => bif_t h fun hb e => b2 hb fun b1 h2 => b2 h2 fun b2 b3 => ?_
  cases e
  cases hn
  exact ht r _ ▸ .ins (k := Int.ofNat n) ((hg r).trans hl) ((hx r).trans hk) ((hy r).trans hv) b1 (Int.natCast_nonneg n) (Nat.le_of_ble_eq_true b2) (Nat.le_of_ble_eq_true b3)
noncomputable def q_exp (x : K) : S := fun r => match x r with | some .none => some (.next, r) | _ => none
theorem m_exp (hx : Cmp D e x) : CmpS D (.exp e) (q_exp x) := fun r fl r' h => by
  have : x r = some .none ∧ (Fl.next, r) = (fl, r') := by
    revert h
    unfold q_exp
    cases x r with
    | none => exact fun h => no_none h
    | some v => cases v with
      | none => exact fun h => ⟨rfl, Option.some.inj h⟩
      | _ => exact fun h => no_none h
  cases this.2
  exact .exp ((hx r).trans this.1)
noncomputable def qR (x : K) : S := fun r => match x r with | none => none | some (.itr _) => none | some v => some (.ret v, r)
theorem m_ret (hx : Cmp D e x) : CmpS D (.ret e) (qR x) := fun r fl r' h => by
  refine ovl_t (o := x r) (f := fun v => (Fl.ret v, r)) h fun v hn hv e => ?_
  cases e
  exact .ret ((hx r).trans hv) hn
noncomputable def tst (v : Option PV) (a b : RS) : RS := match v with
  | some (.bool true) => a
  | some (.bool false) => b
  | _ => none
noncomputable def qI (x : K) (h k : S) : S := fun r => tst (x r) (h r) (k r)
theorem tst_t {o : Option PV} {a b : RS} {q : Fl × R} {P : Prop} (h : tst o a b = some q) (kt : o = some (.bool true) → a = some q → P) (kf : o = some (.bool false) → b = some q → P) : P := by
  cases o with
  | none => exact no_none h
  | some v => cases v with
    | bool c => cases c with
      | true => exact kt rfl h
      | false => exact kf rfl h
    | _ => exact no_none h
theorem m_ife (hx : Cmp D c x) (ha : CmpS D p h) (hb : CmpS D q k) : CmpS D (.ife c p q) (qI x h k) := fun r fl r' e => by
  exact tst_t e (fun hv e => .ifeT ((hx r).trans hv) (ha _ _ _ e)) fun hv e => .ifeF ((hx r).trans hv) (hb _ _ _ e)
noncomputable def q_whl (x : K) (h : S) : Nat → S
  | 0, _ => none
  | n + 1, r => tst (x r) (q_then (q_whl x h n) (h r)) (some (.next, r))
theorem m_whl (n : Nat) (hx : Cmp D c x) (ha : CmpS D p h) : CmpS D (.whl c p) (q_whl x h n) := by
  induction n with
  | zero => intro r fl r' e; cases e
  | succ n ih =>
    intro r fl r' e
    refine tst_t e (fun hv e => then_t e (fun r1 e1 e => .whlT ((hx r).trans hv) (ha _ _ _ e1) (ih _ _ _ e)) fun v q e1 => ?_) fun hv e => ?_
    · cases q; exact .whlR ((hx r).trans hv) (ha _ _ _ e1)
    · cases e; exact .whlF ((hx r).trans hv)
noncomputable def q_go (st : R → PV → Option R) (h : S) : List PV → S
  | [], r => some (.next, r)
  | x :: l, r => match st r x with
    | none => none
    | some r1 => q_then (q_go st h l) (h r1)
noncomputable def itsV (k : List PV → RS) (v : Option PV) : RS := match v with
  | some (.lst l) => k l
  | some (.itr l) => k l
  | _ => none
noncomputable def q_for (st : R → PV → Option R) (x : K) (h : S) : S := fun r => itsV (fun l => q_go st h l r) (x r)
theorem m_go {tg : Tg} {st : R → PV → Option R} {cl : R → R} (ht : IsTg tg st cl) (ha : CmpS D p h) : ∀ l, CmpS D (.forI tg l p) (q_go st h l)
  | [], r, fl, r', e => by cases e; exact .forN
  | x :: l, r, fl, r', e => by
    revert e
    show (match st r x with | none => none | some r1 => q_then (q_go st h l) (h r1)) = some (fl, r') → _
    cases hs : st r x with
    | none => exact fun e => no_none e
    | some r1 =>
      intro e
      have h1 : ptg (toL r) tg x = some (toL r1) := by rw [ht.1, hs]; rfl
      refine then_t e (fun r2 e1 e => .forC h1 (ha _ _ _ e1) (m_go ht ha l _ _ _ e)) fun v q e1 => ?_
      cases q; exact .forR h1 (ha _ _ _ e1)
set_option tactic.hygienic true in
theorem m_for {tg : Tg} {st : R → PV → Option R} {cl : R → R} (ht : IsTg tg st cl) (hx : Cmp D it x) (ha : CmpS D p h) : CmpS D (.forr tg it p) (q_for st x h) := fun r fl r' e => by
  unfold q_for itsV at e
  split at e
  · rename_i l hv; exact .forr (by unfold pit; rw [hx r, hv]; rfl) (m_go ht ha l _ _ _ e)
  · rename_i l hv; exact .forr (by unfold pit; rw [hx r, hv]; rfl) (m_go ht ha l _ _ _ e)
  · cases e
noncomputable def fin (x : RS) : Option PV := match x with
  | some (.ret v, _) => some v
  | some (.next, _) => some .none
  | none => none
noncomputable def a1 (h : S) (args : List PV) : Option PV := match args with | [u] => fin (h ⟨.val u, .un, .un, .un, .un, .un, .un, .un, .un, .un⟩) | _ => none
noncomputable def a2 (h : S) (args : List PV) : Option PV := match args with | [u, v] => fin (h ⟨.val u, .val v, .un, .un, .un, .un, .un, .un, .un, .un⟩) | _ => none
noncomputable def a3 (h : S) (args : List PV) : Option PV := match args with | [u, v, w] => fin (h ⟨.val u, .val v, .val w, .un, .un, .un, .un, .un, .un, .un⟩) | _ => none
noncomputable abbrev Goes (D : Den) (f : Fn) (args : List PV) (r : PV) : Prop := args.length = f.arity ∧ ((∃ ρ', Ex D (init f args) f.body (.ret r) ρ') ∨ (r = .none ∧ ∃ ρ', Ex D (init f args) f.body .next ρ'))
set_option tactic.hygienic true in
theorem fin_ok {f : Fn} {args : List PV} {r0 : R} {r : PV} (h : S) (hb : f.body = p) (hc : CmpS D p h) (hi : init f args = toL r0) (e : fin (h r0) = some r) :
    (∃ ρ', Ex D (init f args) f.body (.ret r) ρ') ∨ (r = .none ∧ ∃ ρ', Ex D (init f args) f.body .next ρ') := by
  rw [hi, hb]
  unfold fin at e
  split at e
  · rename_i v r1 e1; cases e; exact .inl ⟨_, hc _ _ _ e1⟩
  · rename_i r1 e1; cases e; exact .inr ⟨rfl, _, hc _ _ _ e1⟩
  · cases e
theorem a1_ok {f : Fn} {args : List PV} {r : PV} (hf : f.arity = 1) (hb : f.body = p) (hc : CmpS D p h) (e : a1 h args = some r) : Goes D f args r := by
  unfold a1 at e
  split at e
  · exact ⟨hf.symm, fin_ok h hb hc rfl e⟩
  · cases e
theorem a2_ok {f : Fn} {args : List PV} {r : PV} (hf : f.arity = 2) (hb : f.body = p) (hc : CmpS D p h) (e : a2 h args = some r) : Goes D f args r := by
  unfold a2 at e
  split at e
  · exact ⟨hf.symm, fin_ok h hb hc rfl e⟩
  · cases e
theorem a3_ok {f : Fn} {args : List PV} {r : PV} (hf : f.arity = 3) (hb : f.body = p) (hc : CmpS D p h) (e : a3 h args = some r) : Goes D f args r := by
  unfold a3 at e
  split at e
  · exact ⟨hf.symm, fin_ok h hb hc rfl e⟩
  · cases e
end
section
variable {f : PV → Option PV} {v : PV} {l : List PV} {i : Int} {b : Bool} {t : R → Slot → R} {r : R} {k : S} {a c : RS} {u : List PV} {ss : List Slot} {st : ST} {s : Slot} {kl : List PV → RS}
theorem ox_s : ox (some v) f = f v := rfl
theorem slV_v : slV (.val v) = some v := rfl
theorem slP_v : slP (.val v) = some v := rfl
theorem slP_o : slP (.own l) = some (.lst l) := rfl
theorem tst1 : tst (some (.bool true)) a c = a := rfl
theorem tst0 : tst (some (.bool false)) a c = c := rfl
theorem asgV_i : asgV t r (some (.int i)) = some (.next, t r (.val (.int i))) := rfl
theorem asgV_t : asgV t r (some (.tup l)) = some (.next, t r (.val (.tup l))) := rfl
theorem asgV_l : asgV t r (some (.lst l)) = some (.next, t r (.val (.lst l))) := rfl
theorem th_n : q_then k (some (.next, r)) = k r := rfl
theorem th_r : q_then k (some (.ret v, r)) = some (.ret v, r) := rfl
theorem fin_r : fin (some (.ret v, r)) = some v := rfl
theorem fin_n : fin (some (.next, r)) = some .none := rfl
theorem cV_n : consV .none l = some (.tup (.none :: l)) := rfl
theorem cV_i : consV (.int i) l = some (.tup (.int i :: l)) := rfl
theorem cV_t : consV (.tup u) l = some (.tup (.tup u :: l)) := rfl
theorem cV_l : consV (.lst u) l = some (.tup (.lst u :: l)) := rfl
theorem iV_l : idxV (.lst l) i = pidxF l i := rfl
theorem iV_t : idxV (.tup l) i = pidxF l i := rfl
theorem its_l : itsV kl (some (.lst l)) = kl l := rfl
theorem its_i : itsV kl (some (.itr l)) = kl l := rfl
theorem unp_t : unpV st r (some (.tup l)) = nx (st r (l.map .val)) := rfl
theorem nx_s : nx (some r) = some (.next, r) := rfl
theorem stc_s : st_c t st r (s :: ss) = st (t r s) ss := rfl
theorem stn_n : st_n r [] = some r := rfl
theorem aTV_s : asgTV st r (some ss) = nx (st r ss) := rfl
theorem hs_v : hs (.val v) = .val v := rfl
theorem hs_u : hs .un = .un := rfl
theorem wEq {x y : Int} : w_eq (.int x) (.int y) = someB (eqB x y) := rfl
theorem wNe {x y : Int} : w_ne (.int x) (.int y) = someB (!eqB x y) := rfl
theorem wLt {x y : Int} : w_lt (.int x) (.int y) = someB (ltB x y) := rfl
theorem wLe {x y : Int} : w_le (.int x) (.int y) = someB (!ltB y x) := rfl
theorem wGt {x y : Int} : w_gt (.int x) (.int y) = someB (ltB y x) := rfl
end
theorem q_whl_e1 : q_whl x h (0) (w1) = (none) := rfl
theorem q_whl_e2 : q_whl x h (n + 1) (r) = (tst (x r) (q_then (q_whl x h n) (h r)) (some (.next, r))) := rfl
end Mine.Internal
namespace Mine.Internal
noncomputable abbrev Q := Int × Int
noncomputable def smF (x : Int) : Bool := match x with | .ofNat n => Nat.ble n BB | .negSucc n => Nat.ble (Nat.succ n) BB
theorem smF_eq (x : Int) : smF x = sm x := by cases x <;> rfl
noncomputable def frcM {α : Type} (n : Nat) (k : Nat → Option α) : Option α := @Nat.casesOn (fun o0 => Option α) n (k 0) (fun m => k (Nat.succ m))
noncomputable def frc {α : Type} (i : Int) (k : Int → Option α) : Option α := match i with
  | .ofNat n => frcM n fun m => k (.ofNat m)
  | .negSucc n => frcM n fun m => k (.negSucc m)
theorem frc_eq {α : Type} (i : Int) (k : Int → Option α) : frc i k = k i := by
  cases i with
  | ofNat n => cases n <;> rfl
  | negSucc n => cases n <;> rfl
noncomputable def mulK {α : Type} (a b : Int) (k : Int → Option α) : Option α := bif smF a && smF b then frc (imul a b) k else none
noncomputable def mgcd (a b : Int) : Int := Int.ofNat (Nat.gcd a.natAbs b.natAbs)
noncomputable def mgcdAll : Int → List Int → Int
  | g, [] => g
  | g, x :: r => mgcdAll (mgcd g x) r
noncomputable def fdK {α : Type} (a b : Int) (k : Int → Option α) : Option α := bif isZ b then none else bif smF b then frc (Int.fdiv a b) k else none
noncomputable def fmK {α : Type} (a b : Int) (k : Int → Option α) : Option α := bif isZ b then none else frc (Int.fmod a b) k
noncomputable def ratG (t b g : Int) : Option Q := fdK t g fun x => fdK b g fun y => some (x, y)
noncomputable def mrat (t b : Int) : Option Q := bif isZ b then none else frc (bif ltB 0 b then mgcd t b else isub 0 (mgcd t b)) fun g => ratG t b g
noncomputable def mradd (a b : Q) : Option Q := mulK a.1 b.2 fun x => mulK b.1 a.2 fun y => mulK a.2 b.2 fun z => frc (iadd x y) fun u => mrat u z
noncomputable def mrsub (a b : Q) : Option Q := mulK a.1 b.2 fun x => mulK b.1 a.2 fun y => mulK a.2 b.2 fun z => frc (isub x y) fun u => mrat u z
noncomputable def mrmul (a b : Q) : Option Q := mulK a.1 b.1 fun x => mulK a.2 b.2 fun z => mrat x z
noncomputable def sgn (x : Int) : Int := match x with
  | .ofNat n => bif Nat.beq n 0 then 0 else 1
  | .negSucc _ => -1
noncomputable def mrcompare (a b : Q) : Option Int := mulK a.1 b.2 fun x => mulK b.1 a.2 fun y => some (sgn (isub x y))
noncomputable def mrfloor (a : Q) : Option Int := fdK a.1 a.2 some
noncomputable def mztrim : List Int → List Int
  | [] => []
  | x :: r => match mztrim r with
    | [] => bif isZ x then [] else [x]
    | r' => x :: r'
noncomputable def mzaddU : List Int → List Int → List Int
  | [], b => b
  | a, [] => a
  | x :: a, y :: b => iadd x y :: mzaddU a b
noncomputable def mzadd (a b : List Int) : List Int := mztrim (mzaddU a b)
noncomputable def mzneg : List Int → List Int
  | [] => []
  | x :: r => ineg x :: mzneg r
noncomputable def mzsub (a b : List Int) : List Int := mzadd a (mzneg b)
noncomputable def mscl (k : Int) : List Int → Option (List Int)
  | [] => some []
  | x :: r => mulK x k fun y => match mscl k r with | some l => some (y :: l) | none => none
noncomputable def mzscale (p : List Int) (k : Int) : Option (List Int) := bif isZ k then some [] else mscl k p
noncomputable def zeros : Nat → List Int → List Int
  | 0, p => p
  | n + 1, p => 0 :: zeros n p
noncomputable def mzraise (p : List Int) (n : Nat) : List Int := match p with | [] => [] | p => zeros n p
noncomputable def mlead : List Int → Int
  | [] => 0
  | [x] => x
  | _ :: r => mlead r
noncomputable def mdivd (k : Int) : List Int → Option (List Int)
  | [] => some []
  | x :: r => fdK x k fun y => match mdivd k r with | some l => some (y :: l) | none => none
noncomputable def mprim (p : List Int) : Option (List Int) := match p with
  | [] => some []
  | p => let c := mgcdAll 0 p; mdivd (bif ltB 0 (mlead p) then c else ineg c) p
noncomputable def mderA (i : Int) : List Int → Option (List Int)
  | [] => some []
  | x :: r => mulK x i fun y => match mderA (iadd i 1) r with | some l => some (y :: l) | none => none
noncomputable def mderive (p : List Int) : Option (List Int) := match mderA 0 p with | some (_ :: r) => some r | some [] => some [] | none => none
noncomputable def setN : List Int → Nat → Int → List Int
  | [], _, _ => []
  | _ :: r, 0, v => v :: r
  | a :: r, n + 1, v => a :: setN r n v
noncomputable def exactGo (b : List Int) (lb : Int) (nb : Nat) : Nat → List Int → List Int → Option (Option (List Int))
  | 0, _, _ => none
  | n + 1, rest, found => bif Nat.blt rest.length nb then some (match rest with | [] => some (mztrim found) | _ => none)
    else fmK (mlead rest) lb fun m => bif isZ m then
      fdK (mlead rest) lb fun q => match mzscale b q with
        | some sb => exactGo b lb nb n (mzsub rest (mzraise sb (rest.length - nb))) (setN found (rest.length - nb) q)
        | none => none
      else some none
noncomputable def mexact (a b : List Int) : Option (Option (List Int)) := match b with | [] => none | b => exactGo b (mlead b) b.length 20 a (zeros (a.length + 1 - b.length) [])
noncomputable def pseudoGo (b : List Int) (first : Int) (nb : Nat) : Nat → List Int → List Int → Int → Option (List Int × List Int × Int)
  | 0, _, _, _ => none
  | n + 1, rest, found, left => bif Nat.blt rest.length nb then some (found, rest, left)
    else match mzscale found first with
      | none => none
      | some f1 => match mzscale rest first with
        | none => none
        | some r1 => match mzscale b (mlead rest) with
          | none => none
          | some s1 => pseudoGo b first nb n (mzsub r1 (mzraise s1 (rest.length - nb))) (mzsub f1 (mzraise [ineg (mlead rest)] (rest.length - nb))) (isub left 1)
noncomputable def powK {α : Type} (a b : Int) (k : Int → Option α) : Option α := match pow? a b with | some i => k i | none => none
noncomputable def mpseudo (a b : List Int) : Option (List Int × List Int × Nat) := match b with
  | [] => none
  | b => let many := a.length + 1 - b.length
    match pseudoGo b (mlead b) b.length 20 a [] many with
    | none => none
    | some (found, rest, left) => powK (mlead b) left fun more => match mzscale found more with
      | none => none
      | some f => match mzscale rest more with
        | none => none
        | some r => some (f, r, many)
noncomputable def mnexth (front : Int) (step : Nat) (height : Int) : Option Int := match step with
  | 0 => some height
  | step + 1 => powK front (step + 1 : Nat) fun x => powK height step fun y => fdK x y some
noncomputable def subresGo : Nat → List Int → List Int → Int → Int → List (List Int) → Option (List (List Int))
  | 0, _, _, _, _, _ => none
  | n + 1, a, b, front, height, row => match b with
    | [] => some row
    | [_] => some row
    | b => match mpseudo a b with
      | none => none
      | some (_, rest, _) => match rest with
        | [] => some row
        | rest => powK height (a.length - b.length : Nat) fun y => mulK front y fun d => match mdivd d rest with
          | none => none
          | some b' => match mnexth (mlead b) (a.length - b.length) height with
            | none => none
            | some h' => subresGo n b b' (mlead b) h' (row ++ [b'])
noncomputable def msubres (a b : List Int) : Option (List (List Int)) := bif Nat.blt a.length b.length then subresGo 20 b a 1 1 [b, a] else subresGo 20 a b 1 1 [a, b]
noncomputable def lastP : List (List Int) → List Int
  | [] => []
  | [x] => x
  | _ :: r => lastP r
noncomputable def mzgcd (a b : List Int) : Option (List Int) := match a, b with
  | [], b => (match mprim b with | some p => mzscale p (mgcdAll 0 b) | none => none)
  | a, [] => (match mprim a with | some p => mzscale p (mgcdAll 0 a) | none => none)
  | a, b => match mprim a with
    | none => none
    | some pa => match mprim b with
      | none => none
      | some pb => match msubres pa pb with
        | none => none
        | some row => let number := mgcd (mgcdAll 0 a) (mgcdAll 0 b)
          match lastP row with
          | _ :: _ :: _ => (match mprim (lastP row) with | some p => mzscale p number | none => none)
          | _ => some [number]
noncomputable def mvsGo (t b : Int) : List Int → Int → Int → Option Int
  | [], f, _ => some (sgn f)
  | c :: r, f, s => mulK f t fun x => mulK c s fun y => mulK s b fun s' => frc (iadd x y) fun u => mvsGo t b r u s'
noncomputable def mvsign (p : List Int) (x : Q) : Option Int := mvsGo x.1 x.2 p.reverse 0 1
noncomputable def msimple (f : List Int) : Option (List Int) := match mderive f with
  | none => none
  | some d => match mzgcd f d with
    | none => none
    | some c => match c with
      | _ :: _ :: _ => (match mexact f c with | some (some l) => some l | _ => none)
      | _ => some f
noncomputable def mlessened (p : List Int) : Option (List Int) := bif ltB 1 (mgcdAll 0 p) then mdivd (mgcdAll 0 p) p else some p
noncomputable def mnextrow (a b : List Int) : Option (List Int) := match mpseudo a b with
  | none => none
  | some (_, rest, power) => bif Nat.beq (power % 2) 1 && isN (mlead b) then mlessened rest else mlessened (mzneg rest)
noncomputable def sturmGo : Nat → List Int → List Int → List (List Int) → Option (List (List Int))
  | 0, _, _, _ => none
  | n + 1, prev, later, found => match later with
    | [] => some found
    | later => match mnextrow prev later with
      | none => none
      | some nx => sturmGo n later nx (found ++ [later])
noncomputable def msturm (f : List Int) : Option (List (List Int)) := match mderive f with | none => none | some d => sturmGo 20 f d [f]
noncomputable def chgGo (x : Q) : List (List Int) → Int → Int → Option Int
  | [], _, n => some n
  | p :: r, l, n => match mvsign p x with
    | none => none
    | some s => bif isZ s then chgGo x r l n else bif isZ l || eqB l s then chgGo x r s n else chgGo x r s (iadd n 1)
noncomputable def mchanges (row : List (List Int)) (x : Q) : Option Int := chgGo x row 0 0
noncomputable def maxAbs : Nat → List Int → Nat
  | m, [] => m
  | m, x :: r => bif Nat.blt m x.natAbs then maxAbs x.natAbs r else maxAbs m r
noncomputable def mbound (f : List Int) : Option Int := fdK (maxAbs 0 f : Int) (mlead f).natAbs fun q => some (iadd 2 q)
noncomputable def mmiddle (a b : Q) : Option Q := match mradd a b with | some s => mrmul s (1, 2) | none => none
noncomputable abbrev Iv := Q × Q
noncomputable def splitGo (f : List Int) (row : List (List Int)) : Nat → List Iv → List Iv → Option (List Iv × Option Q)
  | 0, _, _ => none
  | _ + 1, [], found => some (found, none)
  | n + 1, iv :: w, found => match mchanges row iv.1 with
    | none => none
    | some a => match mchanges row iv.2 with
      | none => none
      | some b => bif eqB (isub a b) 1 then splitGo f row n w (found ++ [iv]) else bif ltB 1 (isub a b) then
          (match mmiddle iv.1 iv.2 with
          | none => none
          | some x => match mvsign f x with
            | none => none
            | some s => bif isZ s then some ([], some x) else splitGo f row n ((iv.1, x) :: (x, iv.2) :: w) found)
        else splitGo f row n w found
noncomputable def msplit (f : List Int) : Option (List Iv × Option Q) := match msturm f with
  | none => none
  | some row => match mbound f with
    | none => none
    | some b => splitGo f row 300 [((ineg b, 1), (b, 1))] []
noncomputable def isolGo : Nat → List Int → List Q → Option (List Int × List Q × List Iv)
  | 0, _, _ => none
  | n + 1, left, exact => match left with
    | _ :: _ :: _ => (match msplit left with
      | none => none
      | some (found, none) => some (left, exact, found)
      | some (_, some x) => match mexact left [ineg x.1, x.2] with
        | some (some l) => isolGo n l (exact ++ [x])
        | _ => none)
    | left => some (left, exact, [])
noncomputable def eqQ (a b : Q) : Bool := eqB a.1 b.1 && eqB a.2 b.2
noncomputable def mhalved (f : List Int) (iv : Iv) : Option Iv := match mmiddle iv.1 iv.2 with
  | none => none
  | some x => match mvsign f x with
    | none => none
    | some here => bif isZ here then some (x, x) else match mvsign f iv.1 with
      | none => none
      | some s => bif eqB here s then some (x, iv.2) else some (iv.1, x)
noncomputable def minside (x : Q) (iv : Iv) : Option Bool := match mrcompare iv.1 x with
  | none => none
  | some c => bif ltB 0 c then some false else match mrcompare x iv.2 with
    | none => none
    | some c => some (!ltB 0 c)
noncomputable def anyIn (iv : Iv) : List Q → Option Bool
  | [] => some false
  | x :: r => match minside x iv with
    | none => none
    | some b => match anyIn iv r with
      | none => none
      | some c => some (b || c)
noncomputable def keptGo (f : List Int) (nums : List Q) : Nat → Iv → Option Iv
  | 0, _ => none
  | n + 1, iv => bif eqQ iv.1 iv.2 then some iv else match anyIn iv nums with
    | none => none
    | some true => (match mhalved f iv with | none => none | some iv' => keptGo f nums n iv')
    | some false => some iv
noncomputable def keptAll (f : List Int) (nums : List Q) : List Iv → Option (List Iv)
  | [] => some []
  | iv :: r => match keptGo f nums 500 iv with
    | none => none
    | some a => match keptAll f nums r with
      | none => none
      | some l => some (a :: l)
noncomputable def insI (p : Iv) : List Iv → Option (List Iv)
  | [] => some [p]
  | y :: r => match mrcompare y.2 p.2 with
    | none => none
    | some c => bif isN c then (match insI p r with | none => none | some l => some (y :: l)) else some (p :: y :: r)
noncomputable def sortI : List Iv → List Iv → Option (List Iv)
  | [], acc => some acc
  | p :: r, acc => match insI p acc with | none => none | some a => sortI r a
noncomputable def misolate (f : List Int) : Option (List Iv) := match f with
  | [] => none
  | f => match msimple f with
    | none => none
    | some left => match isolGo 20 left [] with
      | none => none
      | some (left, exact, found) => match keptAll left exact found with
        | none => none
        | some ks => sortI (exact.map (fun x => (x, x)) ++ ks) []
noncomputable def refineGo (left : List Int) (width : Q) : Nat → Iv → Option Iv
  | 0, _ => none
  | n + 1, iv => match mrsub iv.2 iv.1 with
    | none => none
    | some d => match mrcompare d width with
      | none => none
      | some c => bif ltB 0 c then (match mhalved left iv with | none => none | some iv' => refineGo left width n iv') else some iv
noncomputable def mrefine (left : List Int) (iv : Iv) (width : Q) : Option Iv := match mrcompare width (0, 1) with
  | none => none
  | some c => bif ltB 0 c then refineGo left width 900 iv else none
noncomputable def triedGo (left : List Int) (lead : Int) : List Iv → Option (List Q)
  | [] => some []
  | iv :: r => mulK 2 lead fun w => match mrefine left iv (1, w) with
    | none => none
    | some h => match mrmul h.2 (lead, 1) with
      | none => none
      | some p => match mrfloor p with
        | none => none
        | some fl => match mrat fl lead with
          | none => none
          | some q => match triedGo left lead r with | none => none | some l => some (q :: l)
noncomputable def mtried (f : List Int) : Option (List Q) := match f with
  | [] => none
  | [_] => none
  | [c0, c1] => (match mrat (ineg c0) c1 with | some q => some [q] | none => none)
  | c0 :: r => bif Nat.ble (max c0.natAbs (mlead r).natAbs) 10000000000 then none
    else match misolate (c0 :: r) with
      | none => none
      | some ivs => match msimple (c0 :: r) with
        | none => none
        | some left => triedGo left (mlead r).natAbs ivs
noncomputable def rootGo (x : Q) : Nat → List Int → Int → Option (List Int × Int)
  | 0, _, _ => none
  | n + 1, left, many => match left with
    | _ :: _ :: _ => (match mvsign left x with
      | none => none
      | some s => bif isZ s then (match mexact left [ineg x.1, x.2] with
        | some (some l) => rootGo x n l (iadd many 1)
        | _ => none) else some (left, many))
    | left => some (left, many)
noncomputable def rootsAll : List Q → List Int → List (Q × Int) → Option (List (Q × Int))
  | [], _, found => some found
  | x :: r, left, found => match rootGo x 20 left 0 with
    | none => none
    | some (l, m) => rootsAll r l (bif ltB 0 m then found ++ [(x, m)] else found)
noncomputable def insR (p : Q × Int) : List (Q × Int) → Option (List (Q × Int))
  | [] => some [p]
  | y :: r => match mrcompare y.1 p.1 with
    | none => none
    | some c => bif isN c then (match insR p r with | none => none | some l => some (y :: l)) else some (p :: y :: r)
noncomputable def sortR : List (Q × Int) → List (Q × Int) → Option (List (Q × Int))
  | [], acc => some acc
  | p :: r, acc => match insR p acc with | none => none | some a => sortR r a
theorem splitGo_e1 : splitGo f row (0) (w1) (w2) = (none) := rfl
theorem splitGo_e2 : splitGo f row (w1 + 1) ([]) (found) = (some (found, none)) := rfl
theorem splitGo_e3 : splitGo f row (n + 1) (iv :: w) (found) = (match mchanges row iv.1 with
    | none => none
    | some a => match mchanges row iv.2 with
      | none => none
      | some b => bif eqB (isub a b) 1 then splitGo f row n w (found ++ [iv]) else bif ltB 1 (isub a b) then
          (match mmiddle iv.1 iv.2 with
          | none => none
          | some x => match mvsign f x with
            | none => none
            | some s => bif isZ s then some ([], some x) else splitGo f row n ((iv.1, x) :: (x, iv.2) :: w) found)
        else splitGo f row n w found) := rfl
theorem pseudoGo_e1 : pseudoGo b first nb (0) (w1) (w2) (w3) = (none) := rfl
theorem pseudoGo_e2 : pseudoGo b first nb (n + 1) (rest) (found) (left) = (bif Nat.blt rest.length nb then some (found, rest, left)
    else match mzscale found first with
      | none => none
      | some f1 => match mzscale rest first with
        | none => none
        | some r1 => match mzscale b (mlead rest) with
          | none => none
          | some s1 => pseudoGo b first nb n (mzsub r1 (mzraise s1 (rest.length - nb))) (mzsub f1 (mzraise [ineg (mlead rest)] (rest.length - nb))) (isub left 1)) := rfl
theorem subresGo_e1 : subresGo  (0) (w1) (w2) (w3) (w4) (w5) = (none) := rfl
theorem subresGo_e2 : subresGo  (n + 1) (a) (b) (front) (height) (row) = (match b with
    | [] => some row
    | [_] => some row
    | b => match mpseudo a b with
      | none => none
      | some (_, rest, _) => match rest with
        | [] => some row
        | rest => powK height (a.length - b.length : Nat) fun y => mulK front y fun d => match mdivd d rest with
          | none => none
          | some b' => match mnexth (mlead b) (a.length - b.length) height with
            | none => none
            | some h' => subresGo n b b' (mlead b) h' (row ++ [b'])) := rfl
theorem exactGo_e1 : exactGo b lb nb (0) (w1) (w2) = (none) := rfl
theorem exactGo_e2 : exactGo b lb nb (n + 1) (rest) (found) = (bif Nat.blt rest.length nb then some (match rest with | [] => some (mztrim found) | _ => none)
    else fmK (mlead rest) lb fun m => bif isZ m then
      fdK (mlead rest) lb fun q => match mzscale b q with
        | some sb => exactGo b lb nb n (mzsub rest (mzraise sb (rest.length - nb))) (setN found (rest.length - nb) q)
        | none => none
      else some none) := rfl
theorem triedGo_e1 : triedGo left lead ([]) = (some []) := rfl
theorem triedGo_e2 : triedGo left lead (iv :: r) = (mulK 2 lead fun w => match mrefine left iv (1, w) with
    | none => none
    | some h => match mrmul h.2 (lead, 1) with
      | none => none
      | some p => match mrfloor p with
        | none => none
        | some fl => match mrat fl lead with
          | none => none
          | some q => match triedGo left lead r with | none => none | some l => some (q :: l)) := rfl
theorem chgGo_e1 : chgGo x ([]) (w1) (n) = (some n) := rfl
theorem chgGo_e2 : chgGo x (p :: r) (l) (n) = (match mvsign p x with
    | none => none
    | some s => bif isZ s then chgGo x r l n else bif isZ l || eqB l s then chgGo x r s n else chgGo x r s (iadd n 1)) := rfl
theorem mvsGo_e1 : mvsGo t b ([]) (f) (w1) = (some (sgn f)) := rfl
theorem mvsGo_e2 : mvsGo t b (c :: r) (f) (s) = (mulK f t fun x => mulK c s fun y => mulK s b fun s' => frc (iadd x y) fun u => mvsGo t b r u s') := rfl
theorem refineGo_e1 : refineGo left width (0) (w1) = (none) := rfl
theorem refineGo_e2 : refineGo left width (n + 1) (iv) = (match mrsub iv.2 iv.1 with
    | none => none
    | some d => match mrcompare d width with
      | none => none
      | some c => bif ltB 0 c then (match mhalved left iv with | none => none | some iv' => refineGo left width n iv') else some iv) := rfl
theorem isolGo_e1 : isolGo  (0) (w1) (w2) = (none) := rfl
theorem isolGo_e2 : isolGo  (n + 1) (left) (exact) = (match left with
    | _ :: _ :: _ => (match msplit left with
      | none => none
      | some (found, none) => some (left, exact, found)
      | some (_, some x) => match mexact left [ineg x.1, x.2] with
        | some (some l) => isolGo n l (exact ++ [x])
        | _ => none)
    | left => some (left, exact, [])) := rfl
theorem keptGo_e1 : keptGo f nums (0) (w1) = (none) := rfl
theorem keptGo_e2 : keptGo f nums (n + 1) (iv) = (bif eqQ iv.1 iv.2 then some iv else match anyIn iv nums with
    | none => none
    | some true => (match mhalved f iv with | none => none | some iv' => keptGo f nums n iv')
    | some false => some iv) := rfl
theorem insI_e1 : insI p ([]) = (some [p]) := rfl
theorem insI_e2 : insI p (y :: r) = (match mrcompare y.2 p.2 with
    | none => none
    | some c => bif isN c then (match insI p r with | none => none | some l => some (y :: l)) else some (p :: y :: r)) := rfl
theorem insR_e1 : insR p ([]) = (some [p]) := rfl
theorem insR_e2 : insR p (y :: r) = (match mrcompare y.1 p.1 with
    | none => none
    | some c => bif isN c then (match insR p r with | none => none | some l => some (y :: l)) else some (p :: y :: r)) := rfl
theorem rootsAll_e1 : rootsAll  ([]) (w1) (found) = (some found) := rfl
theorem rootsAll_e2 : rootsAll  (x :: r) (left) (found) = (match rootGo x 20 left 0 with
    | none => none
    | some (l, m) => rootsAll r l (bif ltB 0 m then found ++ [(x, m)] else found)) := rfl
theorem keptAll_e1 : keptAll f nums ([]) = (some []) := rfl
theorem keptAll_e2 : keptAll f nums (iv :: r) = (match keptGo f nums 500 iv with
    | none => none
    | some a => match keptAll f nums r with
      | none => none
      | some l => some (a :: l)) := rfl
theorem mderA_e1 : mderA i ([]) = (some []) := rfl
theorem mderA_e2 : mderA i (x :: r) = (mulK x i fun y => match mderA (iadd i 1) r with | some l => some (y :: l) | none => none) := rfl
theorem anyIn_e1 : anyIn iv ([]) = (some false) := rfl
theorem anyIn_e2 : anyIn iv (x :: r) = (match minside x iv with
    | none => none
    | some b => match anyIn iv r with
      | none => none
      | some c => some (b || c)) := rfl
theorem mdivd_e1 : mdivd k ([]) = (some []) := rfl
theorem mdivd_e2 : mdivd k (x :: r) = (fdK x k fun y => match mdivd k r with | some l => some (y :: l) | none => none) := rfl
theorem mscl_e1 : mscl k ([]) = (some []) := rfl
theorem mscl_e2 : mscl k (x :: r) = (mulK x k fun y => match mscl k r with | some l => some (y :: l) | none => none) := rfl
theorem sortR_e1 : sortR  ([]) (acc) = (some acc) := rfl
theorem sortR_e2 : sortR  (p :: r) (acc) = (match insR p acc with | none => none | some a => sortR r a) := rfl
theorem sortI_e1 : sortI  ([]) (acc) = (some acc) := rfl
theorem sortI_e2 : sortI  (p :: r) (acc) = (match insI p acc with | none => none | some a => sortI r a) := rfl
end Mine.Internal
namespace Mine.Internal
noncomputable def x_gcd (args : List PV) : Option PV := match i2? args with | some p => some (.int (mgcd p.1 p.2)) | none => none
theorem peek_var {ρ : List Slot} {i : Nat} : peek ρ (.var i) = (match pget ρ i with | .own l => some l | _ => none) := rfl
theorem peek_idx {ρ : List Slot} {a b : PE} : peek ρ (.idx a b) = none := rfl
theorem pevs_v {D : Den} {ρ : List Slot} {fs : List Bool} {a l : PE} : pevs D ρ (false :: fs) (.cons a l) = (pev D ρ a).bind fun x => (pevs D ρ fs l).bind fun r => nI x (some (.val x :: r)) := rfl
theorem pevs_n {D : Den} {ρ : List Slot} {fs : List Bool} : pevs D ρ fs .nil = some [] := rfl
theorem gcd_loop (D : Den) : ∀ (n : Nat) (a b : Nat) (r : R), b ≤ n → r.s0 = .val (.int a) → r.s1 = .val (.int b) → ∃ r', r'.s0 = .val (.int (Nat.gcd a b)) ∧
    Ex D (toL r) (.whl (.cmp .ne (.var 1) (.lit 0)) (.seq (.asgT [0, 1] (.cons (.var 1) (.cons (.bin .mod (.var 0) (.var 1)) .nil))) .skip)) .next (toL r') := by
  intro n
  induction n with
  | zero =>
    intro a b r hb h0 h1
    have : b = 0 := by lia
    subst this
    refine ⟨r, by rw [h0]; simp, .whlF ?_⟩
    simp only [pv_lit, pv_var, pv_cmp, peek_var, toL, pget_e1, pget_e2, pget_e3, h1, Option.bind_some, cN]
    simp
  | succ n ih =>
    intro a b r hb h0 h1
    by_cases hz : b = 0
    · subst hz
      refine ⟨r, by rw [h0]; simp, .whlF ?_⟩
      simp only [pv_lit, pv_var, pv_cmp, peek_var, toL, pget_e1, pget_e2, pget_e3, h1, Option.bind_some, cN]
      simp
    · obtain ⟨r', e1, e2⟩ := ih b (a % b) (t1 (t0 r (.val (.int b))) (.val (.int ((a % b : Nat) : Int)))) (by have := Nat.mod_lt a (Nat.pos_of_ne_zero hz); lia) rfl rfl
      refine ⟨r', ?_, .whlT (ρ1 := toL (t1 (t0 r (.val (.int b))) (.val (.int ((a % b : Nat) : Int))))) ?_ (.seq (.asgT [false, false] (ss := [.val (.int b), .val (.int ((a % b : Nat) : Int))]) ?_ rfl) .skip) e2⟩
      · rw [e1, Nat.gcd_comm a b, Nat.gcd_rec b a, Nat.gcd_comm]
      · simp only [pv_lit, pv_var, pv_cmp, peek_var, toL, pget_e1, pget_e2, pget_e3, h1, Option.bind_some, cN]
        simp [hz]
      · have hz' : (b : Int) ≠ 0 := by lia
        simp only [pevs_v, pevs_n, pv_var, pv_bin, toL, pget_e1, pget_e2, pget_e3, h0, h1, Option.bind_some, bO, jN, if_neg hz']
        simp [Int.fmod_eq_emod_of_nonneg]
theorem gcd_goes (D : Den) (args : List PV) (r : PV) (h : x_gcd args = some r) : Goes D .f_gcd args r := by
  revert h
  unfold x_gcd
  cases hi : i2? args with
  | none => exact fun h => no_none h
  | some p =>
    obtain ⟨a, b⟩ := p
    intro h
    cases i2_eq hi
    cases h
    refine ⟨rfl, .inl ?_⟩
    obtain ⟨r', e1, e2⟩ := gcd_loop D b.natAbs a.natAbs b.natAbs ⟨.val (.int a.natAbs), .val (.int b.natAbs), .un, .un, .un, .un, .un, .un, .un, .un⟩ (Nat.le_refl _) rfl rfl
    have ab : ∀ i : Int, (if i < 0 then -i else i) = (i.natAbs : Int) := fun i => by split <;> lia
    refine ⟨toL r', .seq (ρ1 := toL ⟨.val (.int a.natAbs), .val (.int b.natAbs), .un, .un, .un, .un, .un, .un, .un, .un⟩) (.asgT [false, false] (ss := [.val (.int a.natAbs), .val (.int b.natAbs)]) ?_ rfl) (.seq e2 (.seqR (.ret ?_ rfl)))⟩
    · simp only [pevs_v, pevs_n, pv_var, pv_abs, init, List.map_cons, List.map_nil, List.cons_append, pget_e1, pget_e2, pget_e3, Option.bind_some, jI, jN, ab]
    · simp only [pv_var, toL, pget_e1, pget_e2, pget_e3, e1]
      rfl
end Mine.Internal
namespace Mine.Internal
noncomputable def n_gcd : List PV → Option PV := x_gcd
noncomputable def h_gcd_all : S := (qS (qA t1 (kL 0)) (qS (q_for (g1 t2) (k_var R.s0) (qS (qA t1 (k_call n_gcd (kC (k_var R.s1) (kC (k_var R.s2) kN)))) qK)) (qS (qR (k_var R.s1)) qK)))
noncomputable def n_gcd_all : List PV → Option PV := a1 h_gcd_all
noncomputable def h_rat : S := (qS (qI (o2 w_eq (kP R.s1) (kL 0)) (qS q_bad qK) qK) (qS (qA t2 (k_ite (o2 w_gt (kP R.s1) (kL 0)) (k_call n_gcd (kC (k_var R.s0) (kC (k_var R.s1) kN))) (o2 v_sub (kL 0) (k_call n_gcd (kC (k_var R.s0) (kC (k_var R.s1) kN)))))) (qS (qR (kC (o2 v_fdiv (k_var R.s0) (k_var R.s2)) (kC (o2 v_fdiv (k_var R.s1) (k_var R.s2)) kN))) qK)))
noncomputable def n_rat : List PV → Option PV := a2 h_rat
noncomputable def h_radd : S := (qS (qR (k_call n_rat (kC (o2 v_add (o2 v_mul (kI (kP R.s0) (kL 0)) (kI (kP R.s1) (kL 1))) (o2 v_mul (kI (kP R.s1) (kL 0)) (kI (kP R.s0) (kL 1)))) (kC (o2 v_mul (kI (kP R.s0) (kL 1)) (kI (kP R.s1) (kL 1))) kN)))) qK)
noncomputable def n_radd : List PV → Option PV := a2 h_radd
noncomputable def h_rsub : S := (qS (qR (k_call n_rat (kC (o2 v_sub (o2 v_mul (kI (kP R.s0) (kL 0)) (kI (kP R.s1) (kL 1))) (o2 v_mul (kI (kP R.s1) (kL 0)) (kI (kP R.s0) (kL 1)))) (kC (o2 v_mul (kI (kP R.s0) (kL 1)) (kI (kP R.s1) (kL 1))) kN)))) qK)
noncomputable def n_rsub : List PV → Option PV := a2 h_rsub
noncomputable def h_rmul : S := (qS (qR (k_call n_rat (kC (o2 v_mul (kI (kP R.s0) (kL 0)) (kI (kP R.s1) (kL 0))) (kC (o2 v_mul (kI (kP R.s0) (kL 1)) (kI (kP R.s1) (kL 1))) kN)))) qK)
noncomputable def n_rmul : List PV → Option PV := a2 h_rmul
noncomputable def h_rcompare : S := (qS (qA t2 (o2 v_sub (o2 v_mul (kI (kP R.s0) (kL 0)) (kI (kP R.s1) (kL 1))) (o2 v_mul (kI (kP R.s1) (kL 0)) (kI (kP R.s0) (kL 1))))) (qS (qR (o2 v_sub (o2 w_gt (kP R.s2) (kL 0)) (o2 w_lt (kP R.s2) (kL 0)))) qK))
noncomputable def n_rcompare : List PV → Option PV := a2 h_rcompare
noncomputable def h_rfloor : S := (qS (qR (o2 v_fdiv (kI (kP R.s0) (kL 0)) (kI (kP R.s0) (kL 1)))) qK)
noncomputable def n_rfloor : List PV → Option PV := a1 h_rfloor
noncomputable def h_ztrim : S := (qS (qA t1 (k_len (kP R.s0))) (qS (q_whl (k_and (o2 w_gt (kP R.s1) (kL 0)) (o2 w_eq (kI (kP R.s0) (o2 v_sub (k_var R.s1) (kL 1))) (kL 0))) (qS (q_aug R.s1 t1 v_sub (kL 1)) qK) 1000) (qS (qR (k_list (k_upto (k_var R.s0) (k_var R.s1)))) qK)))
noncomputable def n_ztrim : List PV → Option PV := a1 h_ztrim
noncomputable def h_zdegree : S := (qS (qR (o2 v_sub (k_len (kP R.s0)) (kL 1))) qK)
noncomputable def n_zdegree : List PV → Option PV := a1 h_zdegree
noncomputable def h_zlead : S := (qS (qR (k_ite (o2 w_gt (k_len (kP R.s0)) (kL 0)) (kI (kP R.s0) (k_neg (kL 1))) (kL 0))) qK)
noncomputable def n_zlead : List PV → Option PV := a1 h_zlead
noncomputable def h_zadd : S := (qS (qA t2 (o2 max2V (k_len (kP R.s0)) (k_len (kP R.s1)))) (qS (qR (k_call n_ztrim (kC (k_comp (g1 t3) (c1 t3) (o2 v_add (k_ite (o2 w_lt (kP R.s3) (k_len (kP R.s0))) (kI (kP R.s0) (k_var R.s3)) (kL 0)) (k_ite (o2 w_lt (kP R.s3) (k_len (kP R.s1))) (kI (kP R.s1) (k_var R.s3)) (kL 0))) (k_rng1 (k_var R.s2))) kN))) qK))
noncomputable def n_zadd : List PV → Option PV := a2 h_zadd
noncomputable def h_zneg : S := (qS (qR (k_comp (g1 t1) (c1 t1) (k_neg (k_var R.s1)) (k_var R.s0))) qK)
noncomputable def n_zneg : List PV → Option PV := a1 h_zneg
noncomputable def h_zsub : S := (qS (qR (k_call n_zadd (kC (k_var R.s0) (kC (k_call n_zneg (kC (k_var R.s1) kN)) kN)))) qK)
noncomputable def n_zsub : List PV → Option PV := a2 h_zsub
noncomputable def h_zscale : S := (qS (qR (k_ite (o2 w_ne (kP R.s1) (kL 0)) (k_comp (g1 t2) (c1 t2) (o2 v_mul (k_var R.s2) (k_var R.s1)) (k_var R.s0)) (k_lst kN))) qK)
noncomputable def n_zscale : List PV → Option PV := a2 h_zscale
noncomputable def h_zraise : S := (qS (qR (k_ite (o2 w_gt (k_len (kP R.s0)) (kL 0)) (o2 v_add (o2 v_mul (k_lst (kC (kL 0) kN)) (k_var R.s1)) (k_list (k_var R.s0))) (k_lst kN))) qK)
noncomputable def n_zraise : List PV → Option PV := a2 h_zraise
noncomputable def h_zcontent : S := (qS (qR (k_call n_gcd_all (kC (k_var R.s0) kN))) qK)
noncomputable def n_zcontent : List PV → Option PV := a1 h_zcontent
noncomputable def h_zdivided : S := (qS (qR (k_comp (g1 t2) (c1 t2) (o2 v_fdiv (k_var R.s2) (k_var R.s1)) (k_var R.s0))) qK)
noncomputable def n_zdivided : List PV → Option PV := a2 h_zdivided
noncomputable def h_zprimitive : S := (qS (qI (o2 w_eq (k_len (kP R.s0)) (kL 0)) (qS (qR (k_lst kN)) qK) qK) (qS (qA t1 (k_call n_zcontent (kC (k_var R.s0) kN))) (qS (qR (k_call n_zdivided (kC (k_var R.s0) (kC (k_ite (o2 w_gt (kI (kP R.s0) (k_neg (kL 1))) (kL 0)) (k_var R.s1) (k_neg (k_var R.s1))) kN)))) qK)))
noncomputable def n_zprimitive : List PV → Option PV := a1 h_zprimitive
noncomputable def h_zderive : S := (qS (qR (k_from (k_comp (g2 t1 t2) (c2 t1 t2) (o2 v_mul (k_var R.s2) (k_var R.s1)) (k_enum (k_var R.s0))) (kL 1))) qK)
noncomputable def n_zderive : List PV → Option PV := a1 h_zderive
noncomputable def h_check_bottom : S := (qS (qI (o2 w_eq (k_len (kP R.s0)) (kL 0)) (qS q_bad qK) qK) qK)
noncomputable def n_check_bottom : List PV → Option PV := a1 h_check_bottom
noncomputable def h_zexact : S := (qS (q_exp (k_call n_check_bottom (kC (k_var R.s1) kN))) (qS (qT (n_val (k_list (k_var R.s0)) (n_own (o2 v_mul (k_lst (kC (kL 0) kN)) (o2 max2V (kL 0) (o2 v_add (o2 v_sub (k_len (kP R.s0)) (k_len (kP R.s1))) (kL 1)))) n_nil)) (st_c t2 (st_c t3 st_n))) (qS (q_whl (o2 w_ge (k_len (kP R.s2)) (k_len (kP R.s1))) (qS (qI (o2 w_ne (o2 v_mod (kI (kP R.s2) (k_neg (kL 1))) (kI (kP R.s1) (k_neg (kL 1)))) (kL 0)) (qS (qR k_non) qK) qK) (qS (qT (n_val (o2 v_fdiv (kI (kP R.s2) (k_neg (kL 1))) (kI (kP R.s1) (k_neg (kL 1)))) (n_val (o2 v_sub (k_len (kP R.s2)) (k_len (kP R.s1))) n_nil)) (st_c t4 (st_c t5 st_n))) (qS (q_seti R.s3 t3 (k_var R.s5) (k_var R.s4)) (qS (qA t2 (k_call n_zsub (kC (k_var R.s2) (kC (k_call n_zraise (kC (k_call n_zscale (kC (k_var R.s1) (kC (k_var R.s4) kN))) (kC (k_var R.s5) kN))) kN)))) qK)))) 1000) (qS (q_frz R.s3 t3 (qR (k_ite (o2 w_eq (k_len (kP R.s2)) (kL 0)) (k_call n_ztrim (kC (k_var R.s3) kN)) k_non))) qK))))
noncomputable def n_zexact : List PV → Option PV := a2 h_zexact
noncomputable def h_pseudo : S := (qS (q_exp (k_call n_check_bottom (kC (k_var R.s1) kN))) (qS (qA t2 (o2 max2V (kL 0) (o2 v_add (o2 v_sub (k_len (kP R.s0)) (k_len (kP R.s1))) (kL 1)))) (qS (qT (n_val (k_list (k_var R.s0)) (n_val (k_lst kN) (n_val (k_var R.s2) (n_val (k_call n_zlead (kC (k_var R.s1) kN)) n_nil)))) (st_c t3 (st_c t4 (st_c t5 (st_c t6 st_n))))) (qS (q_whl (o2 w_ge (k_len (kP R.s3)) (k_len (kP R.s1))) (qS (qT (n_val (kI (kP R.s3) (k_neg (kL 1))) (n_val (o2 v_sub (k_len (kP R.s3)) (k_len (kP R.s1))) n_nil)) (st_c t7 (st_c t8 st_n))) (qS (qA t4 (k_call n_zsub (kC (k_call n_zscale (kC (k_var R.s4) (kC (k_var R.s6) kN))) (kC (k_call n_zraise (kC (k_lst (kC (k_neg (k_var R.s7)) kN)) (kC (k_var R.s8) kN))) kN)))) (qS (qA t3 (k_call n_zsub (kC (k_call n_zscale (kC (k_var R.s3) (kC (k_var R.s6) kN))) (kC (k_call n_zraise (kC (k_call n_zscale (kC (k_var R.s1) (kC (k_var R.s7) kN))) (kC (k_var R.s8) kN))) kN)))) (qS (q_aug R.s5 t5 v_sub (kL 1)) qK)))) 1000) (qS (qA t9 (o2 v_pow (k_var R.s6) (k_var R.s5))) (qS (qR (kC (k_call n_zscale (kC (k_var R.s4) (kC (k_var R.s9) kN))) (kC (k_call n_zscale (kC (k_var R.s3) (kC (k_var R.s9) kN))) (kC (k_var R.s2) kN)))) qK))))))
noncomputable def n_pseudo : List PV → Option PV := a2 h_pseudo
noncomputable def h_zpseudo_rest : S := (qS (qR (kI (k_call n_pseudo (kC (k_var R.s0) (kC (k_var R.s1) kN))) (kL 1))) qK)
noncomputable def n_zpseudo_rest : List PV → Option PV := a2 h_zpseudo_rest
noncomputable def h_next_height : S := (qS (qI (o2 w_eq (kP R.s1) (kL 0)) (qS (qR (k_var R.s2)) qK) qK) (qS (qR (o2 v_fdiv (o2 v_pow (k_var R.s0) (k_var R.s1)) (o2 v_pow (k_var R.s2) (o2 v_sub (k_var R.s1) (kL 1))))) qK))
noncomputable def n_next_height : List PV → Option PV := a3 h_next_height
noncomputable def h_subresultants : S := (qS (qI (o2 w_lt (k_len (kP R.s0)) (k_len (kP R.s1))) (qS (qT (n_val (k_var R.s1) (n_val (k_var R.s0) n_nil)) (st_c t0 (st_c t1 st_n))) qK) qK) (qS (qT (n_own (k_lst (kC (k_list (k_var R.s0)) (kC (k_list (k_var R.s1)) kN))) (n_val (kL 1) (n_val (kL 1) n_nil))) (st_c t2 (st_c t3 (st_c t4 st_n)))) (qS (q_whl (o2 w_gt (k_len (kP R.s1)) (kL 1)) (qS (qA t5 (o2 v_sub (k_len (kP R.s0)) (k_len (kP R.s1)))) (qS (qA t6 (k_call n_zpseudo_rest (kC (k_var R.s0) (kC (k_var R.s1) kN)))) (qS (qI (o2 w_eq (k_len (kP R.s6)) (kL 0)) (qS (q_frz R.s2 t2 (qR (k_var R.s2))) qK) qK) (qS (qT (n_val (k_var R.s1) (n_val (k_call n_zdivided (kC (k_var R.s6) (kC (o2 v_mul (k_var R.s3) (o2 v_pow (k_var R.s4) (k_var R.s5))) kN))) n_nil)) (st_c t0 (st_c t1 st_n))) (qS (q_app R.s2 t2 (k_var R.s1)) (qS (qA t3 (k_call n_zlead (kC (k_var R.s0) kN))) (qS (qA t4 (k_call n_next_height (kC (k_var R.s3) (kC (k_var R.s5) (kC (k_var R.s4) kN))))) qK))))))) 1000) (qS (q_frz R.s2 t2 (qR (k_var R.s2))) qK))))
noncomputable def n_subresultants : List PV → Option PV := a2 h_subresultants
noncomputable def h_zgcd : S := (qS (qI (k_or (o2 w_eq (k_len (kP R.s0)) (kL 0)) (o2 w_eq (k_len (kP R.s1)) (kL 0))) (qS (qA t2 (k_ite (o2 w_eq (k_len (kP R.s0)) (kL 0)) (k_var R.s1) (k_var R.s0))) (qS (qR (k_call n_zscale (kC (k_call n_zprimitive (kC (k_var R.s2) kN)) (kC (k_call n_zcontent (kC (k_var R.s2) kN)) kN)))) qK)) qK) (qS (qA t3 (k_call n_gcd (kC (k_call n_zcontent (kC (k_var R.s0) kN)) (kC (k_call n_zcontent (kC (k_var R.s1) kN)) kN)))) (qS (qA t4 (kI (k_call n_subresultants (kC (k_call n_zprimitive (kC (k_var R.s0) kN)) (kC (k_call n_zprimitive (kC (k_var R.s1) kN)) kN))) (k_neg (kL 1)))) (qS (qR (k_ite (o2 w_gt (k_len (kP R.s4)) (kL 1)) (k_call n_zscale (kC (k_call n_zprimitive (kC (k_var R.s4) kN)) (kC (k_var R.s3) kN))) (k_lst (kC (k_var R.s3) kN)))) qK))))
noncomputable def n_zgcd : List PV → Option PV := a2 h_zgcd
noncomputable def h_sign_of : S := (qS (qR (o2 v_sub (o2 w_gt (kP R.s0) (kL 0)) (o2 w_lt (kP R.s0) (kL 0)))) qK)
noncomputable def n_sign_of : List PV → Option PV := a1 h_sign_of
noncomputable def h_value_sign : S := (qS (q_unp (k_var R.s1) (st_c t2 (st_c t3 st_n))) (qS (qT (n_val (kL 0) (n_val (kL 1) n_nil)) (st_c t4 (st_c t5 st_n))) (qS (q_for (g1 t6) (k_rev (k_var R.s0)) (qS (qA t4 (o2 v_add (o2 v_mul (k_var R.s4) (k_var R.s2)) (o2 v_mul (k_var R.s6) (k_var R.s5)))) (qS (qA t5 (o2 v_mul (k_var R.s5) (k_var R.s3))) qK))) (qS (qR (k_call n_sign_of (kC (k_var R.s4) kN))) qK))))
noncomputable def n_value_sign : List PV → Option PV := a2 h_value_sign
noncomputable def h_sign_at : S := (qS (qR (k_ite (k_isstr (k_var R.s1)) k_bad (k_call n_value_sign (kC (k_var R.s0) (kC (k_var R.s1) kN))))) qK)
noncomputable def n_sign_at : List PV → Option PV := a2 h_sign_at
noncomputable def h_simple_part : S := (qS (qA t1 (k_call n_zgcd (kC (k_var R.s0) (kC (k_call n_zderive (kC (k_var R.s0) kN)) kN)))) (qS (qR (k_ite (o2 w_gt (k_call n_zdegree (kC (k_var R.s1) kN)) (kL 0)) (k_call n_zexact (kC (k_var R.s0) (kC (k_var R.s1) kN))) (k_var R.s0))) qK))
noncomputable def n_simple_part : List PV → Option PV := a1 h_simple_part
noncomputable def h_lessened : S := (qS (qA t1 (k_call n_zcontent (kC (k_var R.s0) kN))) (qS (qR (k_ite (o2 w_gt (kP R.s1) (kL 1)) (k_comp (g1 t2) (c1 t2) (o2 v_fdiv (k_var R.s2) (k_var R.s1)) (k_var R.s0)) (k_var R.s0))) qK))
noncomputable def n_lessened : List PV → Option PV := a1 h_lessened
noncomputable def h_next_of_row : S := (qS (q_unp (k_call n_pseudo (kC (k_var R.s0) (kC (k_var R.s1) kN))) (st_c t2 (st_c t3 (st_c t4 st_n)))) (qS (qI (k_and (o2 w_eq (o2 v_mod (k_var R.s4) (kL 2)) (kL 1)) (o2 w_lt (k_call n_zlead (kC (k_var R.s1) kN)) (kL 0))) (qS (qR (k_call n_lessened (kC (k_var R.s3) kN))) qK) qK) (qS (qR (k_call n_lessened (kC (k_call n_zneg (kC (k_var R.s3) kN)) kN))) qK)))
noncomputable def n_next_of_row : List PV → Option PV := a2 h_next_of_row
noncomputable def h_sturm_row : S := (qS (qT (n_own (k_lst (kC (k_var R.s0) kN)) (n_val (k_call n_zderive (kC (k_var R.s0) kN)) n_nil)) (st_c t1 (st_c t2 st_n))) (qS (q_whl (o2 w_ne (kP R.s2) (k_lst kN)) (qS (q_app R.s1 t1 (k_var R.s2)) (qS (qA t2 (k_call n_next_of_row (kC (kI (kP R.s1) (k_neg (kL 2))) (kC (kI (kP R.s1) (k_neg (kL 1))) kN)))) qK)) 1000) (qS (q_frz R.s1 t1 (qR (k_var R.s1))) qK)))
noncomputable def n_sturm_row : List PV → Option PV := a1 h_sturm_row
noncomputable def h_changes_at : S := (qS (qA t2 (k_comp (g1 t3) (c1 t3) (k_call n_sign_at (kC (k_var R.s3) (kC (k_var R.s1) kN))) (k_var R.s0))) (qS (qA t2 (k_compIf (g1 t4) (c1 t4) (k_var R.s4) (k_var R.s2) (o2 w_ne (kP R.s4) (kL 0)))) (qS (qR (k_len (k_compIf (g1 t5) (c1 t5) (kL 1) (o2 rng2V (kL 1) (k_len (kP R.s2))) (o2 w_ne (kI (kP R.s2) (k_var R.s5)) (kI (kP R.s2) (o2 v_sub (k_var R.s5) (kL 1))))))) qK)))
noncomputable def n_changes_at : List PV → Option PV := a2 h_changes_at
noncomputable def h_count_by_row : S := (qS (qR (o2 v_sub (k_call n_changes_at (kC (k_var R.s0) (kC (k_var R.s1) kN))) (k_call n_changes_at (kC (k_var R.s0) (kC (k_var R.s2) kN))))) qK)
noncomputable def n_count_by_row : List PV → Option PV := a3 h_count_by_row
noncomputable def h_root_bound : S := (qS (qA t1 (k_maxl (k_comp (g1 t2) (c1 t2) (k_abs (k_var R.s2)) (k_var R.s0)))) (qS (qR (o2 v_add (kL 2) (o2 v_fdiv (k_var R.s1) (k_abs (k_call n_zlead (kC (k_var R.s0) kN)))))) qK))
noncomputable def n_root_bound : List PV → Option PV := a1 h_root_bound
noncomputable def h_middle : S := (qS (qR (k_call n_rmul (kC (k_call n_radd (kC (k_var R.s0) (kC (k_var R.s1) kN))) (kC (k_glb .half) kN)))) qK)
noncomputable def n_middle : List PV → Option PV := a2 h_middle
noncomputable def h_linear_of : S := (qS (qR (k_lst (kC (k_neg (kI (kP R.s0) (kL 0))) (kC (kI (kP R.s0) (kL 1)) kN)))) qK)
noncomputable def n_linear_of : List PV → Option PV := a1 h_linear_of
noncomputable def h_is_inside : S := (qS (qR (k_and (o2 w_le (k_call n_rcompare (kC (kI (kP R.s1) (kL 0)) (kC (k_var R.s0) kN))) (kL 0)) (o2 w_le (k_call n_rcompare (kC (k_var R.s0) (kC (kI (kP R.s1) (kL 1)) kN))) (kL 0)))) qK)
noncomputable def n_is_inside : List PV → Option PV := a2 h_is_inside
noncomputable def h_split_roots : S := (qS (qT (n_val (k_call n_sturm_row (kC (k_var R.s0) kN)) (n_val (k_call n_root_bound (kC (k_var R.s0) kN)) n_nil)) (st_c t1 (st_c t2 st_n))) (qS (qT (n_own (k_lst (kC (kC (kC (k_neg (k_var R.s2)) (kC (kL 1) kN)) (kC (kC (k_var R.s2) (kC (kL 1) kN)) kN)) kN)) (n_own (k_lst kN) n_nil)) (st_c t3 (st_c t4 st_n))) (qS (q_whl (o2 w_ne (kP R.s3) (k_lst kN)) (qS (q_pop R.s3 t3 (st_c t5 (st_c t6 st_n))) (qS (qA t7 (k_call n_count_by_row (kC (k_var R.s1) (kC (k_var R.s5) (kC (k_var R.s6) kN))))) (qS (qI (o2 w_eq (kP R.s7) (kL 1)) (qS (q_app R.s4 t4 (kC (k_var R.s5) (kC (k_var R.s6) kN))) qK) (qS (qI (o2 w_gt (kP R.s7) (kL 1)) (qS (qA t8 (k_call n_middle (kC (k_var R.s5) (kC (k_var R.s6) kN)))) (qS (qI (o2 w_eq (k_call n_value_sign (kC (k_var R.s0) (kC (k_var R.s8) kN))) (kL 0)) (qS (qR (kC (k_lst kN) (kC (k_var R.s8) kN))) qK) qK) (qS (q_app R.s3 t3 (kC (k_var R.s8) (kC (k_var R.s6) kN))) (qS (q_app R.s3 t3 (kC (k_var R.s5) (kC (k_var R.s8) kN))) qK)))) qK) qK)) qK))) 1000) (qS (q_frz R.s4 t4 (qR (kC (k_var R.s4) (kC k_non kN)))) qK))))
noncomputable def n_split_roots : List PV → Option PV := a1 h_split_roots
noncomputable def h_halved : S := (qS (q_unp (k_var R.s1) (st_c t2 (st_c t3 st_n))) (qS (qA t4 (k_call n_middle (kC (k_var R.s2) (kC (k_var R.s3) kN)))) (qS (qA t5 (k_call n_value_sign (kC (k_var R.s0) (kC (k_var R.s4) kN)))) (qS (qI (o2 w_eq (kP R.s5) (kL 0)) (qS (qR (kC (k_var R.s4) (kC (k_var R.s4) kN))) qK) qK) (qS (qR (k_ite (o2 w_eq (kP R.s5) (k_call n_value_sign (kC (k_var R.s0) (kC (k_var R.s2) kN)))) (kC (k_var R.s4) (kC (k_var R.s3) kN)) (kC (k_var R.s2) (kC (k_var R.s4) kN)))) qK)))))
noncomputable def n_halved : List PV → Option PV := a2 h_halved
noncomputable def h_kept_off : S := (qS (q_whl (k_and (o2 w_ne (kI (kP R.s1) (kL 0)) (kI (kP R.s1) (kL 1))) (k_any (k_comp (g1 t3) (c1 t3) (k_call n_is_inside (kC (k_var R.s3) (kC (k_var R.s1) kN))) (k_var R.s2)))) (qS (qA t1 (k_call n_halved (kC (k_var R.s0) (kC (k_var R.s1) kN)))) qK) 1000) (qS (qR (k_var R.s1)) qK))
noncomputable def n_kept_off : List PV → Option PV := a3 h_kept_off
noncomputable def h_sorted_intervals : S := (qS (q_asgO t1 (k_lst kN)) (qS (q_for (g1 t2) (k_var R.s0) (qS (qA t3 (kL 0)) (qS (q_whl (k_and (o2 w_lt (kP R.s3) (k_len (kP R.s1))) (o2 w_lt (k_call n_rcompare (kC (kI (kI (kP R.s1) (k_var R.s3)) (kL 1)) (kC (kI (kP R.s2) (kL 1)) kN))) (kL 0))) (qS (q_aug R.s3 t3 v_add (kL 1)) qK) 1000) (qS (q_ins R.s1 t1 (k_var R.s3) (k_var R.s2)) qK)))) (qS (q_frz R.s1 t1 (qR (k_var R.s1))) qK)))
noncomputable def n_sorted_intervals : List PV → Option PV := a1 h_sorted_intervals
noncomputable def h_isolate : S := (qS (qI (o2 w_eq (kP R.s0) (k_lst kN)) (qS q_bad qK) qK) (qS (qT (n_val (k_call n_simple_part (kC (k_var R.s0) kN)) (n_own (k_lst kN) n_nil)) (st_c t1 (st_c t2 st_n))) (qS (q_unp (k_ite (o2 w_gt (k_call n_zdegree (kC (k_var R.s1) kN)) (kL 0)) (k_call n_split_roots (kC (k_var R.s1) kN)) (kC (k_lst kN) (kC k_non kN))) (st_c t3 (st_c t4 st_n))) (qS (q_whl (k_notNone (k_var R.s4)) (qS (q_app R.s2 t2 (k_var R.s4)) (qS (qA t1 (k_call n_zexact (kC (k_var R.s1) (kC (k_call n_linear_of (kC (k_var R.s4) kN)) kN)))) (qS (q_unp (k_ite (o2 w_gt (k_call n_zdegree (kC (k_var R.s1) kN)) (kL 0)) (k_call n_split_roots (kC (k_var R.s1) kN)) (kC (k_lst kN) (kC k_non kN))) (st_c t3 (st_c t4 st_n))) qK))) 1000) (qS (q_frz R.s2 t2 (qA t5 (o2 v_add (k_comp (g1 t6) (c1 t6) (kC (k_var R.s6) (kC (k_var R.s6) kN)) (k_var R.s2)) (k_comp (g1 t7) (c1 t7) (k_call n_kept_off (kC (k_var R.s1) (kC (k_var R.s7) (kC (k_var R.s2) kN)))) (k_var R.s3))))) (qS (qR (k_call n_sorted_intervals (kC (k_var R.s5) kN))) qK))))))
noncomputable def n_isolate : List PV → Option PV := a1 h_isolate
noncomputable def h_refine : S := (qS (qI (o2 w_le (k_call n_rcompare (kC (k_var R.s2) (kC (k_glb .r0) kN))) (kL 0)) (qS q_bad qK) qK) (qS (qA t3 (k_call n_simple_part (kC (k_var R.s0) kN))) (qS (q_whl (o2 w_gt (k_call n_rcompare (kC (k_call n_rsub (kC (kI (kP R.s1) (kL 1)) (kC (kI (kP R.s1) (kL 0)) kN))) (kC (k_var R.s2) kN))) (kL 0)) (qS (qA t1 (k_call n_halved (kC (k_var R.s3) (kC (k_var R.s1) kN)))) qK) 1000) (qS (qR (k_var R.s1)) qK))))
noncomputable def n_refine : List PV → Option PV := a3 h_refine
noncomputable def h_tried_roots : S := (qS (qI (o2 w_eq (k_call n_zdegree (kC (k_var R.s0) kN)) (kL 1)) (qS (qR (k_lst (kC (k_call n_rat (kC (k_neg (kI (kP R.s0) (kL 0))) (kC (kI (kP R.s0) (kL 1)) kN))) kN))) qK) qK) (qS (qI (k_or (o2 w_lt (k_call n_zdegree (kC (k_var R.s0) kN)) (kL 1)) (o2 w_le (o2 max2V (k_abs (kI (kP R.s0) (kL 0))) (k_abs (kI (kP R.s0) (k_neg (kL 1))))) (k_glb .most))) (qS (qR k_bad) qK) qK) (qS (qT (n_own (k_lst kN) (n_val (k_abs (kI (kP R.s0) (k_neg (kL 1)))) n_nil)) (st_c t1 (st_c t2 st_n))) (qS (q_for (g1 t3) (k_call n_isolate (kC (k_var R.s0) kN)) (qS (qA t4 (kI (k_call n_refine (kC (k_var R.s0) (kC (k_var R.s3) (kC (kC (kL 1) (kC (o2 v_mul (kL 2) (k_var R.s2)) kN)) kN)))) (kL 1))) (qS (q_app R.s1 t1 (k_call n_rat (kC (k_call n_rfloor (kC (k_call n_rmul (kC (k_var R.s4) (kC (kC (k_var R.s2) (kC (kL 1) kN)) kN))) kN)) (kC (k_var R.s2) kN)))) qK))) (qS (q_frz R.s1 t1 (qR (k_var R.s1))) qK)))))
noncomputable def n_tried_roots : List PV → Option PV := a1 h_tried_roots
noncomputable def h_sorted_roots : S := (qS (q_asgO t1 (k_lst kN)) (qS (q_for (g1 t2) (k_var R.s0) (qS (qA t3 (kL 0)) (qS (q_whl (k_and (o2 w_lt (kP R.s3) (k_len (kP R.s1))) (o2 w_lt (k_call n_rcompare (kC (kI (kI (kP R.s1) (k_var R.s3)) (kL 0)) (kC (kI (kP R.s2) (kL 0)) kN))) (kL 0))) (qS (q_aug R.s3 t3 v_add (kL 1)) qK) 1000) (qS (q_ins R.s1 t1 (k_var R.s3) (k_var R.s2)) qK)))) (qS (q_frz R.s1 t1 (qR (k_var R.s1))) qK)))
noncomputable def n_sorted_roots : List PV → Option PV := a1 h_sorted_roots
noncomputable def h_rational_roots : S := (qS (qT (n_val (k_var R.s0) (n_own (k_lst kN) n_nil)) (st_c t1 (st_c t2 st_n))) (qS (q_whl (k_and (o2 w_gt (k_len (kP R.s1)) (kL 0)) (o2 w_eq (kI (kP R.s1) (kL 0)) (kL 0))) (qS (qA t1 (k_from (k_var R.s1) (kL 1))) qK) 1000) (qS (qI (o2 w_lt (k_len (kP R.s1)) (k_len (kP R.s0))) (qS (q_app R.s2 t2 (kC (kC (kL 0) (kC (kL 1) kN)) (kC (o2 v_sub (k_len (kP R.s0)) (k_len (kP R.s1))) kN))) qK) qK) (qS (q_for (g1 t3) (k_call n_tried_roots (kC (k_var R.s1) kN)) (qS (qA t4 (kL 0)) (qS (q_whl (k_and (o2 w_gt (k_call n_zdegree (kC (k_var R.s1) kN)) (kL 0)) (o2 w_eq (k_call n_value_sign (kC (k_var R.s1) (kC (k_var R.s3) kN))) (kL 0))) (qS (qA t1 (k_call n_zexact (kC (k_var R.s1) (kC (k_call n_linear_of (kC (k_var R.s3) kN)) kN)))) (qS (q_aug R.s4 t4 v_add (kL 1)) qK)) 1000) (qS (qI (o2 w_gt (kP R.s4) (kL 0)) (qS (q_app R.s2 t2 (kC (k_var R.s3) (kC (k_var R.s4) kN))) qK) qK) qK)))) (qS (q_frz R.s2 t2 (qR (k_call n_sorted_roots (kC (k_var R.s2) kN)))) qK)))))
noncomputable def n_rational_roots : List PV → Option PV := a1 h_rational_roots
noncomputable def h_law_lowest : S := (qS (qT (n_val (k_abs (k_var R.s0)) (n_val (k_var R.s1) n_nil)) (st_c t2 (st_c t3 st_n))) (qS (q_whl (o2 w_gt (kP R.s3) (kL 0)) (qS (qT (n_val (k_var R.s3) (n_val (o2 v_mod (k_var R.s2) (k_var R.s3)) n_nil)) (st_c t2 (st_c t3 st_n))) qK) 1000) (qS (qR (kC (o2 v_fdiv (k_var R.s0) (k_var R.s2)) (kC (o2 v_fdiv (k_var R.s1) (k_var R.s2)) kN))) qK)))
noncomputable def n_law_lowest : List PV → Option PV := a2 h_law_lowest
noncomputable def h_law_times : S := (qS (q_asgO t2 (o2 v_mul (k_lst (kC (kL 0) kN)) (o2 v_sub (o2 v_add (k_len (kP R.s0)) (k_len (kP R.s1))) (kL 1)))) (qS (q_for (g2 t3 t4) (k_enum (k_var R.s0)) (qS (q_for (g2 t5 t6) (k_enum (k_var R.s1)) (qS (q_seti R.s2 t2 (o2 v_add (k_var R.s3) (k_var R.s5)) (o2 v_add (kI (kP R.s2) (o2 v_add (k_var R.s3) (k_var R.s5))) (o2 v_mul (k_var R.s4) (k_var R.s6)))) qK)) qK)) (qS (q_frz R.s2 t2 (qR (k_var R.s2))) qK)))
noncomputable def n_law_times : List PV → Option PV := a2 h_law_times
noncomputable def DF : Den
  | .f_gcd => n_gcd
  | .f_gcd_all => n_gcd_all
  | .f_rat => n_rat
  | .f_radd => n_radd
  | .f_rsub => n_rsub
  | .f_rmul => n_rmul
  | .f_rcompare => n_rcompare
  | .f_rfloor => n_rfloor
  | .f_ztrim => n_ztrim
  | .f_zdegree => n_zdegree
  | .f_zlead => n_zlead
  | .f_zadd => n_zadd
  | .f_zneg => n_zneg
  | .f_zsub => n_zsub
  | .f_zscale => n_zscale
  | .f_zraise => n_zraise
  | .f_zcontent => n_zcontent
  | .f_zdivided => n_zdivided
  | .f_zprimitive => n_zprimitive
  | .f_zderive => n_zderive
  | .f_check_bottom => n_check_bottom
  | .f_zexact => n_zexact
  | .f_pseudo => n_pseudo
  | .f_zpseudo_rest => n_zpseudo_rest
  | .f_next_height => n_next_height
  | .f_subresultants => n_subresultants
  | .f_zgcd => n_zgcd
  | .f_sign_of => n_sign_of
  | .f_value_sign => n_value_sign
  | .f_sign_at => n_sign_at
  | .f_simple_part => n_simple_part
  | .f_lessened => n_lessened
  | .f_next_of_row => n_next_of_row
  | .f_sturm_row => n_sturm_row
  | .f_changes_at => n_changes_at
  | .f_count_by_row => n_count_by_row
  | .f_root_bound => n_root_bound
  | .f_middle => n_middle
  | .f_linear_of => n_linear_of
  | .f_is_inside => n_is_inside
  | .f_split_roots => n_split_roots
  | .f_halved => n_halved
  | .f_kept_off => n_kept_off
  | .f_sorted_intervals => n_sorted_intervals
  | .f_isolate => n_isolate
  | .f_refine => n_refine
  | .f_tried_roots => n_tried_roots
  | .f_sorted_roots => n_sorted_roots
  | .f_rational_roots => n_rational_roots
  | .f_law_lowest => n_law_lowest
  | .f_law_times => n_law_times
noncomputable def DR (f : Fn) : Den := fun g args => if g.rank < f.rank then DF g args else none
theorem c_gcd_all : CmpS (DR .f_gcd_all) b_gcd_all h_gcd_all := (mS (mA t_1 (lL 0)) (mS (m_for (tg_1 t_2) (lV g_0) (mS (mA t_1 (lF rfl (lC (lV g_1) (lC (lV g_2) lN)))) mK)) (mS (m_ret (lV g_1)) mK)))
theorem c_rat : CmpS (DR .f_rat) b_rat h_rat := (mS (m_ife (l_cmp w_eq_eq (p_var g_1) (lL 0)) (mS m_bad mK) mK) (mS (mA t_2 (l_ite (l_cmp w_gt_eq (p_var g_1) (lL 0)) (lF rfl (lC (lV g_0) (lC (lV g_1) lN))) (l_bin v_sub_eq (lL 0) (lF rfl (lC (lV g_0) (lC (lV g_1) lN)))))) (mS (m_ret (l_tup (lC (l_bin v_fdiv_eq (lV g_0) (lV g_2)) (lC (l_bin v_fdiv_eq (lV g_1) (lV g_2)) lN)))) mK)))
theorem c_radd : CmpS (DR .f_radd) b_radd h_radd := (mS (m_ret (lF rfl (lC (l_bin v_add_eq (l_bin v_mul_eq (l_idx (p_var g_0) (lL 0)) (l_idx (p_var g_1) (lL 1))) (l_bin v_mul_eq (l_idx (p_var g_1) (lL 0)) (l_idx (p_var g_0) (lL 1)))) (lC (l_bin v_mul_eq (l_idx (p_var g_0) (lL 1)) (l_idx (p_var g_1) (lL 1))) lN)))) mK)
theorem c_rsub : CmpS (DR .f_rsub) b_rsub h_rsub := (mS (m_ret (lF rfl (lC (l_bin v_sub_eq (l_bin v_mul_eq (l_idx (p_var g_0) (lL 0)) (l_idx (p_var g_1) (lL 1))) (l_bin v_mul_eq (l_idx (p_var g_1) (lL 0)) (l_idx (p_var g_0) (lL 1)))) (lC (l_bin v_mul_eq (l_idx (p_var g_0) (lL 1)) (l_idx (p_var g_1) (lL 1))) lN)))) mK)
theorem c_rmul : CmpS (DR .f_rmul) b_rmul h_rmul := (mS (m_ret (lF rfl (lC (l_bin v_mul_eq (l_idx (p_var g_0) (lL 0)) (l_idx (p_var g_1) (lL 0))) (lC (l_bin v_mul_eq (l_idx (p_var g_0) (lL 1)) (l_idx (p_var g_1) (lL 1))) lN)))) mK)
theorem c_rcompare : CmpS (DR .f_rcompare) b_rcompare h_rcompare := (mS (mA t_2 (l_bin v_sub_eq (l_bin v_mul_eq (l_idx (p_var g_0) (lL 0)) (l_idx (p_var g_1) (lL 1))) (l_bin v_mul_eq (l_idx (p_var g_1) (lL 0)) (l_idx (p_var g_0) (lL 1))))) (mS (m_ret (l_bin v_sub_eq (l_cmp w_gt_eq (p_var g_2) (lL 0)) (l_cmp w_lt_eq (p_var g_2) (lL 0)))) mK))
theorem c_rfloor : CmpS (DR .f_rfloor) b_rfloor h_rfloor := (mS (m_ret (l_bin v_fdiv_eq (l_idx (p_var g_0) (lL 0)) (l_idx (p_var g_0) (lL 1)))) mK)
theorem c_ztrim : CmpS (DR .f_ztrim) b_ztrim h_ztrim := (mS (mA t_1 (l_len (p_var g_0))) (mS (m_whl 1000 (l_and (l_cmp w_gt_eq (p_var g_1) (lL 0)) (l_cmp w_eq_eq (p_of (l_idx (p_var g_0) (l_bin v_sub_eq (lV g_1) (lL 1))) (fun o0 => nofun)) (lL 0))) (mS (m_aug rfl v_sub_eq g_1 t_1 (lL 1)) mK)) (mS (m_ret (l_list (l_upto (lV g_0) (lV g_1)))) mK)))
theorem c_zdegree : CmpS (DR .f_zdegree) b_zdegree h_zdegree := (mS (m_ret (l_bin v_sub_eq (l_len (p_var g_0)) (lL 1))) mK)
theorem c_zlead : CmpS (DR .f_zlead) b_zlead h_zlead := (mS (m_ret (l_ite (l_cmp w_gt_eq (p_of (l_len (p_var g_0)) (fun o0 => nofun)) (lL 0)) (l_idx (p_var g_0) (l_neg (lL 1))) (lL 0))) mK)
theorem c_zadd : CmpS (DR .f_zadd) b_zadd h_zadd := (mS (mA t_2 (l_max2 (l_len (p_var g_0)) (l_len (p_var g_1)))) (mS (m_ret (lF rfl (lC (l_comp (tg_1 t_3) (l_bin v_add_eq (l_ite (l_cmp w_lt_eq (p_var g_3) (l_len (p_var g_0))) (l_idx (p_var g_0) (lV g_3)) (lL 0)) (l_ite (l_cmp w_lt_eq (p_var g_3) (l_len (p_var g_1))) (l_idx (p_var g_1) (lV g_3)) (lL 0))) (l_rng1 (lV g_2))) lN))) mK))
theorem c_zneg : CmpS (DR .f_zneg) b_zneg h_zneg := (mS (m_ret (l_comp (tg_1 t_1) (l_neg (lV g_1)) (lV g_0))) mK)
theorem c_zsub : CmpS (DR .f_zsub) b_zsub h_zsub := (mS (m_ret (lF rfl (lC (lV g_0) (lC (lF rfl (lC (lV g_1) lN)) lN)))) mK)
theorem c_zscale : CmpS (DR .f_zscale) b_zscale h_zscale := (mS (m_ret (l_ite (l_cmp w_ne_eq (p_var g_1) (lL 0)) (l_comp (tg_1 t_2) (l_bin v_mul_eq (lV g_2) (lV g_1)) (lV g_0)) (l_lst lN))) mK)
theorem c_zraise : CmpS (DR .f_zraise) b_zraise h_zraise := (mS (m_ret (l_ite (l_cmp w_gt_eq (p_of (l_len (p_var g_0)) (fun o0 => nofun)) (lL 0)) (l_bin v_add_eq (l_bin v_mul_eq (l_lst (lC (lL 0) lN)) (lV g_1)) (l_list (lV g_0))) (l_lst lN))) mK)
theorem c_zcontent : CmpS (DR .f_zcontent) b_zcontent h_zcontent := (mS (m_ret (lF rfl (lC (lV g_0) lN))) mK)
theorem c_zdivided : CmpS (DR .f_zdivided) b_zdivided h_zdivided := (mS (m_ret (l_comp (tg_1 t_2) (l_bin v_fdiv_eq (lV g_2) (lV g_1)) (lV g_0))) mK)
theorem c_zprimitive : CmpS (DR .f_zprimitive) b_zprimitive h_zprimitive := (mS (m_ife (l_cmp w_eq_eq (p_of (l_len (p_var g_0)) (fun o0 => nofun)) (lL 0)) (mS (m_ret (l_lst lN)) mK) mK) (mS (mA t_1 (lF rfl (lC (lV g_0) lN))) (mS (m_ret (lF rfl (lC (lV g_0) (lC (l_ite (l_cmp w_gt_eq (p_of (l_idx (p_var g_0) (l_neg (lL 1))) (fun o0 => nofun)) (lL 0)) (lV g_1) (l_neg (lV g_1))) lN)))) mK)))
theorem c_zderive : CmpS (DR .f_zderive) b_zderive h_zderive := (mS (m_ret (l_from (l_comp (tg_2 t_1 t_2) (l_bin v_mul_eq (lV g_2) (lV g_1)) (l_enum (lV g_0))) (lL 1))) mK)
theorem c_check_bottom : CmpS (DR .f_check_bottom) b_check_bottom h_check_bottom := (mS (m_ife (l_cmp w_eq_eq (p_of (l_len (p_var g_0)) (fun o0 => nofun)) (lL 0)) (mS m_bad mK) mK) mK)
theorem c_zexact : CmpS (DR .f_zexact) b_zexact h_zexact := (mS (m_exp (lF rfl (lC (lV g_1) lN))) (mS (m_asgT (k_v (l_list (lV g_0)) (k_o rfl (l_bin v_mul_eq (l_lst (lC (lL 0) lN)) (l_max2 (lL 0) (l_bin v_add_eq (l_bin v_sub_eq (l_len (p_var g_0)) (l_len (p_var g_1))) (lL 1)))) k_n)) (i_c t_2 (i_c t_3 i_n))) (mS (m_whl 1000 (l_cmp w_ge_eq (p_of (l_len (p_var g_2)) (fun o0 => nofun)) (l_len (p_var g_1))) (mS (m_ife (l_cmp w_ne_eq (p_of (l_bin v_mod_eq (l_idx (p_var g_2) (l_neg (lL 1))) (l_idx (p_var g_1) (l_neg (lL 1)))) (fun o0 => nofun)) (lL 0)) (mS (m_ret l_non) mK) mK) (mS (m_asgT (k_v (l_bin v_fdiv_eq (l_idx (p_var g_2) (l_neg (lL 1))) (l_idx (p_var g_1) (l_neg (lL 1)))) (k_v (l_bin v_sub_eq (l_len (p_var g_2)) (l_len (p_var g_1))) k_n)) (i_c t_4 (i_c t_5 i_n))) (mS (m_seti g_3 t_3 (lV g_5) (lV g_4)) (mS (mA t_2 (lF rfl (lC (lV g_2) (lC (lF rfl (lC (lF rfl (lC (lV g_1) (lC (lV g_4) lN))) (lC (lV g_5) lN))) lN)))) mK))))) (mS (m_frz g_3 t_3 (m_ret (l_ite (l_cmp w_eq_eq (p_of (l_len (p_var g_2)) (fun o0 => nofun)) (lL 0)) (lF rfl (lC (lV g_3) lN)) l_non))) mK))))
theorem c_pseudo : CmpS (DR .f_pseudo) b_pseudo h_pseudo := (mS (m_exp (lF rfl (lC (lV g_1) lN))) (mS (mA t_2 (l_max2 (lL 0) (l_bin v_add_eq (l_bin v_sub_eq (l_len (p_var g_0)) (l_len (p_var g_1))) (lL 1)))) (mS (m_asgT (k_v (l_list (lV g_0)) (k_v (l_lst lN) (k_v (lV g_2) (k_v (lF rfl (lC (lV g_1) lN)) k_n)))) (i_c t_3 (i_c t_4 (i_c t_5 (i_c t_6 i_n))))) (mS (m_whl 1000 (l_cmp w_ge_eq (p_of (l_len (p_var g_3)) (fun o0 => nofun)) (l_len (p_var g_1))) (mS (m_asgT (k_v (l_idx (p_var g_3) (l_neg (lL 1))) (k_v (l_bin v_sub_eq (l_len (p_var g_3)) (l_len (p_var g_1))) k_n)) (i_c t_7 (i_c t_8 i_n))) (mS (mA t_4 (lF rfl (lC (lF rfl (lC (lV g_4) (lC (lV g_6) lN))) (lC (lF rfl (lC (l_lst (lC (l_neg (lV g_7)) lN)) (lC (lV g_8) lN))) lN)))) (mS (mA t_3 (lF rfl (lC (lF rfl (lC (lV g_3) (lC (lV g_6) lN))) (lC (lF rfl (lC (lF rfl (lC (lV g_1) (lC (lV g_7) lN))) (lC (lV g_8) lN))) lN)))) (mS (m_aug rfl v_sub_eq g_5 t_5 (lL 1)) mK))))) (mS (mA t_9 (l_bin v_pow_eq (lV g_6) (lV g_5))) (mS (m_ret (l_tup (lC (lF rfl (lC (lV g_4) (lC (lV g_9) lN))) (lC (lF rfl (lC (lV g_3) (lC (lV g_9) lN))) (lC (lV g_2) lN))))) mK))))))
theorem c_zpseudo_rest : CmpS (DR .f_zpseudo_rest) b_zpseudo_rest h_zpseudo_rest := (mS (m_ret (l_idx (p_of (lF rfl (lC (lV g_0) (lC (lV g_1) lN))) (fun o0 => nofun)) (lL 1))) mK)
theorem c_next_height : CmpS (DR .f_next_height) b_next_height h_next_height := (mS (m_ife (l_cmp w_eq_eq (p_var g_1) (lL 0)) (mS (m_ret (lV g_2)) mK) mK) (mS (m_ret (l_bin v_fdiv_eq (l_bin v_pow_eq (lV g_0) (lV g_1)) (l_bin v_pow_eq (lV g_2) (l_bin v_sub_eq (lV g_1) (lL 1))))) mK))
theorem c_subresultants : CmpS (DR .f_subresultants) b_subresultants h_subresultants := (mS (m_ife (l_cmp w_lt_eq (p_of (l_len (p_var g_0)) (fun o0 => nofun)) (l_len (p_var g_1))) (mS (m_asgT (k_v (lV g_1) (k_v (lV g_0) k_n)) (i_c t_0 (i_c t_1 i_n))) mK) mK) (mS (m_asgT (k_o rfl (l_lst (lC (l_list (lV g_0)) (lC (l_list (lV g_1)) lN))) (k_v (lL 1) (k_v (lL 1) k_n))) (i_c t_2 (i_c t_3 (i_c t_4 i_n)))) (mS (m_whl 1000 (l_cmp w_gt_eq (p_of (l_len (p_var g_1)) (fun o0 => nofun)) (lL 1)) (mS (mA t_5 (l_bin v_sub_eq (l_len (p_var g_0)) (l_len (p_var g_1)))) (mS (mA t_6 (lF rfl (lC (lV g_0) (lC (lV g_1) lN)))) (mS (m_ife (l_cmp w_eq_eq (p_of (l_len (p_var g_6)) (fun o0 => nofun)) (lL 0)) (mS (m_frz g_2 t_2 (m_ret (lV g_2))) mK) mK) (mS (m_asgT (k_v (lV g_1) (k_v (lF rfl (lC (lV g_6) (lC (l_bin v_mul_eq (lV g_3) (l_bin v_pow_eq (lV g_4) (lV g_5))) lN))) k_n)) (i_c t_0 (i_c t_1 i_n))) (mS (m_app g_2 t_2 (lV g_1)) (mS (mA t_3 (lF rfl (lC (lV g_0) lN))) (mS (mA t_4 (lF rfl (lC (lV g_3) (lC (lV g_5) (lC (lV g_4) lN))))) mK)))))))) (mS (m_frz g_2 t_2 (m_ret (lV g_2))) mK))))
theorem c_zgcd : CmpS (DR .f_zgcd) b_zgcd h_zgcd := (mS (m_ife (l_or (l_cmp w_eq_eq (p_of (l_len (p_var g_0)) (fun o0 => nofun)) (lL 0)) (l_cmp w_eq_eq (p_of (l_len (p_var g_1)) (fun o0 => nofun)) (lL 0))) (mS (mA t_2 (l_ite (l_cmp w_eq_eq (p_of (l_len (p_var g_0)) (fun o0 => nofun)) (lL 0)) (lV g_1) (lV g_0))) (mS (m_ret (lF rfl (lC (lF rfl (lC (lV g_2) lN)) (lC (lF rfl (lC (lV g_2) lN)) lN)))) mK)) mK) (mS (mA t_3 (lF rfl (lC (lF rfl (lC (lV g_0) lN)) (lC (lF rfl (lC (lV g_1) lN)) lN)))) (mS (mA t_4 (l_idx (p_of (lF rfl (lC (lF rfl (lC (lV g_0) lN)) (lC (lF rfl (lC (lV g_1) lN)) lN))) (fun o0 => nofun)) (l_neg (lL 1)))) (mS (m_ret (l_ite (l_cmp w_gt_eq (p_of (l_len (p_var g_4)) (fun o0 => nofun)) (lL 1)) (lF rfl (lC (lF rfl (lC (lV g_4) lN)) (lC (lV g_3) lN))) (l_lst (lC (lV g_3) lN)))) mK))))
theorem c_sign_of : CmpS (DR .f_sign_of) b_sign_of h_sign_of := (mS (m_ret (l_bin v_sub_eq (l_cmp w_gt_eq (p_var g_0) (lL 0)) (l_cmp w_lt_eq (p_var g_0) (lL 0)))) mK)
theorem c_value_sign : CmpS (DR .f_value_sign) b_value_sign h_value_sign := (mS (m_unp (lV g_1) (i_c t_2 (i_c t_3 i_n))) (mS (m_asgT (k_v (lL 0) (k_v (lL 1) k_n)) (i_c t_4 (i_c t_5 i_n))) (mS (m_for (tg_1 t_6) (l_rev (lV g_0)) (mS (mA t_4 (l_bin v_add_eq (l_bin v_mul_eq (lV g_4) (lV g_2)) (l_bin v_mul_eq (lV g_6) (lV g_5)))) (mS (mA t_5 (l_bin v_mul_eq (lV g_5) (lV g_3))) mK))) (mS (m_ret (lF rfl (lC (lV g_4) lN))) mK))))
theorem c_sign_at : CmpS (DR .f_sign_at) b_sign_at h_sign_at := (mS (m_ret (l_ite (l_isstr (lV g_1)) l_bad (lF rfl (lC (lV g_0) (lC (lV g_1) lN))))) mK)
theorem c_simple_part : CmpS (DR .f_simple_part) b_simple_part h_simple_part := (mS (mA t_1 (lF rfl (lC (lV g_0) (lC (lF rfl (lC (lV g_0) lN)) lN)))) (mS (m_ret (l_ite (l_cmp w_gt_eq (p_of (lF rfl (lC (lV g_1) lN)) (fun o0 => nofun)) (lL 0)) (lF rfl (lC (lV g_0) (lC (lV g_1) lN))) (lV g_0))) mK))
theorem c_lessened : CmpS (DR .f_lessened) b_lessened h_lessened := (mS (mA t_1 (lF rfl (lC (lV g_0) lN))) (mS (m_ret (l_ite (l_cmp w_gt_eq (p_var g_1) (lL 1)) (l_comp (tg_1 t_2) (l_bin v_fdiv_eq (lV g_2) (lV g_1)) (lV g_0)) (lV g_0))) mK))
theorem c_next_of_row : CmpS (DR .f_next_of_row) b_next_of_row h_next_of_row := (mS (m_unp (lF rfl (lC (lV g_0) (lC (lV g_1) lN))) (i_c t_2 (i_c t_3 (i_c t_4 i_n)))) (mS (m_ife (l_and (l_cmp w_eq_eq (p_of (l_bin v_mod_eq (lV g_4) (lL 2)) (fun o0 => nofun)) (lL 1)) (l_cmp w_lt_eq (p_of (lF rfl (lC (lV g_1) lN)) (fun o0 => nofun)) (lL 0))) (mS (m_ret (lF rfl (lC (lV g_3) lN))) mK) mK) (mS (m_ret (lF rfl (lC (lF rfl (lC (lV g_3) lN)) lN))) mK)))
theorem c_sturm_row : CmpS (DR .f_sturm_row) b_sturm_row h_sturm_row := (mS (m_asgT (k_o rfl (l_lst (lC (lV g_0) lN)) (k_v (lF rfl (lC (lV g_0) lN)) k_n)) (i_c t_1 (i_c t_2 i_n))) (mS (m_whl 1000 (l_cmp w_ne_eq (p_var g_2) (l_lst lN)) (mS (m_app g_1 t_1 (lV g_2)) (mS (mA t_2 (lF rfl (lC (l_idx (p_var g_1) (l_neg (lL 2))) (lC (l_idx (p_var g_1) (l_neg (lL 1))) lN)))) mK))) (mS (m_frz g_1 t_1 (m_ret (lV g_1))) mK)))
theorem c_changes_at : CmpS (DR .f_changes_at) b_changes_at h_changes_at := (mS (mA t_2 (l_comp (tg_1 t_3) (lF rfl (lC (lV g_3) (lC (lV g_1) lN))) (lV g_0))) (mS (mA t_2 (l_compIf (tg_1 t_4) (lV g_4) (lV g_2) (l_cmp w_ne_eq (p_var g_4) (lL 0)))) (mS (m_ret (l_len (p_of (l_compIf (tg_1 t_5) (lL 1) (l_rng2 (lL 1) (l_len (p_var g_2))) (l_cmp w_ne_eq (p_of (l_idx (p_var g_2) (lV g_5)) (fun o0 => nofun)) (l_idx (p_var g_2) (l_bin v_sub_eq (lV g_5) (lL 1))))) (fun o0 => nofun)))) mK)))
theorem c_count_by_row : CmpS (DR .f_count_by_row) b_count_by_row h_count_by_row := (mS (m_ret (l_bin v_sub_eq (lF rfl (lC (lV g_0) (lC (lV g_1) lN))) (lF rfl (lC (lV g_0) (lC (lV g_2) lN))))) mK)
theorem c_root_bound : CmpS (DR .f_root_bound) b_root_bound h_root_bound := (mS (mA t_1 (l_maxl (l_comp (tg_1 t_2) (l_abs (lV g_2)) (lV g_0)))) (mS (m_ret (l_bin v_add_eq (lL 2) (l_bin v_fdiv_eq (lV g_1) (l_abs (lF rfl (lC (lV g_0) lN)))))) mK))
theorem c_middle : CmpS (DR .f_middle) b_middle h_middle := (mS (m_ret (lF rfl (lC (lF rfl (lC (lV g_0) (lC (lV g_1) lN))) (lC (l_glb .half) lN)))) mK)
theorem c_linear_of : CmpS (DR .f_linear_of) b_linear_of h_linear_of := (mS (m_ret (l_lst (lC (l_neg (l_idx (p_var g_0) (lL 0))) (lC (l_idx (p_var g_0) (lL 1)) lN)))) mK)
theorem c_is_inside : CmpS (DR .f_is_inside) b_is_inside h_is_inside := (mS (m_ret (l_and (l_cmp w_le_eq (p_of (lF rfl (lC (l_idx (p_var g_1) (lL 0)) (lC (lV g_0) lN))) (fun o0 => nofun)) (lL 0)) (l_cmp w_le_eq (p_of (lF rfl (lC (lV g_0) (lC (l_idx (p_var g_1) (lL 1)) lN))) (fun o0 => nofun)) (lL 0)))) mK)
theorem c_split_roots : CmpS (DR .f_split_roots) b_split_roots h_split_roots := (mS (m_asgT (k_v (lF rfl (lC (lV g_0) lN)) (k_v (lF rfl (lC (lV g_0) lN)) k_n)) (i_c t_1 (i_c t_2 i_n))) (mS (m_asgT (k_o rfl (l_lst (lC (l_tup (lC (l_tup (lC (l_neg (lV g_2)) (lC (lL 1) lN))) (lC (l_tup (lC (lV g_2) (lC (lL 1) lN))) lN))) lN)) (k_o rfl (l_lst lN) k_n)) (i_c t_3 (i_c t_4 i_n))) (mS (m_whl 1000 (l_cmp w_ne_eq (p_var g_3) (l_lst lN)) (mS (m_pop g_3 t_3 (i_c t_5 (i_c t_6 i_n))) (mS (mA t_7 (lF rfl (lC (lV g_1) (lC (lV g_5) (lC (lV g_6) lN))))) (mS (m_ife (l_cmp w_eq_eq (p_var g_7) (lL 1)) (mS (m_app g_4 t_4 (l_tup (lC (lV g_5) (lC (lV g_6) lN)))) mK) (mS (m_ife (l_cmp w_gt_eq (p_var g_7) (lL 1)) (mS (mA t_8 (lF rfl (lC (lV g_5) (lC (lV g_6) lN)))) (mS (m_ife (l_cmp w_eq_eq (p_of (lF rfl (lC (lV g_0) (lC (lV g_8) lN))) (fun o0 => nofun)) (lL 0)) (mS (m_ret (l_tup (lC (l_lst lN) (lC (lV g_8) lN)))) mK) mK) (mS (m_app g_3 t_3 (l_tup (lC (lV g_8) (lC (lV g_6) lN)))) (mS (m_app g_3 t_3 (l_tup (lC (lV g_5) (lC (lV g_8) lN)))) mK)))) mK) mK)) mK)))) (mS (m_frz g_4 t_4 (m_ret (l_tup (lC (lV g_4) (lC l_non lN))))) mK))))
theorem c_halved : CmpS (DR .f_halved) b_halved h_halved := (mS (m_unp (lV g_1) (i_c t_2 (i_c t_3 i_n))) (mS (mA t_4 (lF rfl (lC (lV g_2) (lC (lV g_3) lN)))) (mS (mA t_5 (lF rfl (lC (lV g_0) (lC (lV g_4) lN)))) (mS (m_ife (l_cmp w_eq_eq (p_var g_5) (lL 0)) (mS (m_ret (l_tup (lC (lV g_4) (lC (lV g_4) lN)))) mK) mK) (mS (m_ret (l_ite (l_cmp w_eq_eq (p_var g_5) (lF rfl (lC (lV g_0) (lC (lV g_2) lN)))) (l_tup (lC (lV g_4) (lC (lV g_3) lN))) (l_tup (lC (lV g_2) (lC (lV g_4) lN))))) mK)))))
theorem c_kept_off : CmpS (DR .f_kept_off) b_kept_off h_kept_off := (mS (m_whl 1000 (l_and (l_cmp w_ne_eq (p_of (l_idx (p_var g_1) (lL 0)) (fun o0 => nofun)) (l_idx (p_var g_1) (lL 1))) (l_any (l_comp (tg_1 t_3) (lF rfl (lC (lV g_3) (lC (lV g_1) lN))) (lV g_2)))) (mS (mA t_1 (lF rfl (lC (lV g_0) (lC (lV g_1) lN)))) mK)) (mS (m_ret (lV g_1)) mK))
theorem c_sorted_intervals : CmpS (DR .f_sorted_intervals) b_sorted_intervals h_sorted_intervals := (mS (m_asgO rfl t_1 (l_lst lN)) (mS (m_for (tg_1 t_2) (lV g_0) (mS (mA t_3 (lL 0)) (mS (m_whl 1000 (l_and (l_cmp w_lt_eq (p_var g_3) (l_len (p_var g_1))) (l_cmp w_lt_eq (p_of (lF rfl (lC (l_idx (p_of (l_idx (p_var g_1) (lV g_3)) (fun o0 => nofun)) (lL 1)) (lC (l_idx (p_var g_2) (lL 1)) lN))) (fun o0 => nofun)) (lL 0))) (mS (m_aug rfl v_add_eq g_3 t_3 (lL 1)) mK)) (mS (m_ins g_1 t_1 (lV g_3) (lV g_2)) mK)))) (mS (m_frz g_1 t_1 (m_ret (lV g_1))) mK)))
theorem c_isolate : CmpS (DR .f_isolate) b_isolate h_isolate := (mS (m_ife (l_cmp w_eq_eq (p_var g_0) (l_lst lN)) (mS m_bad mK) mK) (mS (m_asgT (k_v (lF rfl (lC (lV g_0) lN)) (k_o rfl (l_lst lN) k_n)) (i_c t_1 (i_c t_2 i_n))) (mS (m_unp (l_ite (l_cmp w_gt_eq (p_of (lF rfl (lC (lV g_1) lN)) (fun o0 => nofun)) (lL 0)) (lF rfl (lC (lV g_1) lN)) (l_tup (lC (l_lst lN) (lC l_non lN)))) (i_c t_3 (i_c t_4 i_n))) (mS (m_whl 1000 (l_notNone (lV g_4)) (mS (m_app g_2 t_2 (lV g_4)) (mS (mA t_1 (lF rfl (lC (lV g_1) (lC (lF rfl (lC (lV g_4) lN)) lN)))) (mS (m_unp (l_ite (l_cmp w_gt_eq (p_of (lF rfl (lC (lV g_1) lN)) (fun o0 => nofun)) (lL 0)) (lF rfl (lC (lV g_1) lN)) (l_tup (lC (l_lst lN) (lC l_non lN)))) (i_c t_3 (i_c t_4 i_n))) mK)))) (mS (m_frz g_2 t_2 (mA t_5 (l_bin v_add_eq (l_comp (tg_1 t_6) (l_tup (lC (lV g_6) (lC (lV g_6) lN))) (lV g_2)) (l_comp (tg_1 t_7) (lF rfl (lC (lV g_1) (lC (lV g_7) (lC (lV g_2) lN)))) (lV g_3))))) (mS (m_ret (lF rfl (lC (lV g_5) lN))) mK))))))
theorem c_refine : CmpS (DR .f_refine) b_refine h_refine := (mS (m_ife (l_cmp w_le_eq (p_of (lF rfl (lC (lV g_2) (lC (l_glb .r0) lN))) (fun o0 => nofun)) (lL 0)) (mS m_bad mK) mK) (mS (mA t_3 (lF rfl (lC (lV g_0) lN))) (mS (m_whl 1000 (l_cmp w_gt_eq (p_of (lF rfl (lC (lF rfl (lC (l_idx (p_var g_1) (lL 1)) (lC (l_idx (p_var g_1) (lL 0)) lN))) (lC (lV g_2) lN))) (fun o0 => nofun)) (lL 0)) (mS (mA t_1 (lF rfl (lC (lV g_3) (lC (lV g_1) lN)))) mK)) (mS (m_ret (lV g_1)) mK))))
theorem c_tried_roots : CmpS (DR .f_tried_roots) b_tried_roots h_tried_roots := (mS (m_ife (l_cmp w_eq_eq (p_of (lF rfl (lC (lV g_0) lN)) (fun o0 => nofun)) (lL 1)) (mS (m_ret (l_lst (lC (lF rfl (lC (l_neg (l_idx (p_var g_0) (lL 0))) (lC (l_idx (p_var g_0) (lL 1)) lN))) lN))) mK) mK) (mS (m_ife (l_or (l_cmp w_lt_eq (p_of (lF rfl (lC (lV g_0) lN)) (fun o0 => nofun)) (lL 1)) (l_cmp w_le_eq (p_of (l_max2 (l_abs (l_idx (p_var g_0) (lL 0))) (l_abs (l_idx (p_var g_0) (l_neg (lL 1))))) (fun o0 => nofun)) (l_glb .most))) (mS (m_ret l_bad) mK) mK) (mS (m_asgT (k_o rfl (l_lst lN) (k_v (l_abs (l_idx (p_var g_0) (l_neg (lL 1)))) k_n)) (i_c t_1 (i_c t_2 i_n))) (mS (m_for (tg_1 t_3) (lF rfl (lC (lV g_0) lN)) (mS (mA t_4 (l_idx (p_of (lF rfl (lC (lV g_0) (lC (lV g_3) (lC (l_tup (lC (lL 1) (lC (l_bin v_mul_eq (lL 2) (lV g_2)) lN))) lN)))) (fun o0 => nofun)) (lL 1))) (mS (m_app g_1 t_1 (lF rfl (lC (lF rfl (lC (lF rfl (lC (lV g_4) (lC (l_tup (lC (lV g_2) (lC (lL 1) lN))) lN))) lN)) (lC (lV g_2) lN)))) mK))) (mS (m_frz g_1 t_1 (m_ret (lV g_1))) mK)))))
theorem c_sorted_roots : CmpS (DR .f_sorted_roots) b_sorted_roots h_sorted_roots := (mS (m_asgO rfl t_1 (l_lst lN)) (mS (m_for (tg_1 t_2) (lV g_0) (mS (mA t_3 (lL 0)) (mS (m_whl 1000 (l_and (l_cmp w_lt_eq (p_var g_3) (l_len (p_var g_1))) (l_cmp w_lt_eq (p_of (lF rfl (lC (l_idx (p_of (l_idx (p_var g_1) (lV g_3)) (fun o0 => nofun)) (lL 0)) (lC (l_idx (p_var g_2) (lL 0)) lN))) (fun o0 => nofun)) (lL 0))) (mS (m_aug rfl v_add_eq g_3 t_3 (lL 1)) mK)) (mS (m_ins g_1 t_1 (lV g_3) (lV g_2)) mK)))) (mS (m_frz g_1 t_1 (m_ret (lV g_1))) mK)))
theorem c_rational_roots : CmpS (DR .f_rational_roots) b_rational_roots h_rational_roots := (mS (m_asgT (k_v (lV g_0) (k_o rfl (l_lst lN) k_n)) (i_c t_1 (i_c t_2 i_n))) (mS (m_whl 1000 (l_and (l_cmp w_gt_eq (p_of (l_len (p_var g_1)) (fun o0 => nofun)) (lL 0)) (l_cmp w_eq_eq (p_of (l_idx (p_var g_1) (lL 0)) (fun o0 => nofun)) (lL 0))) (mS (mA t_1 (l_from (lV g_1) (lL 1))) mK)) (mS (m_ife (l_cmp w_lt_eq (p_of (l_len (p_var g_1)) (fun o0 => nofun)) (l_len (p_var g_0))) (mS (m_app g_2 t_2 (l_tup (lC (l_tup (lC (lL 0) (lC (lL 1) lN))) (lC (l_bin v_sub_eq (l_len (p_var g_0)) (l_len (p_var g_1))) lN)))) mK) mK) (mS (m_for (tg_1 t_3) (lF rfl (lC (lV g_1) lN)) (mS (mA t_4 (lL 0)) (mS (m_whl 1000 (l_and (l_cmp w_gt_eq (p_of (lF rfl (lC (lV g_1) lN)) (fun o0 => nofun)) (lL 0)) (l_cmp w_eq_eq (p_of (lF rfl (lC (lV g_1) (lC (lV g_3) lN))) (fun o0 => nofun)) (lL 0))) (mS (mA t_1 (lF rfl (lC (lV g_1) (lC (lF rfl (lC (lV g_3) lN)) lN)))) (mS (m_aug rfl v_add_eq g_4 t_4 (lL 1)) mK))) (mS (m_ife (l_cmp w_gt_eq (p_var g_4) (lL 0)) (mS (m_app g_2 t_2 (l_tup (lC (lV g_3) (lC (lV g_4) lN)))) mK) mK) mK)))) (mS (m_frz g_2 t_2 (m_ret (lF rfl (lC (lV g_2) lN)))) mK)))))
theorem c_law_lowest : CmpS (DR .f_law_lowest) b_law_lowest h_law_lowest := (mS (m_asgT (k_v (l_abs (lV g_0)) (k_v (lV g_1) k_n)) (i_c t_2 (i_c t_3 i_n))) (mS (m_whl 1000 (l_cmp w_gt_eq (p_var g_3) (lL 0)) (mS (m_asgT (k_v (lV g_3) (k_v (l_bin v_mod_eq (lV g_2) (lV g_3)) k_n)) (i_c t_2 (i_c t_3 i_n))) mK)) (mS (m_ret (l_tup (lC (l_bin v_fdiv_eq (lV g_0) (lV g_2)) (lC (l_bin v_fdiv_eq (lV g_1) (lV g_2)) lN)))) mK)))
theorem c_law_times : CmpS (DR .f_law_times) b_law_times h_law_times := (mS (m_asgO rfl t_2 (l_bin v_mul_eq (l_lst (lC (lL 0) lN)) (l_bin v_sub_eq (l_bin v_add_eq (l_len (p_var g_0)) (l_len (p_var g_1))) (lL 1)))) (mS (m_for (tg_2 t_3 t_4) (l_enum (lV g_0)) (mS (m_for (tg_2 t_5 t_6) (l_enum (lV g_1)) (mS (m_seti g_2 t_2 (l_bin v_add_eq (lV g_3) (lV g_5)) (l_bin v_add_eq (l_idx (p_var g_2) (l_bin v_add_eq (lV g_3) (lV g_5))) (l_bin v_mul_eq (lV g_4) (lV g_6)))) mK)) mK)) (mS (m_frz g_2 t_2 (m_ret (lV g_2))) mK)))
theorem df_ok : ∀ (f : Fn) (args : List PV) (r : PV), DF f args = some r → Goes (DR f) f args r
  | .f_gcd_all, _, _, e => a1_ok rfl rfl c_gcd_all e
  | .f_rat, _, _, e => a2_ok rfl rfl c_rat e
  | .f_radd, _, _, e => a2_ok rfl rfl c_radd e
  | .f_rsub, _, _, e => a2_ok rfl rfl c_rsub e
  | .f_rmul, _, _, e => a2_ok rfl rfl c_rmul e
  | .f_rcompare, _, _, e => a2_ok rfl rfl c_rcompare e
  | .f_rfloor, _, _, e => a1_ok rfl rfl c_rfloor e
  | .f_ztrim, _, _, e => a1_ok rfl rfl c_ztrim e
  | .f_zdegree, _, _, e => a1_ok rfl rfl c_zdegree e
  | .f_zlead, _, _, e => a1_ok rfl rfl c_zlead e
  | .f_zadd, _, _, e => a2_ok rfl rfl c_zadd e
  | .f_zneg, _, _, e => a1_ok rfl rfl c_zneg e
  | .f_zsub, _, _, e => a2_ok rfl rfl c_zsub e
  | .f_zscale, _, _, e => a2_ok rfl rfl c_zscale e
  | .f_zraise, _, _, e => a2_ok rfl rfl c_zraise e
  | .f_zcontent, _, _, e => a1_ok rfl rfl c_zcontent e
  | .f_zdivided, _, _, e => a2_ok rfl rfl c_zdivided e
  | .f_zprimitive, _, _, e => a1_ok rfl rfl c_zprimitive e
  | .f_zderive, _, _, e => a1_ok rfl rfl c_zderive e
  | .f_check_bottom, _, _, e => a1_ok rfl rfl c_check_bottom e
  | .f_zexact, _, _, e => a2_ok rfl rfl c_zexact e
  | .f_pseudo, _, _, e => a2_ok rfl rfl c_pseudo e
  | .f_zpseudo_rest, _, _, e => a2_ok rfl rfl c_zpseudo_rest e
  | .f_next_height, _, _, e => a3_ok rfl rfl c_next_height e
  | .f_subresultants, _, _, e => a2_ok rfl rfl c_subresultants e
  | .f_zgcd, _, _, e => a2_ok rfl rfl c_zgcd e
  | .f_sign_of, _, _, e => a1_ok rfl rfl c_sign_of e
  | .f_value_sign, _, _, e => a2_ok rfl rfl c_value_sign e
  | .f_sign_at, _, _, e => a2_ok rfl rfl c_sign_at e
  | .f_simple_part, _, _, e => a1_ok rfl rfl c_simple_part e
  | .f_lessened, _, _, e => a1_ok rfl rfl c_lessened e
  | .f_next_of_row, _, _, e => a2_ok rfl rfl c_next_of_row e
  | .f_sturm_row, _, _, e => a1_ok rfl rfl c_sturm_row e
  | .f_changes_at, _, _, e => a2_ok rfl rfl c_changes_at e
  | .f_count_by_row, _, _, e => a3_ok rfl rfl c_count_by_row e
  | .f_root_bound, _, _, e => a1_ok rfl rfl c_root_bound e
  | .f_middle, _, _, e => a2_ok rfl rfl c_middle e
  | .f_linear_of, _, _, e => a1_ok rfl rfl c_linear_of e
  | .f_is_inside, _, _, e => a2_ok rfl rfl c_is_inside e
  | .f_split_roots, _, _, e => a1_ok rfl rfl c_split_roots e
  | .f_halved, _, _, e => a2_ok rfl rfl c_halved e
  | .f_kept_off, _, _, e => a3_ok rfl rfl c_kept_off e
  | .f_sorted_intervals, _, _, e => a1_ok rfl rfl c_sorted_intervals e
  | .f_isolate, _, _, e => a1_ok rfl rfl c_isolate e
  | .f_refine, _, _, e => a3_ok rfl rfl c_refine e
  | .f_tried_roots, _, _, e => a1_ok rfl rfl c_tried_roots e
  | .f_sorted_roots, _, _, e => a1_ok rfl rfl c_sorted_roots e
  | .f_rational_roots, _, _, e => a1_ok rfl rfl c_rational_roots e
  | .f_law_lowest, _, _, e => a2_ok rfl rfl c_law_lowest e
  | .f_law_times, _, _, e => a2_ok rfl rfl c_law_times e
  | .f_gcd, _, _, e => gcd_goes _ _ _ e
end Mine.Internal
namespace Mine.Internal
open PySem PySem.W PyProof.Rows
theorem all_contracts {prog : Program} {w : World} {hB : Heap} {mg mb : Str → Option Value} (G2 : Gs2 hB mg mb) (n : Nat) (f : Fn) (args : List PV) (r : PV) (hn : f.rank < n) (h : DF f args = some r) : Contract prog w hB mg n f args r :=
  contracts DF G2 (fun f args r h => df_ok f args r h) n f args r hn h
end Mine.Internal
namespace Mine.Internal
noncomputable abbrev eI (i : Int) : PV := .int i
noncomputable abbrev eP (p : List Int) : PV := .lst (p.map PV.int)
noncomputable abbrev eQ (q : Q) : PV := .tup [.int q.1, .int q.2]
noncomputable abbrev eV (v : Iv) : PV := .tup [eQ v.1, eQ v.2]
theorem jM1 {β : Type} {f : List PV → Option β} {i : List PV} : isM f (.lst i) = f i := rfl
theorem jM2 {β : Type} {f : List PV → Option β} {i : List PV} : isM f (.itr i) = f i := rfl

theorem ble_bif {α : Type} {c : Bool} {x y : Option α} {r : α} (h : (bif c then x else y) = some r) : (c = true ∧ x = some r) ∨ (c = false ∧ y = some r) := by
  cases c with
  | false => exact .inr ⟨rfl, h⟩
  | true => exact .inl ⟨rfl, h⟩
theorem mulK_some {α : Type} {a b : Int} {k : Int → Option α} {r : α} (h : mulK a b k = some r) : v_mul (.int a) (.int b) = some (.int (a * b)) ∧ k (a * b) = some r := by
  unfold mulK at h
  rcases ble_bif h with ⟨h1, h2⟩ | ⟨_, h2⟩
  · rw [frc_eq, imul_eq] at h2
    rw [smF_eq, smF_eq] at h1
    refine ⟨?_, h2⟩
    show (bif sm a && sm b then mkI (a * b) else none) = _
    rw [h1, mkI_eq]; rfl
  · cases h2
theorem fdK_some {α : Type} {a b : Int} {k : Int → Option α} {r : α} (h : fdK a b k = some r) : v_fdiv (.int a) (.int b) = some (.int (Int.fdiv a b)) ∧ k (Int.fdiv a b) = some r := by
  unfold fdK at h
  rcases ble_bif h with ⟨_, h2⟩ | ⟨h1, h2⟩
  · cases h2
  rcases ble_bif h2 with ⟨h3, h4⟩ | ⟨_, h4⟩
  · rw [frc_eq] at h4
    rw [smF_eq] at h3
    refine ⟨?_, h4⟩
    show (bif isZ b then none else bif sd b then mkI (Int.fdiv a b) else none) = _
    rw [h1, show sd b = true from h3, mkI_eq]; rfl
  · cases h4
theorem v_add_int (a b : Int) : v_add (.int a) (.int b) = some (.int (a + b)) := mkI_eq _
theorem v_sub_int (a b : Int) : v_sub (.int a) (.int b) = some (.int (a - b)) := mkI_eq _
theorem gcd_some (a b : Int) : n_gcd [.int a, .int b] = some (.int (mgcd a b)) := rfl
theorem L_rat {t b : Int} {r : Q} (h : mrat t b = some r) : n_rat [.int t, .int b] = some (eQ r) := by
  unfold mrat at h
  rcases ble_bif h with ⟨_, h2⟩ | ⟨h1, h2⟩
  · cases h2
  rw [frc_eq] at h2
  unfold ratG at h2
  obtain ⟨d1, h3⟩ := fdK_some h2
  obtain ⟨d2, h4⟩ := fdK_some h3
  cases h4
  unfold n_rat a2 h_rat
  have e0 : eqB b 0 = false := by rw [eqB_eq, ← isZ_eq]; exact h1
  cases hc : ltB 0 b with
  | true =>
    rw [hc] at d1 d2
    simp only [cond_true] at d1 d2
    simp only [qS, th_n, th_r, qI, tst0, qK, qA, asgV_i, qR, o2, ox_s, kP, slP_v, kL, wEq, wGt, jT, jB, someB_eq, cond_true, k_ite, k_call, kC, kN, k_var, slV_v, cV_i, t2, fin_r, e0, hc, gcd_some, d1, d2]
  | false =>
    rw [hc] at d1 d2
    simp only [cond_false, isub_eq] at d1 d2
    simp only [qS, th_n, th_r, qI, tst0, qK, qA, asgV_i, qR, o2, ox_s, kP, slP_v, kL, wEq, wGt, jT, jB, someB_eq, cond_false, k_ite, k_call, kC, kN, k_var, slV_v, cV_i, t2, fin_r, e0, hc, gcd_some, v_sub_int, d1, d2, isub_eq]
theorem L_radd {a b r : Q} (h : mradd a b = some r) : n_radd [eQ a, eQ b] = some (eQ r) := by
  unfold mradd at h
  obtain ⟨d1, h⟩ := mulK_some h
  obtain ⟨d2, h⟩ := mulK_some h
  obtain ⟨d3, h⟩ := mulK_some h
  rw [frc_eq, iadd_eq] at h
  have h' := L_rat h
  unfold n_radd a2 h_radd
  simp only [qS, th_r, qR, o2, ox_s, kP, slP_v, kL, jI, jT, k_call, kC, kN, cV_i, kI, iV_t, pidxF, List.getElem?_cons_zero, List.getElem?_cons_succ, fin_r, d1, d2, d3, v_add_int, h']
theorem L_rsub {a b r : Q} (h : mrsub a b = some r) : n_rsub [eQ a, eQ b] = some (eQ r) := by
  unfold mrsub at h
  obtain ⟨d1, h⟩ := mulK_some h
  obtain ⟨d2, h⟩ := mulK_some h
  obtain ⟨d3, h⟩ := mulK_some h
  rw [frc_eq, isub_eq] at h
  have h' := L_rat h
  unfold n_rsub a2 h_rsub
  simp only [qS, th_r, qR, o2, ox_s, kP, slP_v, kL, jI, jT, k_call, kC, kN, cV_i, kI, iV_t, pidxF, List.getElem?_cons_zero, List.getElem?_cons_succ, fin_r, d1, d2, d3, v_sub_int, h']
theorem L_rmul {a b r : Q} (h : mrmul a b = some r) : n_rmul [eQ a, eQ b] = some (eQ r) := by
  unfold mrmul at h
  obtain ⟨d1, h⟩ := mulK_some h
  obtain ⟨d2, h⟩ := mulK_some h
  have h' := L_rat h
  unfold n_rmul a2 h_rmul
  simp only [qS, th_r, qR, o2, ox_s, kP, slP_v, kL, jI, jT, k_call, kC, kN, cV_i, kI, iV_t, pidxF, List.getElem?_cons_zero, List.getElem?_cons_succ, fin_r, d1, d2, h']
theorem sgn_eq (x : Int) : v_sub (.bool (ltB 0 x)) (.bool (ltB x 0)) = some (.int (sgn x)) := by
  show mkI (b2i (ltB 0 x) - b2i (ltB x 0)) = _
  rw [mkI_eq, ltB_eq, ltB_eq]
  cases x with
  | ofNat n =>
    cases n with
    | zero => rfl
    | succ n =>
      have h1 : (0 : Int) < Int.ofNat (n + 1) := Int.ofNat_lt.mpr (Nat.succ_pos n)
      have h2 : ¬ Int.ofNat (n + 1) < 0 := Int.not_lt.mpr (Int.natCast_nonneg _)
      simp only [h1, h2, decide_true, decide_false]; rfl
  | negSucc n =>
    have h1 : ¬ (0 : Int) < Int.negSucc n := Int.not_lt.mpr (Int.le_of_lt (Int.negSucc_lt_zero n))
    have h2 : Int.negSucc n < 0 := Int.negSucc_lt_zero n
    simp only [h1, h2, decide_true, decide_false]; rfl
theorem L_rcompare {a b : Q} {r : Int} (h : mrcompare a b = some r) : n_rcompare [eQ a, eQ b] = some (.int r) := by
  unfold mrcompare at h
  obtain ⟨d1, h⟩ := mulK_some h
  obtain ⟨d2, h⟩ := mulK_some h
  cases h
  unfold n_rcompare a2 h_rcompare
  simp only [qS, th_n, th_r, qA, asgV_i, qR, o2, ox_s, kP, slP_v, kL, wGt, wLt, jI, someB_eq, kI, iV_t, pidxF, List.getElem?_cons_zero, List.getElem?_cons_succ, t2, fin_r, d1, d2, v_sub_int, sgn_eq, isub_eq]
theorem L_rfloor {a : Q} {r : Int} (h : mrfloor a = some r) : n_rfloor [eQ a] = some (.int r) := by
  unfold mrfloor at h
  obtain ⟨d1, h⟩ := fdK_some h
  cases h
  unfold n_rfloor a1 h_rfloor
  simp only [qS, th_r, qR, o2, ox_s, kP, slP_v, kL, jI, kI, iV_t, pidxF, List.getElem?_cons_zero, List.getElem?_cons_succ, fin_r, d1]
theorem L_sign_of (x : Int) : n_sign_of [.int x] = some (.int (sgn x)) := by
  unfold n_sign_of a1 h_sign_of
  simp only [qS, th_r, qR, o2, ox_s, kP, slP_v, kL, wGt, wLt, someB_eq, fin_r, sgn_eq]
set_option tactic.hygienic true in
theorem L_middle {a b r : Q} (h : mmiddle a b = some r) : n_middle [eQ a, eQ b] = some (eQ r) := by
  unfold mmiddle at h
  split at h
  · rename_i s hs
    have h1 := L_radd hs
    have h2 := L_rmul h
    unfold n_middle a2 h_middle
    have e : glv Gl.half = eQ (1, 2) := rfl
    simp only [qS, th_r, qR, ox_s, jT, k_call, kC, kN, k_var, slV_v, cV_t, fin_r, h1, k_glb, e, h2]
  · cases h
theorem vs_go (tp bt : Int) (h : S) (hh : ∀ r f s c, r.s2 = .val (.int tp) → r.s3 = .val (.int bt) → r.s4 = .val (.int f) → r.s5 = .val (.int s) → r.s6 = .val (.int c) → ∀ x y s', v_mul (.int f) (.int tp) = some (.int x) → v_mul (.int c) (.int s) = some (.int y) → v_mul (.int s) (.int bt) = some (.int s') →
      h r = some (.next, t5 (t4 r (.val (.int (x + y)))) (.val (.int s')))) : ∀ (l : List Int) (r : R) (f s v : Int), r.s2 = .val (.int tp) → r.s3 = .val (.int bt) → r.s4 = .val (.int f) → r.s5 = .val (.int s) → mvsGo tp bt l f s = some v →
      ∃ r' z, q_go (g1 t6) h (l.map PV.int) r = some (.next, r') ∧ r'.s4 = .val (.int z) ∧ sgn z = v
  | [], r, f, s, v, e2, e3, e4, e5, e => by
    cases e; exact ⟨r, f, rfl, e4, rfl⟩
  | c :: l, r, f, s, v, e2, e3, e4, e5, e => by
    simp only [mvsGo_e1, mvsGo_e2] at e
    obtain ⟨d1, e⟩ := mulK_some e
    obtain ⟨d2, e⟩ := mulK_some e
    obtain ⟨d3, e⟩ := mulK_some e
    rw [frc_eq, iadd_eq] at e
    have hb := hh (t6 r (.val (.int c))) f s c e2 e3 e4 e5 rfl _ _ _ d1 d2 d3
    obtain ⟨r', z, q1, q2, q3⟩ := vs_go tp bt h hh l (t5 (t4 (t6 r (.val (.int c))) (.val (.int (f * tp + c * s)))) (.val (.int (s * bt)))) _ _ v e2 e3 rfl rfl e
    refine ⟨r', z, ?_, q2, q3⟩
    show q_then (q_go (g1 t6) h (l.map PV.int)) (h (t6 r (.val (.int c)))) = _
    rw [hb]; exact q1
theorem L_vsign {p : List Int} {x : Q} {v : Int} (h : mvsign p x = some v) : n_value_sign [eP p, eQ x] = some (.int v) := by
  unfold n_value_sign a2 h_value_sign
  unfold mvsign at h
  have hr : (p.map PV.int).reverse = p.reverse.map PV.int := by rw [List.map_reverse]
  obtain ⟨r', z, q1, q2, q3⟩ := vs_go x.1 x.2 (qS (qA t4 (o2 v_add (o2 v_mul (k_var R.s4) (k_var R.s2)) (o2 v_mul (k_var R.s6) (k_var R.s5)))) (qS (qA t5 (o2 v_mul (k_var R.s5) (k_var R.s3))) qK)) (by
    intro r f s c a2 a3 a4 a5 a6 x' y s' d1 d2 d3
    simp only [qS, th_n, qK, qA, asgV_i, o2, ox_s, k_var, slV_v, t4, t5, a2, a3, a4, a5, a6, d1, d2, d3, v_add_int]) p.reverse ⟨.val (eP p), .val (eQ x), .val (.int x.1), .val (.int x.2), .val (.int 0), .val (.int 1), .un, .un, .un, .un⟩ 0 1 v rfl rfl rfl rfl h
  simp only [qS, th_n, ox_s, kL, k_var, slV_v, t2, t3, t4, t5, unp_t, nx_s, stc_s, stn_n, q_unp, qT, aTV_s, n_val, n_nil, q_for, its_i, k_rev, jL, List.map_cons, List.map_nil, hr]
  rw [q1]
  simp only [qS, th_n, th_r, qR, ox_s, jT, k_call, kC, kN, k_var, slV_v, cV_i, fin_r, q2, L_sign_of, q3]
end Mine.Internal
namespace Mine.Internal
theorem mztrim_0 : ∀ (l : List Int), mztrim (l ++ [0]) = mztrim l
  | [] => rfl
  | x :: r => by
    show (match mztrim (r ++ [0]) with | [] => _ | r' => _) = _
    rw [mztrim_0 r]; rfl
theorem mztrim_x {x : Int} (hx : isZ x = false) : ∀ (l : List Int), mztrim (l ++ [x]) = l ++ [x]
  | [] => by show (bif isZ x then [] else [x]) = [x]; rw [hx]; rfl
  | y :: r => by
    show (match mztrim (r ++ [x]) with | [] => _ | r' => y :: r') = _
    rw [mztrim_x hx r]
    cases r <;> rfl
theorem getE {l : List Int} {k : Nat} (h : k < l.length) : (l.map PV.int)[k]? = some (.int l[k]) := by
  rw [List.getElem?_map, List.getElem?_eq_getElem h]; rfl
theorem pidxF_of {l : List Int} {k : Nat} (h : k < l.length) : pidxF (l.map PV.int) (k : Int) = some (.int l[k]) := getE h
theorem idxV_of {l : List Int} {k : Nat} (h : k < l.length) : idxV (eP l) (k : Int) = some (.int l[k]) := pidxF_of h
theorem ltB_nat (a b : Nat) : ltB (a : Int) (b : Int) = Nat.blt a b := by
  rw [ltB_eq]
  cases e : Nat.blt a b with
  | true => have := Nat.le_of_ble_eq_true e; exact decide_eq_true (by lia)
  | false =>
    refine decide_eq_false fun h => ?_
    rw [show Nat.blt a b = true from Nat.ble_eq_true_of_le (show a + 1 ≤ b by lia)] at e; cases e
theorem trim_go (l : List Int) : ∀ (k n : Nat) (r : R), k ≤ l.length → k < n → r.s0 = .val (eP l) → r.s1 = .val (.int k) →
    ∃ r' k', q_whl (k_and (o2 w_gt (kP R.s1) (kL 0)) (o2 w_eq (kI (kP R.s0) (o2 v_sub (k_var R.s1) (kL 1))) (kL 0))) (qS (q_aug R.s1 t1 v_sub (kL 1)) qK) n r = some (.next, r') ∧ r'.s0 = .val (eP l) ∧ r'.s1 = .val (.int ((k' : Nat) : Int)) ∧ l.take k' = mztrim (l.take k) := by
  intro k
  induction k with
  | zero =>
    intro n r _ hn h0 h1
    obtain ⟨m, rfl⟩ : ∃ m, n = m + 1 := ⟨n - 1, by lia⟩
    refine ⟨r, 0, ?_, h0, h1, rfl⟩
    simp only [q_whl_e1, q_whl_e2, qS]
    simp only [tst0, o2, ox_s, kP, slP_v, kL, wGt, jB, someB_eq, cond_false, k_var, slV_v, kI, k_and, h1, show ltB 0 ((0 : Nat) : Int) = false from rfl]
  | succ k ih =>
    intro n r hk hn h0 h1
    obtain ⟨m, rfl⟩ : ∃ m, n = m + 1 := ⟨n - 1, by lia⟩
    have hlt : k < l.length := hk
    have e1 : ltB 0 ((k + 1 : Nat) : Int) = true := by rw [ltB_eq]; exact decide_eq_true (by lia)
    have e2 : ((k + 1 : Nat) : Int) - 1 = (k : Int) := by lia
    have htk : l.take (k + 1) = l.take k ++ [l[k]] := List.take_succ_eq_append_getElem hlt
    cases hz : isZ l[k] with
    | true =>
      have hz0 : l[k] = 0 := by rw [isZ_eq] at hz; simpa using hz
      obtain ⟨r', k', q1, q2, q3, q4⟩ := ih m (t1 r (.val (.int (k : Int)))) (by lia) (by lia) h0 rfl
      refine ⟨r', k', ?_, q2, q3, ?_⟩
      · simp only [q_whl_e1, q_whl_e2, qS]
        simp only [th_n, tst1, qK, o2, ox_s, kP, slP_v, kL, wEq, wGt, jI, jB, someB_eq, cond_true, k_var, slV_v, kI, iV_l, pidxF, t1, k_and, h0, h1, e1, v_sub_int, e2, getE hlt, q_aug, hz0, show eqB 0 0 = true from rfl]
        simp only [t1, h0] at q1
        exact q1
      · rw [q4, htk, hz0, mztrim_0]
    | false =>
      have hz0 : eqB l[k] 0 = false := by rw [eqB_eq, ← isZ_eq]; exact hz
      refine ⟨r, k + 1, ?_, h0, h1, ?_⟩
      · simp only [q_whl_e1, q_whl_e2, qS]
        simp only [tst0, o2, ox_s, kP, slP_v, kL, wEq, wGt, jI, jB, someB_eq, cond_true, k_var, slV_v, kI, iV_l, pidxF, k_and, h0, h1, e1, v_sub_int, e2, getE hlt, hz0]
      · rw [htk, mztrim_x hz]
theorem L_ztrim {l : List Int} (hl : l.length ≤ 500) : n_ztrim [eP l] = some (eP (mztrim l)) := by
  unfold n_ztrim a1 h_ztrim
  obtain ⟨r', k', q1, q2, q3, q4⟩ := trim_go l l.length 1000 ⟨.val (eP l), .val (.int (l.length : Nat)), .un, .un, .un, .un, .un, .un, .un, .un⟩ (Nat.le_refl _) (by lia) rfl rfl
  simp only [qS, th_n, qA, asgV_i, ox_s, kP, slP_v, mkI_eq, t1, k_len, jL, List.length_map]
  rw [q1]
  have e0 : (0 : Int) ≤ (k' : Int) := Int.natCast_nonneg _
  simp only [qS, th_n, th_r, qR, ox_s, jI, k_var, slV_v, fin_r, k_list, k_upto, jL, q2, q3, if_pos e0, Int.toNat_natCast]
  rw [← List.map_take, q4, List.take_length]
theorem zaddU_get : ∀ (a b : List Int) (k : Nat), (mzaddU a b).getD k 0 = a.getD k 0 + b.getD k 0 ∧ (mzaddU a b).length = max a.length b.length
  | [], b, k => by simp [mzaddU]
  | x :: a, [], k => by simp [mzaddU]
  | x :: a, y :: b, 0 => by
    refine ⟨by simp [mzaddU, iadd_eq], ?_⟩
    have := (zaddU_get a b 0).2
    simp only [mzaddU, List.length_cons, this]; lia
  | x :: a, y :: b, k + 1 => by
    obtain ⟨h1, h2⟩ := zaddU_get a b k
    refine ⟨by simpa [mzaddU] using h1, ?_⟩
    simp only [mzaddU, List.length_cons, h2]; lia
theorem zaddU_list (a b : List Int) : mzaddU a b = (List.range (max a.length b.length)).map fun k => a.getD k 0 + b.getD k 0 := by
  apply List.ext_getElem
  · rw [(zaddU_get a b 0).2]; simp
  · intro i h1 h2
    have := (zaddU_get a b i).1
    rw [List.getD_eq_getElem?_getD, List.getElem?_eq_getElem h1] at this
    simpa using this
theorem kgo_map {st : R → PV → Option R} {f : K} {base : R} {F : Nat → PV} {G : Nat → PV} : ∀ (l : List Nat), (∀ k ∈ l, ∃ r, st base (F k) = some r ∧ f r = some (G k)) → kgo st f base (l.map F) = some (l.map G)
  | [], _ => rfl
  | k :: l, h => by
    obtain ⟨r, h1, h2⟩ := h k List.mem_cons_self
    simp only [List.map_cons, kgo_e1, kgo_e2, h1, h2, kgo_map l fun j hj => h j (List.mem_cons_of_mem _ hj)]
theorem max2_nat (a b : Nat) : max2V (.int a) (.int b) = some (.int ((max a b : Nat) : Int)) := by
  show (bif ltB (a : Int) (b : Int) then some (PV.int b) else some (.int a)) = _
  rw [ltB_nat]
  cases e : Nat.blt a b with
  | true => have := Nat.le_of_ble_eq_true e; rw [Nat.max_eq_right (by lia)]; rfl
  | false =>
    have : ¬ a + 1 ≤ b := fun h => by rw [show Nat.blt a b = true from Nat.ble_eq_true_of_le h] at e; cases e
    rw [Nat.max_eq_left (by lia)]; rfl
theorem L_zadd {a b : List Int} (ha : a.length ≤ 500) (hb : b.length ≤ 500) : n_zadd [eP a, eP b] = some (eP (mzadd a b)) := by
  have hm : (mzaddU a b).length ≤ 500 := by rw [(zaddU_get a b 0).2]; lia
  have ht := L_ztrim hm
  unfold n_zadd a2 h_zadd
  have hLL : max a.length b.length ≤ LL := by simp only [LL]; lia
  have hr : rngPV 0 ((max a.length b.length : Nat) : Int) = (List.range (max a.length b.length)).map fun k : Nat => PV.int (k : Int) := by
    unfold rngPV; simp
  have c0 : (0 : Int) ≤ ((max a.length b.length : Nat) : Int) ∧ ((max a.length b.length : Nat) : Int) ≤ (LL : Int) := ⟨Int.natCast_nonneg _, Int.ofNat_le.mpr hLL⟩
  have nb : Nat.ble (max a.length b.length) LL = true := Nat.ble_eq_true_of_le hLL
  simp only [qS, th_n, qA, asgV_i, qR, o2, ox_s, kP, slP_v, jI, jT, jM2, cond_true, k_call, kC, kN, k_var, slV_v, mkI_eq, t2, t3, k_len, jL, List.length_map, max2_nat, k_comp, k_rng1, if_pos c0, jM2, hr, List.length_range, nb, lstO', hideR, hs_v, hs_u, c1]
  rw [kgo_map (G := fun k => PV.int (a.getD k 0 + b.getD k 0))]
  · simp only [ox_s, jT, cV_l]
    have e : (List.range (max a.length b.length)).map (fun k => PV.int (a.getD k 0 + b.getD k 0)) = (mzaddU a b).map PV.int := by rw [zaddU_list, List.map_map]; rfl
    rw [e, ht]; rfl
  · intro k hk
    have hk' := List.mem_range.mp hk
    refine ⟨_, rfl, ?_⟩
    have one : ∀ (l : List Int), (bif Nat.blt k l.length then idxV (eP l) (k : Int) else some (PV.int 0)) = some (.int (l.getD k 0)) := fun l => by
      cases e : Nat.blt k l.length with
      | true => have h : k < l.length := Nat.le_of_ble_eq_true e; simp only [cond_true, idxV_of h]; simp [h]
      | false =>
        have h : ¬ k < l.length := fun h => by rw [show Nat.blt k l.length = true from Nat.ble_eq_true_of_le h] at e; cases e
        simp [h]
    have oa := one a
    have ox' := one b
    simp only [iV_l, pidxF] at oa ox'
    simp only [o2, ox_s, kP, slP_v, kL, wLt, jI, jB, someB_eq, k_ite, k_var, slV_v, kI, iV_l, pidxF, mkI_eq, t3, k_len, jL, List.length_map, ltB_nat, oa, ox', v_add_int]
end Mine.Internal
namespace Mine.Internal
theorem ble_LL {n : Nat} (h : n ≤ 500) : Nat.ble n LL = true := Nat.ble_eq_true_of_le (Nat.le_trans h (by decide))
theorem kgo_ints {st : R → PV → Option R} {f : K} {base : R} {G : Int → Int} : ∀ (l : List Int), (∀ x ∈ l, ∃ r, st base (.int x) = some r ∧ f r = some (.int (G x))) → kgo st f base (l.map PV.int) = some ((l.map G).map PV.int)
  | [], _ => rfl
  | x :: l, h => by
    obtain ⟨r, h1, h2⟩ := h x List.mem_cons_self
    simp only [List.map_cons, kgo_e1, kgo_e2, h1, h2, kgo_ints l fun j hj => h j (List.mem_cons_of_mem _ hj)]
theorem mzneg_map : ∀ p : List Int, mzneg p = p.map fun x => -x
  | [] => rfl
  | x :: r => by simp [mzneg, ineg_eq, mzneg_map r]
theorem L_zneg {p : List Int} (hp : p.length ≤ 500) : n_zneg [eP p] = some (eP (mzneg p)) := by
  unfold n_zneg a1 h_zneg
  simp only [qS, qR, ox_s, jM1, cond_true, k_var, slV_v, t1, k_comp, jM1, List.length_map, ble_LL hp, hideR, hs_v, hs_u, c1]
  rw [kgo_ints (G := fun x => -x)]
  · rw [mzneg_map]; rfl
  · intro x _
    refine ⟨_, rfl, ?_⟩
    simp only [ox_s, jI, k_var, slV_v, k_neg, mkI_eq, t1]
set_option tactic.hygienic true in
theorem mztrim_len : ∀ l : List Int, (mztrim l).length ≤ l.length
  | [] => Nat.le_refl _
  | x :: r => by
    have ih := mztrim_len r
    show (match mztrim r with | [] => (bif isZ x then [] else [x]) | r' => x :: r').length ≤ r.length + 1
    split
    · cases isZ x <;> simp
    · rename_i r' hr; simp only [List.length_cons]; lia
theorem mzneg_len (p : List Int) : (mzneg p).length = p.length := by rw [mzneg_map, List.length_map]
theorem mzsub_len (a b : List Int) : (mzsub a b).length ≤ max a.length b.length := by
  unfold mzsub mzadd
  refine Nat.le_trans (mztrim_len _) ?_
  rw [(zaddU_get _ _ 0).2, mzneg_len]; exact Nat.le_refl _
theorem L_zsub {a b : List Int} (ha : a.length ≤ 500) (hb : b.length ≤ 500) : n_zsub [eP a, eP b] = some (eP (mzsub a b)) := by
  unfold n_zsub a2 h_zsub
  have h1 := L_zneg hb
  have h2 := L_zadd ha (show (mzneg b).length ≤ 500 by rw [mzneg_len]; exact hb)
  simp only [qS, th_r, qR, ox_s, jT, k_call, kC, kN, k_var, slV_v, cV_l, fin_r, h1, h2]
  rfl
set_option tactic.hygienic true in
theorem mscl_some {k : Int} : ∀ {p r : List Int}, mscl k p = some r → r = p.map (fun x => x * k) ∧ ∀ x ∈ p, v_mul (.int x) (.int k) = some (.int (x * k))
  | [], r, h => by cases h; exact ⟨rfl, fun o0 h => by cases h⟩
  | x :: p, r, h => by
    simp only [mscl_e1, mscl_e2] at h
    obtain ⟨d, h⟩ := mulK_some h
    split at h
    · rename_i l hl
      cases h
      obtain ⟨h1, h2⟩ := mscl_some hl
      refine ⟨by rw [h1]; rfl, fun y hy => ?_⟩
      rcases List.mem_cons.mp hy with rfl | hy
      · exact d
      · exact h2 y hy
    · cases h
theorem L_zscale {p r : List Int} {k : Int} (hp : p.length ≤ 500) (h : mzscale p k = some r) : n_zscale [eP p, .int k] = some (eP r) := by
  unfold mzscale at h
  unfold n_zscale a2 h_zscale
  rcases ble_bif h with ⟨h1, h2⟩ | ⟨h1, h2⟩
  · cases h2
    have e0 : eqB k 0 = true := by rw [eqB_eq, ← isZ_eq]; exact h1
    simp only [qS, th_r, qR, o2, ox_s, kP, slP_v, kL, wNe, jT, jB, someB_eq, cond_false, k_ite, kN, fin_r, e0, Bool.not_true, k_lst, fit, List.length_nil, if_pos (Nat.zero_le LL)]
    rfl
  · have e0 : eqB k 0 = false := by rw [eqB_eq, ← isZ_eq]; exact h1
    obtain ⟨h3, h4⟩ := mscl_some h2
    simp only [qS, qR, o2, ox_s, kP, slP_v, kL, wNe, jB, jM1, someB_eq, cond_true, k_ite, k_var, slV_v, t2, e0, Bool.not_false, k_comp, jM1, List.length_map, ble_LL hp, hideR, hs_v, hs_u, c1]
    rw [kgo_ints (G := fun x => x * k)]
    · rw [h3]; rfl
    · intro x hx
      refine ⟨_, rfl, ?_⟩
      simp only [o2, ox_s, k_var, slV_v, t2, h4 x hx]
theorem mzscale_len {p r : List Int} {k : Int} (h : mzscale p k = some r) : r.length ≤ p.length := by
  unfold mzscale at h
  rcases ble_bif h with ⟨_, h2⟩ | ⟨_, h2⟩
  · cases h2; exact Nat.zero_le _
  · rw [(mscl_some h2).1, List.length_map]; exact Nat.le_refl _
theorem zeros_eq : ∀ (n : Nat) (p : List Int), zeros n p = List.replicate n 0 ++ p
  | 0, p => rfl
  | n + 1, p => by simp [zeros, zeros_eq n p, List.replicate_succ]
theorem L_zraise {p : List Int} {n : Nat} (h : n + p.length ≤ 500) : n_zraise [eP p, .int n] = some (eP (mzraise p n)) := by
  unfold n_zraise a2 h_zraise
  cases p with
  | nil =>
    have e0 : ltB 0 ((0 : Nat) : Int) = false := rfl
    simp only [qS, th_r, qR, o2, ox_s, kP, slP_v, kL, wGt, jT, jB, someB_eq, cond_false, k_ite, kC, kN, k_var, slV_v, cV_i, mkI_eq, fin_r, k_len, jL, List.map_nil, List.length_nil, e0, k_lst, fit, if_pos (Nat.zero_le LL)]
    rfl
  | cons x p =>
    have e0 : ltB 0 (((List.map PV.int (x :: p)).length : Nat) : Int) = true := by rw [ltB_eq]; exact decide_eq_true (by simp only [List.length_map, List.length_cons]; lia)
    have en : isN ((n : Nat) : Int) = false := rfl
    have h1 : (List.replicate n (PV.int 0)).length ≤ LL := by simp only [List.length_replicate, LL, List.length_cons] at *; lia
    have h2 : (List.replicate n (PV.int 0) ++ List.map PV.int (x :: p)).length ≤ LL := by simp only [List.length_append, List.length_replicate, List.length_map, LL] at *; lia
    have f1 : fit [PV.int 0] = some (.lst [.int 0]) := rfl
    have f2 : fit (List.replicate n (PV.int 0)) = some (.lst (List.replicate n (PV.int 0))) := if_pos h1
    have f3 : fit (List.replicate n (PV.int 0) ++ List.map PV.int (x :: p)) = some (.lst (List.replicate n (PV.int 0) ++ List.map PV.int (x :: p))) := if_pos h2
    have vm : v_mul (.lst [.int 0]) (.int n) = some (.lst (List.replicate n (PV.int 0))) := by
      show (bif isN ((n : Nat) : Int) then none else fit (List.replicate (n : Int).toNat (PV.int 0))) = _
      rw [en]; simpa using f2
    have va : v_add (.lst (List.replicate n (PV.int 0))) (.lst (List.map PV.int (x :: p))) = some (.lst (List.replicate n (PV.int 0) ++ List.map PV.int (x :: p))) := f3
    simp only [qS, th_r, qR, o2, ox_s, kP, slP_v, kL, wGt, jT, jB, someB_eq, cond_true, k_ite, kC, kN, k_var, slV_v, cV_i, mkI_eq, fin_r, k_len, jL, e0, k_lst, f1, vm, k_list, va]
    show some (PV.lst _) = some (PV.lst (List.map PV.int (zeros n (x :: p))))
    rw [zeros_eq, List.map_append, List.map_replicate]
theorem mzraise_len (p : List Int) (n : Nat) : (mzraise p n).length ≤ n + p.length := by
  cases p with
  | nil => exact Nat.zero_le _
  | cons x p => show (zeros n (x :: p)).length ≤ _; rw [zeros_eq]; simp
theorem ga_go (h : S) (hh : ∀ r g x, r.s1 = .val (.int g) → r.s2 = .val (.int x) → h r = some (.next, t1 r (.val (.int (mgcd g x))))) : ∀ (l : List Int) (r : R) (g : Int), r.s1 = .val (.int g) → ∃ r', q_go (g1 t2) h (l.map PV.int) r = some (.next, r') ∧ r'.s1 = .val (.int (mgcdAll g l))
  | [], r, g, e => ⟨r, rfl, e⟩
  | x :: l, r, g, e => by
    obtain ⟨r', q1, q2⟩ := ga_go h hh l (t1 (t2 r (.val (.int x))) (.val (.int (mgcd g x)))) (mgcd g x) rfl
    refine ⟨r', ?_, q2⟩
    show q_then (q_go (g1 t2) h (l.map PV.int)) (h (t2 r (.val (.int x)))) = _
    rw [hh (t2 r (.val (.int x))) g x e rfl]; exact q1
theorem L_gcd_all (p : List Int) : n_gcd_all [eP p] = some (.int (mgcdAll 0 p)) := by
  unfold n_gcd_all a1 h_gcd_all
  obtain ⟨r', q1, q2⟩ := ga_go (qS (qA t1 (k_call n_gcd (kC (k_var R.s1) (kC (k_var R.s2) kN)))) qK) (by
    intro r g x e1 e2
    simp only [qS, th_n, qK, qA, asgV_i, ox_s, jT, k_call, kC, kN, k_var, slV_v, cV_i, t1, e1, e2, gcd_some]) p ⟨.val (eP p), .val (.int 0), .un, .un, .un, .un, .un, .un, .un, .un⟩ 0 rfl
  simp only [qS, th_n, qA, asgV_i, kL, k_var, slV_v, t1, q_for, its_l]
  rw [q1]
  simp only [qS, th_n, th_r, qR, k_var, slV_v, fin_r, q2]
theorem L_zcontent (p : List Int) : n_zcontent [eP p] = some (.int (mgcdAll 0 p)) := by
  unfold n_zcontent a1 h_zcontent
  simp only [qS, th_r, qR, ox_s, jT, k_call, kC, kN, k_var, slV_v, cV_l, fin_r, L_gcd_all]
set_option tactic.hygienic true in
theorem mdivd_some {k : Int} : ∀ {p r : List Int}, mdivd k p = some r → r = p.map (fun x => Int.fdiv x k) ∧ ∀ x ∈ p, v_fdiv (.int x) (.int k) = some (.int (Int.fdiv x k))
  | [], r, h => by cases h; exact ⟨rfl, fun o0 h => by cases h⟩
  | x :: p, r, h => by
    simp only [mdivd_e1, mdivd_e2] at h
    obtain ⟨d, h⟩ := fdK_some h
    split at h
    · rename_i l hl
      cases h
      obtain ⟨h1, h2⟩ := mdivd_some hl
      refine ⟨by rw [h1]; rfl, fun y hy => ?_⟩
      rcases List.mem_cons.mp hy with rfl | hy
      · exact d
      · exact h2 y hy
    · cases h
theorem L_zdivided {p r : List Int} {k : Int} (hp : p.length ≤ 500) (h : mdivd k p = some r) : n_zdivided [eP p, .int k] = some (eP r) := by
  obtain ⟨h3, h4⟩ := mdivd_some h
  unfold n_zdivided a2 h_zdivided
  simp only [qS, qR, ox_s, jM1, cond_true, k_var, slV_v, t2, k_comp, jM1, List.length_map, ble_LL hp, hideR, hs_v, hs_u, c1]
  rw [kgo_ints (G := fun x => Int.fdiv x k)]
  · rw [h3]; rfl
  · intro x hx
    refine ⟨_, rfl, ?_⟩
    simp only [o2, ox_s, k_var, slV_v, t2, h4 x hx]
theorem mlead_last : ∀ (l : List Int), l ≠ [] → l[l.length - 1]? = some (mlead l)
  | [], h => absurd rfl h
  | [x], _ => rfl
  | x :: y :: r, _ => by
    have := mlead_last (y :: r) (by simp)
    simpa [mlead] using this
theorem pidxF_last {l : List Int} (h : l ≠ []) : pidxF (l.map PV.int) (-1) = some (.int (mlead l)) := by
  show (bif Nat.blt 0 (l.map PV.int).length then (l.map PV.int)[(l.map PV.int).length - (0 + 1)]? else none) = _
  have hp : 0 < l.length := List.length_pos_iff.mpr h
  rw [show Nat.blt 0 (l.map PV.int).length = true from Nat.ble_eq_true_of_le (show 1 ≤ (l.map PV.int).length by rw [List.length_map]; exact hp)]
  simp only [cond_true, List.length_map, Nat.zero_add, List.getElem?_map, mlead_last l h]; rfl
theorem len_pos (l : List Int) : ltB 0 (((l.map PV.int).length : Nat) : Int) = !l.isEmpty := by
  cases l with
  | nil => rfl
  | cons x l => rw [ltB_eq]; exact decide_eq_true (by simp only [List.length_map, List.length_cons]; lia)
theorem L_zlead (p : List Int) : n_zlead [eP p] = some (.int (mlead p)) := by
  unfold n_zlead a1 h_zlead
  cases p with
  | nil =>
    simp only [qS, th_r, qR, o2, ox_s, kP, slP_v, kL, wGt, jI, jB, someB_eq, cond_false, k_ite, kI, iV_l, pidxF, k_neg, mkI_eq, fin_r, k_len, jL, len_pos, List.isEmpty_nil, Bool.not_true]
    rfl
  | cons x p =>
    have h1 : ltB 0 (((List.map PV.int (x :: p)).length : Nat) : Int) = true := len_pos _
    have hq := pidxF_last (l := x :: p) (by simp)
    simp only [o2, ox_s, qS, th_r, qR, k_ite, k_len, kP, slP_v, jL, mkI_eq, kL, wGt, jI, h1, someB_eq, jB, cond_true, kI, k_neg, iV_l, hq, fin_r]
theorem L_zdegree (p : List Int) : n_zdegree [eP p] = some (.int ((p.length : Int) - 1)) := by
  unfold n_zdegree a1 h_zdegree
  simp only [qS, th_r, qR, o2, ox_s, kP, slP_v, kL, mkI_eq, fin_r, k_len, jL, List.length_map, v_sub_int]
end Mine.Internal
namespace Mine.Internal
theorem g2_t {t u : R → Slot → R} {r : R} {a b : PV} : g2 t u r (.tup [a, b]) = some (u (t r (.val a)) (.val b)) := rfl
theorem L_zprimitive {p r : List Int} (hp : p.length ≤ 500) (h : mprim p = some r) : n_zprimitive [eP p] = some (eP r) := by
  unfold n_zprimitive a1 h_zprimitive
  cases p with
  | nil =>
    cases h
    have e0 : eqB ((0 : Nat) : Int) 0 = true := rfl
    simp only [qS, th_r, qI, tst1, qK, qR, o2, ox_s, kP, slP_v, kL, wEq, jT, someB_eq, kN, mkI_eq, fin_r, k_len, jL, List.map_nil, List.length_nil, e0, k_lst, fit, if_pos (Nat.zero_le LL)]
    rfl
  | cons x p =>
    have e0 : eqB (((List.map PV.int (x :: p)).length : Nat) : Int) 0 = false := by rw [eqB_eq]; exact decide_eq_false (by simp only [List.length_map, List.length_cons]; lia)
    have hq := pidxF_last (l := x :: p) (by simp)
    have hd := L_zdivided hp (show mdivd (bif ltB 0 (mlead (x :: p)) then mgcdAll 0 (x :: p) else ineg (mgcdAll 0 (x :: p))) (x :: p) = some r from h)
    have hc := L_zcontent (x :: p)
    cases hl : ltB 0 (mlead (x :: p)) with
    | true =>
      rw [hl] at hd
      simp only [cond_true] at hd
      simp only [o2, ox_s, qS, th_n, th_r, qR, qI, tst0, qK, qA, asgV_i, k_ite, k_len, kP, slP_v, jL, mkI_eq, kL, wEq, wGt, jI, e0, someB_eq, jB, cond_true, kI, k_neg, iV_l, hq, fin_r, k_call, kC, kN, k_var, slV_v, cV_i, cV_l, jT, hc, hl, t1, hd]
    | false =>
      rw [hl] at hd
      simp only [cond_false, ineg_eq] at hd
      simp only [o2, ox_s, qS, th_n, th_r, qR, qI, tst0, qK, qA, asgV_i, k_ite, k_len, kP, slP_v, jL, mkI_eq, kL, wEq, wGt, jI, e0, someB_eq, jB, cond_false, kI, k_neg, iV_l, hq, fin_r, k_call, kC, kN, k_var, slV_v, cV_i, cV_l, jT, hc, hl, t1, hd]
theorem mprim_len {p r : List Int} (h : mprim p = some r) : r.length = p.length := by
  cases p with
  | nil => cases h; rfl
  | cons x p => rw [(mdivd_some (show mdivd _ (x :: p) = some r from h)).1, List.length_map]
set_option tactic.hygienic true in
theorem der_go {base : R} : ∀ (p : List Int) (k : Nat) (r : List Int), mderA (k : Int) p = some r → kgo (g2 t1 t2) (o2 v_mul (k_var R.s2) (k_var R.s1)) base (enumPV k (p.map PV.int)) = some (r.map PV.int)
  | [], k, r, h => by cases h; rfl
  | x :: p, k, r, h => by
    simp only [mderA_e1, mderA_e2] at h
    obtain ⟨d, h⟩ := mulK_some h
    split at h
    · rename_i l hl
      cases h
      rw [iadd_eq] at hl
      have ih := der_go (base := base) p (k + 1) l hl
      simp only [List.map_cons, enumPV_e1, enumPV_e2, kgo_e1, kgo_e2, g2_t]
      simp only [o2, ox_s, k_var, slV_v, t1, t2, d]
      rw [ih]
    · cases h
theorem enum_len' : ∀ (l : List PV) (k : Nat), (enumPV k l).length = l.length
  | [], _ => rfl
  | _ :: r, k => by simp [enumPV_e1, enumPV_e2, enum_len' r (k + 1)]
set_option tactic.hygienic true in
theorem L_zderive {p r : List Int} (hp : p.length ≤ 500) (h : mderive p = some r) : n_zderive [eP p] = some (eP r) := by
  unfold mderive at h
  have key : ∀ l, mderA 0 p = some l → r = l.drop 1 → n_zderive [eP p] = some (eP r) := fun l hl e => by
    unfold n_zderive a1 h_zderive
    have hg := der_go (base := ⟨.val (eP p), .un, .un, .un, .un, .un, .un, .un, .un, .un⟩) p 0 l hl
    have hn : (enumPV 0 (List.map PV.int p)).length = p.length := by rw [enum_len', List.length_map]
    simp only [qS, th_r, qR, ox_s, kL, jI, jM2, cond_true, k_var, slV_v, t1, t2, fin_r, k_from, k_comp, jM2, k_enum, jL, hn, ble_LL hp, hideR, hs_v, hs_u, c2, hg, lstO', if_pos (show (0 : Int) ≤ 1 by decide)]
    rw [e]
    show some (PV.lst ((l.map PV.int).drop 1)) = some (PV.lst ((l.drop 1).map PV.int))
    rw [List.map_drop]
  split at h
  · rename_i a l hl; cases h; exact key _ hl rfl
  · rename_i hl; cases h; exact key _ hl rfl
  · cases h
set_option tactic.hygienic true in
theorem mderA_len : ∀ {p : List Int} {k : Int} {r : List Int}, mderA k p = some r → r.length = p.length
  | [], k, r, h => by cases h; rfl
  | x :: p, k, r, h => by
    simp only [mderA_e1, mderA_e2] at h
    obtain ⟨_, h⟩ := mulK_some h
    split at h
    · rename_i l hl; cases h; simp [mderA_len hl]
    · cases h
set_option tactic.hygienic true in
theorem mderive_len {p r : List Int} (h : mderive p = some r) : r.length ≤ p.length := by
  unfold mderive at h
  split at h
  · rename_i a l hl; cases h; have := mderA_len hl; simp at this; lia
  · cases h; exact Nat.zero_le _
  · cases h
theorem L_check {b : List Int} (hb : b ≠ []) : n_check_bottom [eP b] = some .none := by
  unfold n_check_bottom a1 h_check_bottom
  have e0 : eqB (((List.map PV.int b).length : Nat) : Int) 0 = false := by
    rw [eqB_eq]; refine decide_eq_false fun h => hb ?_
    rw [List.length_map] at h
    exact List.length_eq_zero_iff.mp (by lia)
  simp only [qS, th_n, qI, tst0, qK, o2, ox_s, kP, slP_v, kL, wEq, someB_eq, mkI_eq, fin_n, k_len, jL, e0]
theorem L_lessened {p r : List Int} (hp : p.length ≤ 500) (h : mlessened p = some r) : n_lessened [eP p] = some (eP r) := by
  unfold mlessened at h
  unfold n_lessened a1 h_lessened
  have hc := L_zcontent p
  rcases ble_bif h with ⟨h1, h2⟩ | ⟨h1, h2⟩
  · obtain ⟨h3, h4⟩ := mdivd_some h2
    simp only [qS, th_n, qA, asgV_i, qR, o2, ox_s, kP, slP_v, kL, wGt, jT, jB, jM1, someB_eq, cond_true, k_ite, k_call, kC, kN, k_var, slV_v, cV_l, t1, t2, hc, h1, k_comp, jM1, List.length_map, ble_LL hp, hideR, hs_v, hs_u, c1]
    rw [kgo_ints (G := fun x => Int.fdiv x (mgcdAll 0 p))]
    · rw [h3]; rfl
    · intro x hx
      refine ⟨_, rfl, ?_⟩
      simp only [o2, ox_s, k_var, slV_v, t2, h4 x hx]
  · cases h2
    simp only [qS, th_n, th_r, qA, asgV_i, qR, o2, ox_s, kP, slP_v, kL, wGt, jT, jB, someB_eq, cond_false, k_ite, k_call, kC, kN, k_var, slV_v, cV_l, t1, fin_r, hc, h1]
theorem mlessened_len {p r : List Int} (h : mlessened p = some r) : r.length = p.length := by
  unfold mlessened at h
  rcases ble_bif h with ⟨_, h2⟩ | ⟨_, h2⟩
  · rw [(mdivd_some h2).1, List.length_map]
  · cases h2; rfl
theorem L_linear (x : Q) : n_linear_of [eQ x] = some (eP [ineg x.1, x.2]) := by
  unfold n_linear_of a1 h_linear_of
  simp only [qS, th_r, qR, ox_s, kP, slP_v, kL, jI, jT, kC, kN, cV_i, kI, iV_t, pidxF, k_neg, mkI_eq, List.getElem?_cons_zero, List.getElem?_cons_succ, fin_r, k_lst, fit, List.length_cons, List.length_nil, if_pos (show 0 + 1 + 1 ≤ LL by simp only [LL]; lia)]
  rw [ineg_eq]; rfl
set_option tactic.hygienic true in
theorem L_inside {x : Q} {iv : Iv} {b : Bool} (h : minside x iv = some b) : n_is_inside [eQ x, eV iv] = some (.bool b) := by
  unfold minside at h
  unfold n_is_inside a2 h_is_inside
  split at h
  · cases h
  rename_i c hc
  have h1 := L_rcompare hc
  rcases ble_bif h with ⟨h2, h3⟩ | ⟨h2, h3⟩
  · cases h3
    simp only [qS, th_r, qR, o2, ox_s, kP, slP_v, kL, wLe, jI, jT, jB, someB_eq, cond_false, k_call, kC, kN, k_var, slV_v, cV_t, kI, iV_t, pidxF, List.getElem?_cons_zero, List.getElem?_cons_succ, fin_r, k_and, h1, h2, Bool.not_true]
  · split at h3
    · cases h3
    rename_i d hd
    cases h3
    have h4 := L_rcompare hd
    simp only [qS, th_r, qR, o2, ox_s, kP, slP_v, kL, wLe, jI, jT, jB, someB_eq, cond_true, k_call, kC, kN, k_var, slV_v, cV_t, kI, iV_t, pidxF, List.getElem?_cons_zero, List.getElem?_cons_succ, fin_r, k_and, h1, h2, Bool.not_false, h4]
set_option tactic.hygienic true in
theorem L_halved {f : List Int} {iv r : Iv} (h : mhalved f iv = some r) : n_halved [eP f, eV iv] = some (eV r) := by
  unfold mhalved at h
  unfold n_halved a2 h_halved
  split at h
  · cases h
  rename_i x hx
  have h1 := L_middle hx
  split at h
  · cases h
  rename_i here hhe
  have h2 := L_vsign hhe
  rcases ble_bif h with ⟨h3, h4⟩ | ⟨h3, h4⟩
  · cases h4
    have e0 : eqB here 0 = true := by rw [eqB_eq, ← isZ_eq]; exact h3
    simp only [qS, th_n, th_r, qI, tst1, qK, qA, asgV_i, asgV_t, qR, o2, ox_s, kP, slP_v, kL, wEq, jT, someB_eq, k_call, kC, kN, k_var, slV_v, cV_t, cV_l, t2, t3, t4, t5, fin_r, q_unp, unp_t, nx_s, stc_s, stn_n, List.map_cons, List.map_nil, h1, h2, e0]
  · have e0 : eqB here 0 = false := by rw [eqB_eq, ← isZ_eq]; exact h3
    split at h4
    · cases h4
    rename_i s hs'
    have h5 := L_vsign hs'
    rcases ble_bif h4 with ⟨h6, h7⟩ | ⟨h6, h7⟩
    · cases h7
      simp only [qS, th_n, th_r, qI, tst0, qK, qA, asgV_i, asgV_t, qR, o2, ox_s, kP, slP_v, kL, wEq, jT, jB, someB_eq, cond_true, k_ite, k_call, kC, kN, k_var, slV_v, cV_t, cV_l, t2, t3, t4, t5, fin_r, q_unp, unp_t, nx_s, stc_s, stn_n, List.map_cons, List.map_nil, h1, h2, e0, h5, h6]
    · cases h7
      simp only [qS, th_n, th_r, qI, tst0, qK, qA, asgV_i, asgV_t, qR, o2, ox_s, kP, slP_v, kL, wEq, jT, jB, someB_eq, cond_false, k_ite, k_call, kC, kN, k_var, slV_v, cV_t, cV_l, t2, t3, t4, t5, fin_r, q_unp, unp_t, nx_s, stc_s, stn_n, List.map_cons, List.map_nil, h1, h2, e0, h5, h6]
end Mine.Internal
namespace Mine.Internal
theorem fmK_some {α : Type} {a b : Int} {k : Int → Option α} {r : α} (h : fmK a b k = some r) : v_mod (.int a) (.int b) = some (.int (Int.fmod a b)) ∧ k (Int.fmod a b) = some r := by
  unfold fmK at h
  rcases ble_bif h with ⟨_, h2⟩ | ⟨h1, h2⟩
  · cases h2
  · rw [frc_eq] at h2
    refine ⟨?_, h2⟩
    show (bif isZ b then none else mkI (Int.fmod a b)) = _
    rw [h1, mkI_eq]; rfl
theorem setN_eq : ∀ (l : List Int) (n : Nat) (v : Int), setN l n v = l.set n v
  | [], _, _ => rfl
  | _ :: _, 0, _ => rfl
  | a :: r, n + 1, v => congrArg (fun l => a :: l) (setN_eq r n v)
theorem sub_nat {a b : Nat} (h : b ≤ a) : (a : Int) - (b : Int) = ((a - b : Nat) : Int) := by omega
theorem w_ge_nat (a b : Nat) : w_ge (.int a) (.int b) = some (.bool (!Nat.blt a b)) := by
  show someB (!ltB (a : Int) (b : Int)) = _
  rw [someB_eq, ltB_nat]
noncomputable def exC : K := o2 w_ge (k_len (kP R.s2)) (k_len (kP R.s1))
noncomputable def exB : S := (qS (qI (o2 w_ne (o2 v_mod (kI (kP R.s2) (k_neg (kL 1))) (kI (kP R.s1) (k_neg (kL 1)))) (kL 0)) (qS (qR k_non) qK) qK) (qS (qT (n_val (o2 v_fdiv (kI (kP R.s2) (k_neg (kL 1))) (kI (kP R.s1) (k_neg (kL 1)))) (n_val (o2 v_sub (k_len (kP R.s2)) (k_len (kP R.s1))) n_nil)) (st_c t4 (st_c t5 st_n))) (qS (q_seti R.s3 t3 (k_var R.s5) (k_var R.s4)) (qS (qA t2 (k_call n_zsub (kC (k_var R.s2) (kC (k_call n_zraise (kC (k_call n_zscale (kC (k_var R.s1) (kC (k_var R.s4) kN))) (kC (k_var R.s5) kN))) kN)))) qK))))
set_option tactic.hygienic true in
theorem ex_go (b : List Int) (hb : b ≠ []) (hb5 : b.length ≤ 200) : ∀ (n m : Nat) (rest found : List Int) (res : Option (List Int)) (r : R), exactGo b (mlead b) b.length n rest found = some res → n ≤ m →
    r.s1 = .val (eP b) → r.s2 = .val (eP rest) → r.s3 = .own (found.map PV.int) → rest.length ≤ 200 → (b.length ≤ rest.length → rest.length - b.length < found.length) → found.length ≤ 400 →
    (∃ r' rest' found', q_whl exC exB m r = some (.next, r') ∧ r'.s2 = .val (eP rest') ∧ r'.s3 = .own (List.map PV.int found') ∧ found'.length = found.length ∧ res = (match rest' with | [] => some (mztrim found') | _ => none)) ∨
      (∃ r', q_whl exC exB m r = some (.ret .none, r') ∧ res = none) := by
  intro n
  induction n with
  | zero => intro m rest found res r h; cases h
  | succ n ih =>
    intro m rest found res r h hm h1 h2 h3 hr hf hf4
    obtain ⟨m, rfl⟩ : ∃ k, m = k + 1 := ⟨m - 1, by lia⟩
    simp only [exactGo_e1, exactGo_e2] at h
    have hc : exC r = some (.bool (!Nat.blt rest.length b.length)) := by
      unfold exC
      simp only [o2, ox_s, k_len, kP, slP_v, h1, h2, jL, mkI_eq, List.length_map, w_ge_nat]
    rcases ble_bif h with ⟨e1, h4⟩ | ⟨e1, h4⟩
    · cases h4
      refine .inl ⟨r, rest, found, ?_, h2, h3, rfl, rfl⟩
      simp only [q_whl_e1, q_whl_e2, hc, e1, Bool.not_true, tst0]
    · have hle : b.length ≤ rest.length := by
        refine Nat.not_lt.mp fun h => ?_
        rw [show Nat.blt rest.length b.length = true from Nat.ble_eq_true_of_le h] at e1; cases e1
      have hbl : 0 < b.length := List.length_pos_iff.mpr hb
      have hrne : rest ≠ [] := List.length_pos_iff.mp (by lia)
      obtain ⟨d1, h5⟩ := fmK_some h4
      have p1 := pidxF_last hrne
      have p2 := pidxF_last hb
      rcases ble_bif h5 with ⟨e2, h6⟩ | ⟨e2, h6⟩
      · obtain ⟨d2, h7⟩ := fdK_some h6
        split at h7
        · rename_i sb hsb
          have ez : eqB (Int.fmod (mlead rest) (mlead b)) 0 = true := by rw [eqB_eq, ← isZ_eq]; exact e2
          have lsb : sb.length ≤ b.length := mzscale_len hsb
          have hlt := hf hle
          have c1 := L_zscale (by lia) hsb
          have lr := mzraise_len sb (rest.length - b.length)
          have c2 := L_zraise (p := sb) (n := rest.length - b.length) (by lia)
          have c3 := L_zsub (a := rest) (b := mzraise sb (rest.length - b.length)) (by lia) (by lia)
          have ln := mzsub_len rest (mzraise sb (rest.length - b.length))
          rw [setN_eq] at h7
          have hset : (found.map PV.int).set (rest.length - b.length) (.int (Int.fdiv (mlead rest) (mlead b))) = (found.set (rest.length - b.length) (Int.fdiv (mlead rest) (mlead b))).map PV.int := by rw [List.map_set]
          have hblt : Nat.blt (rest.length - b.length) (found.map PV.int).length = true := Nat.ble_eq_true_of_le (by rw [List.length_map]; exact hlt)
          have body : exB r = some (.next, t2 (t3 (t5 (t4 r (.val (.int (Int.fdiv (mlead rest) (mlead b))))) (.val (.int ((rest.length - b.length : Nat) : Int)))) (.own ((found.set (rest.length - b.length) (Int.fdiv (mlead rest) (mlead b))).map PV.int))) (.val (eP (mzsub rest (mzraise sb (rest.length - b.length)))))) := by
            unfold exB
            simp only [qS, th_n, qI, tst0, qK, o2, ox_s, kI, kP, slP_v, h1, h2, h3, k_neg, kL, jI, mkI_eq, iV_l, p1, p2, d1, wNe, ez, someB_eq, Bool.not_true, qT, aTV_s, n_val, n_nil, d2, k_len, jL, List.length_map, v_sub_int, sub_nat hle, stc_s, stn_n, nx_s, t4, t5]
            have hs5 : setV t3 (⟨r.s0, r.s1, r.s2, r.s3, .val (.int (Int.fdiv (mlead rest) (mlead b))), .val (.int ((rest.length - b.length : Nat) : Int)), r.s6, r.s7, r.s8, r.s9⟩ : R) (found.map PV.int) (.int (Int.fdiv (mlead rest) (mlead b))) ((rest.length - b.length : Nat) : Int) =
                some (.next, t3 (⟨r.s0, r.s1, r.s2, r.s3, .val (.int (Int.fdiv (mlead rest) (mlead b))), .val (.int ((rest.length - b.length : Nat) : Int)), r.s6, r.s7, r.s8, r.s9⟩ : R) (.own ((found.set (rest.length - b.length) (Int.fdiv (mlead rest) (mlead b))).map PV.int))) := by
              show (bif PV.ok _ && Nat.blt (rest.length - b.length) (found.map PV.int).length then _ else _) = _
              rw [hblt, hset]; rfl
            simp only [h1, h2, h3] at hs5 ⊢
            simp only [q_seti, k_var, slV_v, hs5, t3, qA, asgV_l, k_call, kC, kN, ox_s, jT, cV_i, cV_l, c1, c2, c3, t2, th_n, qS, qK]
          rcases ih m _ _ res (t2 (t3 (t5 (t4 r (.val (.int (Int.fdiv (mlead rest) (mlead b))))) (.val (.int ((rest.length - b.length : Nat) : Int)))) (.own ((found.set (rest.length - b.length) (Int.fdiv (mlead rest) (mlead b))).map PV.int))) (.val (eP (mzsub rest (mzraise sb (rest.length - b.length)))))) h7 (by lia) h1 rfl rfl (by lia) (by intro hx; rw [List.length_set]; lia) (by rw [List.length_set]; exact hf4) with ⟨r', rest', found', q1, q2, q3, q4, q5⟩ | ⟨r', q1, q2⟩
          · refine .inl ⟨r', rest', found', ?_, q2, q3, by rw [q4, List.length_set], q5⟩
            simp only [q_whl_e1, q_whl_e2, hc, e1, Bool.not_false, tst1, body, th_n]
            exact q1
          · refine .inr ⟨r', ?_, q2⟩
            simp only [q_whl_e1, q_whl_e2, hc, e1, Bool.not_false, tst1, body, th_n]
            exact q1
        · cases h7
      · cases h6
        refine .inr ⟨r, ?_, rfl⟩
        have ez : eqB (Int.fmod (mlead rest) (mlead b)) 0 = false := by rw [eqB_eq, ← isZ_eq]; exact e2
        simp only [q_whl_e1, q_whl_e2, hc, e1, Bool.not_false, tst1, exB, qS, th_r, qI, o2, ox_s, kI, kP, slP_v, h1, h2, k_neg, kL, jI, mkI_eq, iV_l, p1, p2, d1, wNe, ez, someB_eq, qR, k_non, qK]
end Mine.Internal
namespace Mine.Internal
theorem blt_false {a b : Nat} (h : Nat.blt a b = false) : b ≤ a := Nat.not_lt.mp fun h' => by rw [show Nat.blt a b = true from Nat.ble_eq_true_of_le h'] at h; cases h
theorem max_0 (a b : Nat) : max2V (.int 0) (.int ((a : Int) - (b : Int) + 1)) = some (.int ((a + 1 - b : Nat) : Int)) := by
  show (bif ltB 0 ((a : Int) - (b : Int) + 1) then some (PV.int ((a : Int) - (b : Int) + 1)) else some (.int 0)) = _
  rw [ltB_eq]
  by_cases h : (0 : Int) < (a : Int) - (b : Int) + 1
  · rw [decide_eq_true h]
    simp only [cond_true]
    congr 2; omega
  · rw [decide_eq_false h]
    simp only [cond_false]
    congr 2; omega
theorem mul_rep {n : Nat} (h : n ≤ 500) : v_mul (.lst [.int 0]) (.int ((n : Nat) : Int)) = some (.lst ((List.replicate n (0 : Int)).map PV.int)) := by
  show (bif isN ((n : Nat) : Int) then none else fit (List.replicate (n : Int).toNat (PV.int 0))) = _
  rw [show isN ((n : Nat) : Int) = false from rfl]
  show fit (List.replicate n (PV.int 0)) = _
  rw [List.map_replicate]
  exact if_pos (by simp only [List.length_replicate, LL]; lia)
noncomputable def eO : Option (List Int) → PV
  | some q => eP q
  | none => .none
theorem L_zexact {a b : List Int} {res : Option (List Int)} (ha : a.length ≤ 200) (hb5 : b.length ≤ 200) (h : mexact a b = some res) : n_zexact [eP a, eP b] = some (eO res) ∧ ∀ q, res = some q → q.length ≤ a.length := by
  have hb : b ≠ [] := by rintro rfl; cases h
  have h' : exactGo b (mlead b) b.length 20 a (zeros (a.length + 1 - b.length) []) = some res := by
    cases b with
    | nil => exact absurd rfl hb
    | cons x b => exact h
  rw [zeros_eq, List.append_nil] at h'
  unfold n_zexact a2 h_zexact
  have f1 : fit [PV.int 0] = some (.lst [.int 0]) := rfl
  have r0 := ex_go b hb hb5 20 1000 a (List.replicate (a.length + 1 - b.length) 0) res ⟨.val (eP a), .val (eP b), .val (eP a), .own ((List.replicate (a.length + 1 - b.length) (0 : Int)).map PV.int), .un, .un, .un, .un, .un, .un⟩ h' (by decide) rfl rfl rfl ha (by intro hx; rw [List.length_replicate]; omega) (by rw [List.length_replicate]; omega)
  unfold exC exB at r0
  simp only [qS, th_n, o2, ox_s, kP, slP_v, kL, jT, k_call, kC, kN, k_var, slV_v, cV_i, cV_l, mkI_eq, t2, t3, q_exp, L_check hb, qT, aTV_s, n_val, n_own, n_nil, k_list, jL, k_lst, f1, k_len, List.length_map, v_sub_int, v_add_int, max_0, mul_rep (show a.length + 1 - b.length ≤ 500 by omega), stc_s, stn_n, nx_s]
  have hbl : 0 < b.length := List.length_pos_iff.mpr hb
  rcases r0 with ⟨r', rest', found', q1, q2, q3, q4, q5⟩ | ⟨r', q1, q2⟩
  · rw [List.length_replicate] at q4
    refine ⟨?_, fun q hq => ?_⟩
    rotate_left
    · rw [q5] at hq
      cases rest' with
      | nil => cases hq; exact Nat.le_trans (mztrim_len _) (by omega)
      | cons x l => cases hq
    rw [q1]
    cases rest' with
    | nil =>
      have e0 : eqB ((0 : Nat) : Int) 0 = true := rfl
      simp only [qS, th_n, th_r, qR, o2, ox_s, kP, slP_v, kL, wEq, jT, jB, someB_eq, cond_true, k_ite, k_call, kC, kN, k_var, slV_v, cV_l, mkI_eq, t3, fin_r, q_frz, fz, q3, q2, k_len, jL, List.map_nil, List.length_nil, e0, L_ztrim (show found'.length ≤ 500 by omega)]
      rw [q5]; rfl
    | cons x l =>
      have e0 : eqB (((List.map PV.int (x :: l)).length : Nat) : Int) 0 = false := by rw [eqB_eq]; exact decide_eq_false (by simp only [List.length_map, List.length_cons]; omega)
      simp only [qS, th_n, th_r, qR, o2, ox_s, kP, slP_v, kL, wEq, jT, jB, someB_eq, cond_false, k_ite, k_call, kC, kN, k_var, slV_v, cV_l, mkI_eq, t3, fin_r, q_frz, fz, q3, q2, k_len, jL, e0, k_non]
      rw [q5]; rfl
  · refine ⟨?_, fun q hq => by rw [q2] at hq; cases hq⟩
    rw [q1, q2]
    simp only [th_r, fin_r]
    rfl
noncomputable def psC : K := o2 w_ge (k_len (kP R.s3)) (k_len (kP R.s1))
noncomputable def psB : S := (qS (qT (n_val (kI (kP R.s3) (k_neg (kL 1))) (n_val (o2 v_sub (k_len (kP R.s3)) (k_len (kP R.s1))) n_nil)) (st_c t7 (st_c t8 st_n))) (qS (qA t4 (k_call n_zsub (kC (k_call n_zscale (kC (k_var R.s4) (kC (k_var R.s6) kN))) (kC (k_call n_zraise (kC (k_lst (kC (k_neg (k_var R.s7)) kN)) (kC (k_var R.s8) kN))) kN)))) (qS (qA t3 (k_call n_zsub (kC (k_call n_zscale (kC (k_var R.s3) (kC (k_var R.s6) kN))) (kC (k_call n_zraise (kC (k_call n_zscale (kC (k_var R.s1) (kC (k_var R.s7) kN))) (kC (k_var R.s8) kN))) kN)))) (qS (q_aug R.s5 t5 v_sub (kL 1)) qK))))
set_option tactic.hygienic true in
theorem ps_go (b : List Int) (hb : b ≠ []) (hb5 : b.length ≤ 200) (first : Int) : ∀ (n m : Nat) (rest found : List Int) (left : Int) (res : List Int × List Int × Int) (r : R), pseudoGo b first b.length n rest found left = some res → n ≤ m →
    r.s1 = .val (eP b) → r.s3 = .val (eP rest) → r.s4 = .val (eP found) → r.s5 = .val (.int left) → r.s6 = .val (.int first) → rest.length ≤ 200 → found.length ≤ 200 →
    ∃ r', q_whl psC psB m r = some (.next, r') ∧ r'.s2 = r.s2 ∧ r'.s3 = .val (eP res.2.1) ∧ r'.s4 = .val (eP res.1) ∧ r'.s5 = .val (.int res.2.2) ∧ r'.s6 = .val (.int first) ∧ res.1.length ≤ 200 ∧ res.2.1.length ≤ rest.length ∧ res.2.1.length < b.length := by
  intro n
  induction n with
  | zero => intro m rest found left res r h; cases h
  | succ n ih =>
    intro m rest found left res r h hm h1 h3 h4 h5 h6 hr hf
    obtain ⟨m, rfl⟩ : ∃ k, m = k + 1 := ⟨m - 1, by lia⟩
    simp only [pseudoGo_e1, pseudoGo_e2] at h
    have hc : psC r = some (.bool (!Nat.blt rest.length b.length)) := by
      unfold psC
      simp only [o2, ox_s, k_len, kP, slP_v, h1, h3, jL, mkI_eq, List.length_map, w_ge_nat]
    rcases ble_bif h with ⟨e1, h7⟩ | ⟨e1, h7⟩
    · cases h7
      exact ⟨r, by simp only [q_whl_e1, q_whl_e2, hc, e1, Bool.not_true, tst0], rfl, h3, h4, h5, h6, hf, Nat.le_refl _, Nat.le_of_ble_eq_true e1⟩
    · have hle := blt_false e1
      have hbl : 0 < b.length := List.length_pos_iff.mpr hb
      have hrne : rest ≠ [] := List.length_pos_iff.mp (by lia)
      have p1 := pidxF_last hrne
      split at h7
      · cases h7
      rename_i f1 hf1
      split at h7
      · cases h7
      rename_i r1 hr1
      split at h7
      · cases h7
      rename_i s1 hs1
      have c1 := L_zscale (by lia) hf1
      have c2 := L_zscale (by lia) hr1
      have c3 := L_zscale (by lia) hs1
      have l1 := mzscale_len hf1
      have l2 := mzscale_len hr1
      have l3 := mzscale_len hs1
      have d1 := L_zraise (p := [ineg (mlead rest)]) (n := rest.length - b.length) (by simp only [List.length_cons, List.length_nil]; lia)
      have d2 := L_zraise (p := s1) (n := rest.length - b.length) (by lia)
      have k1 := mzraise_len [ineg (mlead rest)] (rest.length - b.length)
      have k2 := mzraise_len s1 (rest.length - b.length)
      simp only [List.length_cons, List.length_nil] at k1
      have g1' := L_zsub (a := f1) (b := mzraise [ineg (mlead rest)] (rest.length - b.length)) (by lia) (by lia)
      have g2' := L_zsub (a := r1) (b := mzraise s1 (rest.length - b.length)) (by lia) (by lia)
      have n1 := mzsub_len f1 (mzraise [ineg (mlead rest)] (rest.length - b.length))
      have n2 := mzsub_len r1 (mzraise s1 (rest.length - b.length))
      rw [isub_eq] at h7
      have fit1 : fit [PV.int (-(mlead rest))] = some (eP [ineg (mlead rest)]) := by rw [ineg_eq]; rfl
      have body : psB r = some (.next, t5 (t3 (t4 (t8 (t7 r (.val (.int (mlead rest)))) (.val (.int ((rest.length - b.length : Nat) : Int)))) (.val (eP (mzsub f1 (mzraise [ineg (mlead rest)] (rest.length - b.length)))))) (.val (eP (mzsub r1 (mzraise s1 (rest.length - b.length)))))) (.val (.int (left - 1)))) := by
        unfold psB
        simp only [qS, th_n, qK, o2, ox_s, kI, kP, slP_v, h1, h3, h4, h5, h6, k_neg, kL, jI, mkI_eq, iV_l, p1, qT, aTV_s, n_val, n_nil, k_len, jL, List.length_map, v_sub_int, sub_nat hle, stc_s, stn_n, nx_s, t7, t8, qA, asgV_l, k_call, kC, kN, k_var, slV_v, jT, cV_i, cV_l, c1, c2, c3, k_lst, fit1, d1, d2, g1', g2', t4, t3, q_aug, t5]
      obtain ⟨r', q1, q2, q3, q4, q5, q6, q7, q8, q9⟩ := ih m _ _ _ res (t5 (t3 (t4 (t8 (t7 r (.val (.int (mlead rest)))) (.val (.int ((rest.length - b.length : Nat) : Int)))) (.val (eP (mzsub f1 (mzraise [ineg (mlead rest)] (rest.length - b.length)))))) (.val (eP (mzsub r1 (mzraise s1 (rest.length - b.length)))))) (.val (.int (left - 1)))) h7 (by lia) h1 rfl rfl rfl h6 (by lia) (by lia)
      refine ⟨r', ?_, q2, q3, q4, q5, q6, q7, by lia, q9⟩
      simp only [q_whl_e1, q_whl_e2, hc, e1, Bool.not_false, tst1, body, th_n]
      exact q1
end Mine.Internal
namespace Mine.Internal
set_option tactic.hygienic true in
theorem powK_some {α : Type} {a b : Int} {k : Int → Option α} {r : α} (h : powK a b k = some r) : ∃ i, v_pow (.int a) (.int b) = some (.int i) ∧ k i = some r := by
  unfold powK at h
  split at h
  · rename_i i hi
    refine ⟨i, ?_, h⟩
    show (match pow? a b with | some i => mkI i | none => none) = _
    rw [hi]; exact mkI_eq i
  · cases h
set_option tactic.hygienic true in
theorem mpseudo_some {a b : List Int} {f r : List Int} {many : Nat} (h : mpseudo a b = some (f, r, many)) : b ≠ [] ∧ many = a.length + 1 - b.length ∧ ∃ found rest left more, pseudoGo b (mlead b) b.length 20 a [] (many : Nat) = some (found, rest, left) ∧ v_pow (.int (mlead b)) (.int left) = some (.int more) ∧ mzscale found more = some f ∧ mzscale rest more = some r := by
  cases b with
  | nil => cases h
  | cons x b =>
    simp only [mpseudo] at h
    split at h
    · cases h
    rename_i found rest left hg
    obtain ⟨more, d, h⟩ := powK_some h
    split at h
    · cases h
    rename_i f' hf
    split at h
    · cases h
    rename_i r' hr
    cases h
    exact ⟨by simp, rfl, found, rest, left, more, hg, d, hf, hr⟩
theorem L_pseudo {a b : List Int} {f r : List Int} {many : Nat} (ha : a.length ≤ 200) (hb5 : b.length ≤ 200) (h : mpseudo a b = some (f, r, many)) :
    n_pseudo [eP a, eP b] = some (.tup [eP f, eP r, .int ((many : Nat) : Int)]) ∧ r.length < b.length ∧ r.length ≤ a.length ∧ f.length ≤ 200 := by
  obtain ⟨hb, rfl, found, rest, left, more, hg, d, hf, hr⟩ := mpseudo_some h
  obtain ⟨r', q1, q2, q3, q4, q5, q6, q7, q8, q9⟩ := ps_go b hb hb5 (mlead b) 20 1000 a [] _ _ ⟨.val (eP a), .val (eP b), .val (.int ((a.length + 1 - b.length : Nat) : Int)), .val (eP a), .val (eP []), .val (.int ((a.length + 1 - b.length : Nat) : Int)), .val (.int (mlead b)), .un, .un, .un⟩ hg (by decide) rfl rfl rfl rfl rfl ha (Nat.zero_le _)
  simp only at q2 q3 q4 q5 q7 q8 q9
  have l1 := mzscale_len hf
  have l2 := mzscale_len hr
  have c1 := L_zscale (by lia) hf
  have c2 := L_zscale (by lia) hr
  refine ⟨?_, by lia, by lia, by lia⟩
  unfold n_pseudo a2 h_pseudo
  have f0 : fit [] = some (eP []) := rfl
  unfold psC psB at q1
  simp only [qS, th_n, qA, asgV_i, o2, ox_s, kP, slP_v, kL, jT, k_call, kC, kN, k_var, slV_v, cV_l, mkI_eq, t2, t3, t4, t5, t6, q_exp, L_check hb, k_len, jL, List.length_map, v_sub_int, v_add_int, max_0, qT, aTV_s, n_val, n_nil, k_list, k_lst, f0, L_zlead, stc_s, stn_n, nx_s]
  rw [q1]
  simp only [qS, th_n, th_r, qA, asgV_i, qR, o2, ox_s, jT, k_call, kC, kN, k_var, slV_v, cV_i, cV_l, t9, fin_r, q2, q3, q4, q5, q6, d, c1, c2]
theorem L_zpseudo_rest {a b : List Int} {f r : List Int} {many : Nat} (ha : a.length ≤ 200) (hb5 : b.length ≤ 200) (h : mpseudo a b = some (f, r, many)) : n_zpseudo_rest [eP a, eP b] = some (eP r) := by
  have h1 := (L_pseudo ha hb5 h).1
  unfold n_zpseudo_rest a2 h_zpseudo_rest
  simp only [qS, th_r, qR, ox_s, kL, jI, jT, k_call, kC, kN, k_var, slV_v, cV_l, kI, iV_t, pidxF, List.getElem?_cons_zero, List.getElem?_cons_succ, fin_r, h1]
theorem L_next_height {front height : Int} {step : Nat} {r : Int} (h : mnexth front step height = some r) : n_next_height [.int front, .int ((step : Nat) : Int), .int height] = some (.int r) := by
  unfold n_next_height a3 h_next_height
  cases step with
  | zero =>
    cases h
    have e0 : eqB ((0 : Nat) : Int) 0 = true := rfl
    simp only [qS, th_r, qI, tst1, qK, qR, o2, ox_s, kP, slP_v, kL, wEq, someB_eq, k_var, slV_v, fin_r, e0]
  | succ step =>
    simp only [mnexth] at h
    obtain ⟨x, d1, h⟩ := powK_some h
    obtain ⟨y, d2, h⟩ := powK_some h
    obtain ⟨d3, h⟩ := fdK_some h
    cases h
    have e0 : eqB ((step + 1 : Nat) : Int) 0 = false := by rw [eqB_eq]; exact decide_eq_false (by lia)
    have e1 : ((step + 1 : Nat) : Int) - 1 = (step : Int) := by lia
    simp only [qS, th_n, th_r, qI, tst0, qK, qR, o2, ox_s, kP, slP_v, kL, wEq, someB_eq, k_var, slV_v, fin_r, e0, d1, v_sub_int, e1, d2, d3]
noncomputable def srC : K := o2 w_gt (k_len (kP R.s1)) (kL 1)
noncomputable def srB : S := (qS (qA t5 (o2 v_sub (k_len (kP R.s0)) (k_len (kP R.s1)))) (qS (qA t6 (k_call n_zpseudo_rest (kC (k_var R.s0) (kC (k_var R.s1) kN)))) (qS (qI (o2 w_eq (k_len (kP R.s6)) (kL 0)) (qS (q_frz R.s2 t2 (qR (k_var R.s2))) qK) qK) (qS (qT (n_val (k_var R.s1) (n_val (k_call n_zdivided (kC (k_var R.s6) (kC (o2 v_mul (k_var R.s3) (o2 v_pow (k_var R.s4) (k_var R.s5))) kN))) n_nil)) (st_c t0 (st_c t1 st_n))) (qS (q_app R.s2 t2 (k_var R.s1)) (qS (qA t3 (k_call n_zlead (kC (k_var R.s0) kN))) (qS (qA t4 (k_call n_next_height (kC (k_var R.s3) (kC (k_var R.s5) (kC (k_var R.s4) kN))))) qK)))))))
set_option tactic.hygienic true in
theorem sr_go : ∀ (n m : Nat) (a b : List Int) (front height : Int) (row res : List (List Int)) (r : R), subresGo n a b front height row = some res → n ≤ m → b.length ≤ a.length → a.length ≤ 200 → row.length + n ≤ 400 →
    (∀ p ∈ row, p.length ≤ 200) → r.s0 = .val (eP a) → r.s1 = .val (eP b) → r.s2 = .own (row.map eP) → r.s3 = .val (.int front) → r.s4 = .val (.int height) →
    ((∃ r', q_whl srC srB m r = some (.next, r') ∧ r'.s2 = .own (res.map eP)) ∨ (∃ r', q_whl srC srB m r = some (.ret (.lst (res.map eP)), r'))) ∧ (∀ p ∈ res, p.length ≤ 200) := by
  intro n
  induction n with
  | zero => intro m a b front height row res r h; cases h
  | succ n ih =>
    intro m a b front height row res r h hm hab ha hrow hps h0 h1 h2 h3 h4
    obtain ⟨m, rfl⟩ : ∃ k, m = k + 1 := ⟨m - 1, by lia⟩
    have hc : srC r = some (.bool (ltB 1 ((b.length : Nat) : Int))) := by
      unfold srC
      simp only [o2, ox_s, k_len, kP, slP_v, h1, jL, mkI_eq, List.length_map, kL, wGt, someB_eq]
    have small : ∀ l : List Int, l.length ≤ 1 → ltB 1 ((l.length : Nat) : Int) = false := fun l hl => by rw [ltB_eq]; exact decide_eq_false (by lia)
    rcases b with _ | ⟨b0, _ | ⟨b1, b2⟩⟩
    · cases h
      exact ⟨.inl ⟨r, by simp only [q_whl_e1, q_whl_e2, hc, small [] (by simp), tst0], h2⟩, hps⟩
    · cases h
      exact ⟨.inl ⟨r, by simp only [q_whl_e1, q_whl_e2, hc, small [b0] (by simp), tst0], h2⟩, hps⟩
    · generalize hbb : b0 :: b1 :: b2 = b at *
      have hb2 : 2 ≤ b.length := by rw [← hbb]; simp
      have hc1 : ltB 1 ((b.length : Nat) : Int) = true := by rw [ltB_eq]; exact decide_eq_true (by lia)
      have h' : (match mpseudo a b with
        | none => none
        | some (_, rest, _) => match rest with
          | [] => some row
          | rest => powK height (a.length - b.length : Nat) fun y => mulK front y fun d => match mdivd d rest with
            | none => none
            | some b' => match mnexth (mlead b) (a.length - b.length) height with
              | none => none
              | some h' => subresGo n b b' (mlead b) h' (row ++ [b'])) = some res := by rw [← hbb]; rw [← hbb] at h; exact h
      split at h'
      · cases h'
      rename_i f rest many hps'
      obtain ⟨_, l1, l2, _⟩ := L_pseudo ha (by lia) hps'
      have c1 := L_zpseudo_rest ha (by lia) hps'
      have hst : ∀ s, ((a.length : Nat) : Int) - ((b.length : Nat) : Int) = s ↔ ((a.length - b.length : Nat) : Int) = s := fun s => by rw [sub_nat hab]
      cases rest with
      | nil =>
        cases h'
        refine ⟨.inr ⟨t2 (t6 (t5 r (.val (.int ((a.length - b.length : Nat) : Int)))) (.val (eP []))) (.val (.lst (row.map eP))), ?_⟩, hps⟩
        have e0 : eqB ((0 : Nat) : Int) 0 = true := rfl
        simp only [q_whl_e1, q_whl_e2, hc, hc1, tst1, srB, qS]
        simp only [qS, th_n, th_r, qI, tst1, qK, qA, asgV_i, asgV_l, qR, o2, ox_s, kP, slP_v, kL, wEq, jT, someB_eq, k_call, kC, kN, k_var, slV_v, cV_l, mkI_eq, t2, t5, t6, k_len, h0, h1, h2, jL, List.length_map, v_sub_int, sub_nat hab, c1, List.map_nil, List.length_nil, e0, q_frz, fz]
        rfl
      | cons x rest =>
        obtain ⟨y, d1, h5⟩ := powK_some h'
        obtain ⟨d2, h6⟩ := mulK_some h5
        clear h5 h'
        split at h6
        · cases h6
        rename_i b' hb'
        split at h6
        · cases h6
        rename_i hh hnh
        generalize hrr : x :: rest = rr at *
        have hrr0 : rr ≠ [] := by rw [← hrr]; simp
        have c2 := L_zdivided (by lia) hb'
        have c3 := L_next_height hnh
        have lb' : b'.length = rr.length := by rw [(mdivd_some hb').1, List.length_map]
        have e0 : eqB ((rr.length : Nat) : Int) 0 = false := by rw [eqB_eq]; exact decide_eq_false (fun h => hrr0 (List.length_eq_zero_iff.mp (by lia)))
        have hrl : Nat.blt row.length LL = true := Nat.ble_eq_true_of_le (by simp only [LL]; lia)
        have body : srB r = some (.next, t4 (t3 (t2 (t1 (t0 (t6 (t5 r (.val (.int ((a.length - b.length : Nat) : Int)))) (.val (eP rr))) (.val (eP b))) (.val (eP b'))) (.own ((row ++ [b']).map eP))) (.val (.int (mlead b)))) (.val (.int hh))) := by
          unfold srB
          rw [List.map_append]
          simp only [qS, th_n, qI, tst0, qK, qA, asgV_i, asgV_l, o2, ox_s, kP, slP_v, kL, wEq, jT, someB_eq, cond_true, k_call, kC, kN, k_var, slV_v, cV_i, cV_l, mkI_eq, t0, t1, t2, t3, t4, t5, t6, k_len, h0, h1, h2, h3, h4, jL, v_sub_int, List.length_map, sub_nat hab, c1, e0, qT, aTV_s, n_val, n_nil, d1, d2, c2, stc_s, stn_n, nx_s, q_app, PV.ok, hrl, Bool.and_true, L_zlead, c3]
          rfl
        obtain ⟨r1, r2⟩ := ih m b b' (mlead b) hh (row ++ [b']) res (t4 (t3 (t2 (t1 (t0 (t6 (t5 r (.val (.int ((a.length - b.length : Nat) : Int)))) (.val (eP rr))) (.val (eP b))) (.val (eP b'))) (.own ((row ++ [b']).map eP))) (.val (.int (mlead b)))) (.val (.int hh))) h6 (by lia) (by lia) (by lia) (by simp only [List.length_append, List.length_singleton]; lia) (fun p hp => by
          rcases List.mem_append.mp hp with hp | hp
          · exact hps p hp
          · rw [List.mem_singleton.mp hp]; lia) rfl rfl rfl rfl rfl
        refine ⟨?_, r2⟩
        rcases r1 with ⟨r', q1, q2⟩ | ⟨r', q1⟩
        · refine .inl ⟨r', ?_, q2⟩
          simp only [q_whl_e1, q_whl_e2, hc, hc1, tst1, body, th_n]; exact q1
        · refine .inr ⟨r', ?_⟩
          simp only [q_whl_e1, q_whl_e2, hc, hc1, tst1, body, th_n]; exact q1
end Mine.Internal
namespace Mine.Internal
theorem subres_ne : ∀ (n : Nat) (a b : List Int) (f h : Int) (row res : List (List Int)), subresGo n a b f h row = some res → row ≠ [] → res ≠ []
  | 0, _, _, _, _, _, _, e, _ => by cases e
  | n + 1, a, b, f, h, row, res, e, hn => by
    rcases b with _ | ⟨b0, _ | ⟨b1, b2⟩⟩
    · cases e; exact hn
    · cases e; exact hn
    · simp only [subresGo_e1, subresGo_e2] at e
      split at e
      · cases e
      split at e
      · cases e; exact hn
      · obtain ⟨y, _, e⟩ := powK_some e
        obtain ⟨_, e⟩ := mulK_some e
        split at e
        · cases e
        split at e
        · cases e
        exact subres_ne n _ _ _ _ _ _ e (by simp)
theorem L_subres {a b : List Int} {row : List (List Int)} (ha : a.length ≤ 200) (hb : b.length ≤ 200) (h : msubres a b = some row) :
    n_subresultants [eP a, eP b] = some (.lst (row.map eP)) ∧ row ≠ [] ∧ ∀ p ∈ row, p.length ≤ 200 := by
  unfold msubres at h
  have f2 : ∀ x y : PV, fit [x, y] = some (.lst [x, y]) := fun x y => if_pos (by simp only [List.length_cons, List.length_nil, LL]; lia)
  rcases ble_bif h with ⟨h1, h2⟩ | ⟨h1, h2⟩
  · have hlt : a.length + 1 ≤ b.length := Nat.le_of_ble_eq_true h1
    obtain ⟨q, hl⟩ := sr_go 20 1000 b a 1 1 [b, a] row ⟨.val (eP b), .val (eP a), .own ([b, a].map eP), .val (.int 1), .val (.int 1), .un, .un, .un, .un, .un⟩ h2 (by decide) (by lia) hb (by simp) (by intro p hp; simp at hp; rcases hp with rfl | rfl <;> assumption) rfl rfl rfl rfl rfl
    refine ⟨?_, subres_ne _ _ _ _ _ _ _ h2 (by simp), hl⟩
    unfold n_subresultants a2 h_subresultants
    unfold srC srB at q
    have e0 : ltB (((List.map PV.int a).length : Nat) : Int) (((List.map PV.int b).length : Nat) : Int) = true := by rw [ltB_nat]; simpa using h1
    rcases q with ⟨r', q1, q2⟩ | ⟨r', q1⟩
    · simp only [qS, th_n, qI, tst1, qK, o2, ox_s, kP, slP_v, kL, wLt, jT, someB_eq, kC, kN, k_var, slV_v, cV_l, mkI_eq, t0, t1, t2, t3, t4, k_len, jL, e0, qT, aTV_s, n_val, n_own, n_nil, stc_s, stn_n, nx_s, k_lst, k_list, f2]
      simp only [List.map_cons, List.map_nil] at q1
      rw [q1]
      simp only [qS, th_n, th_r, qR, k_var, slV_v, t2, fin_r, q_frz, fz, q2]
    · simp only [qS, th_n, qI, tst1, qK, o2, ox_s, kP, slP_v, kL, wLt, jT, someB_eq, kC, kN, k_var, slV_v, cV_l, mkI_eq, t0, t1, t2, t3, t4, k_len, jL, e0, qT, aTV_s, n_val, n_own, n_nil, stc_s, stn_n, nx_s, k_lst, k_list, f2]
      simp only [List.map_cons, List.map_nil] at q1
      rw [q1]; rfl
  · have hle := blt_false h1
    obtain ⟨q, hl⟩ := sr_go 20 1000 a b 1 1 [a, b] row ⟨.val (eP a), .val (eP b), .own ([a, b].map eP), .val (.int 1), .val (.int 1), .un, .un, .un, .un, .un⟩ h2 (by decide) (by lia) ha (by simp) (by intro p hp; simp at hp; rcases hp with rfl | rfl <;> assumption) rfl rfl rfl rfl rfl
    refine ⟨?_, subres_ne _ _ _ _ _ _ _ h2 (by simp), hl⟩
    unfold n_subresultants a2 h_subresultants
    unfold srC srB at q
    have e0 : ltB (((List.map PV.int a).length : Nat) : Int) (((List.map PV.int b).length : Nat) : Int) = false := by rw [ltB_nat]; simpa using h1
    rcases q with ⟨r', q1, q2⟩ | ⟨r', q1⟩
    · simp only [qS, th_n, qI, tst0, qK, o2, ox_s, kP, slP_v, kL, wLt, jT, someB_eq, kC, kN, k_var, slV_v, cV_l, mkI_eq, t0, t1, t2, t3, t4, k_len, jL, e0, qT, aTV_s, n_val, n_own, n_nil, stc_s, stn_n, nx_s, k_lst, k_list, f2]
      simp only [List.map_cons, List.map_nil] at q1
      rw [q1]
      simp only [qS, th_n, th_r, qR, k_var, slV_v, t2, fin_r, q_frz, fz, q2]
    · simp only [qS, th_n, qI, tst0, qK, o2, ox_s, kP, slP_v, kL, wLt, jT, someB_eq, kC, kN, k_var, slV_v, cV_l, mkI_eq, t0, t1, t2, t3, t4, k_len, jL, e0, qT, aTV_s, n_val, n_own, n_nil, stc_s, stn_n, nx_s, k_lst, k_list, f2]
      simp only [List.map_cons, List.map_nil] at q1
      rw [q1]; rfl
theorem lastP_last : ∀ (l : List (List Int)), l ≠ [] → l[l.length - 1]? = some (lastP l)
  | [], h => absurd rfl h
  | [x], _ => rfl
  | x :: y :: r, _ => by
    have := lastP_last (y :: r) (by simp)
    simpa [lastP] using this
theorem pidxF_lastP {l : List (List Int)} (h : l ≠ []) : pidxF (l.map eP) (-1) = some (eP (lastP l)) := by
  show (bif Nat.blt 0 (l.map eP).length then (l.map eP)[(l.map eP).length - (0 + 1)]? else none) = _
  have hp : 0 < l.length := List.length_pos_iff.mpr h
  rw [show Nat.blt 0 (l.map eP).length = true from Nat.ble_eq_true_of_le (show 1 ≤ (l.map eP).length by rw [List.length_map]; exact hp)]
  simp only [cond_true, List.length_map, Nat.zero_add, List.getElem?_map, lastP_last l h]; rfl
theorem lastP_mem {l : List (List Int)} (h : l ≠ []) : lastP l ∈ l := List.mem_of_getElem? (lastP_last l h)
theorem len0 (l : List Int) : eqB ((l.length : Nat) : Int) 0 = l.isEmpty := by
  cases l with
  | nil => rfl
  | cons x l => rw [eqB_eq]; exact decide_eq_false (by simp only [List.length_cons]; lia)
set_option tactic.hygienic true in
theorem L_zgcd {a b r : List Int} (ha : a.length ≤ 200) (hb : b.length ≤ 200) (h : mzgcd a b = some r) : n_zgcd [eP a, eP b] = some (eP r) ∧ r.length ≤ 200 := by
  have one : ∀ (o r : List Int), o.length ≤ 200 → (match mprim o with | some p => mzscale p (mgcdAll 0 o) | none => none) = some r → ∃ p, n_zprimitive [eP o] = some (eP p) ∧ n_zscale [eP p, .int (mgcdAll 0 o)] = some (eP r) ∧ r.length ≤ 200 := fun o r ho h => by
    split at h
    · rename_i p hp
      have lp := mprim_len hp
      have lr := mzscale_len h
      exact ⟨p, L_zprimitive (by lia) hp, L_zscale (by lia) h, by lia⟩
    · cases h
  unfold n_zgcd a2 h_zgcd
  cases a with
  | nil =>
    obtain ⟨p, h1, h2, h3⟩ := one b r hb h
    refine ⟨?_, h3⟩
    have e0 : eqB ((0 : Nat) : Int) 0 = true := rfl
    simp only [qS, th_n, th_r, qI, tst1, qK, qA, asgV_l, qR, o2, ox_s, kP, slP_v, kL, wEq, jT, jB, someB_eq, cond_true, k_ite, k_call, kC, kN, k_var, slV_v, cV_i, cV_l, mkI_eq, t2, fin_r, k_or, k_len, jL, List.map_nil, List.length_nil, e0, L_zcontent, h1, h2]
  | cons x a =>
    cases b with
    | nil =>
      obtain ⟨p, h1, h2, h3⟩ := one (x :: a) r ha h
      refine ⟨?_, h3⟩
      generalize hxa : x :: a = aa at *
      have e0 : eqB ((0 : Nat) : Int) 0 = true := rfl
      have e1 : eqB ((aa.length : Nat) : Int) 0 = false := by rw [len0, ← hxa]; rfl
      simp only [qS, th_n, th_r, qI, tst1, qK, qA, asgV_l, qR, o2, ox_s, kP, slP_v, kL, wEq, jT, jB, someB_eq, cond_false, k_ite, k_call, kC, kN, k_var, slV_v, cV_i, cV_l, mkI_eq, t2, fin_r, k_or, k_len, jL, List.map_nil, List.length_nil, List.length_map, e0, e1, L_zcontent, h1, h2]
    | cons y b =>
      generalize hxa : x :: a = aa at *
      generalize hyb : y :: b = bb at *
      have e1 : eqB ((aa.length : Nat) : Int) 0 = false := by rw [len0, ← hxa]; rfl
      have e2 : eqB ((bb.length : Nat) : Int) 0 = false := by rw [len0, ← hyb]; rfl
      have h' : (match mprim aa with
        | none => none
        | some pa => match mprim bb with
          | none => none
          | some pb => match msubres pa pb with
            | none => none
            | some row => let number := mgcd (mgcdAll 0 aa) (mgcdAll 0 bb)
              match lastP row with
              | _ :: _ :: _ => (match mprim (lastP row) with | some p => mzscale p number | none => none)
              | _ => some [number]) = some r := by rw [← hxa, ← hyb]; rw [← hxa, ← hyb] at h; exact h
      clear h
      split at h'
      · cases h'
      rename_i pa hpa
      split at h'
      · cases h'
      rename_i pb hpb
      split at h'
      · cases h'
      rename_i row hrow
      have la := mprim_len hpa
      have lb := mprim_len hpb
      have c1 := L_zprimitive (by lia) hpa
      have c2 := L_zprimitive (by lia) hpb
      obtain ⟨c3, c4, c5⟩ := L_subres (by lia) (by lia) hrow
      have c6 := pidxF_lastP c4
      have c7 := c5 _ (lastP_mem c4)
      have f1 : fit [PV.int (mgcd (mgcdAll 0 aa) (mgcdAll 0 bb))] = some (eP [mgcd (mgcdAll 0 aa) (mgcdAll 0 bb)]) := rfl
      dsimp only at h'
      split at h'
      · rename_i z0 z1 z2 hz
        split at h'
        · rename_i p hp
          have lp := mprim_len hp
          have lr := mzscale_len h'
          refine ⟨?_, by lia⟩
          have d1 := L_zprimitive (by lia) hp
          have d2 := L_zscale (by lia) h'
          have e3 : ltB 1 (((lastP row).length : Nat) : Int) = true := by rw [ltB_eq, hz]; exact decide_eq_true (by simp only [List.length_cons]; lia)
          simp only [qS, th_n, th_r, qI, tst0, qK, qA, asgV_i, asgV_l, qR, o2, ox_s, kP, slP_v, kL, wEq, wGt, jI, jT, jB, someB_eq, cond_true, k_ite, k_call, kC, kN, k_var, slV_v, cV_i, cV_l, kI, iV_l, k_neg, mkI_eq, t3, t4, fin_r, 
            k_or, k_len, jL, List.length_map, e1, e2, cond_false, L_zcontent, gcd_some, c1, c2, c3, c6, e3, d1, d2]
        · cases h'
      · rename_i hz
        cases h'
        refine ⟨?_, by simp⟩
        have e3 : ltB 1 (((lastP row).length : Nat) : Int) = false := by
          rw [ltB_eq]; refine decide_eq_false fun hlt => ?_
          cases hq : lastP row with
          | nil => rw [hq] at hlt; simp at hlt
          | cons u l => cases l with
            | nil => rw [hq] at hlt; simp at hlt
            | cons v l => exact hz _ _ _ hq
        simp only [qS, th_n, th_r, qI, tst0, qK, qA, asgV_i, asgV_l, qR, o2, ox_s, kP, slP_v, kL, wEq, wGt, jI, jT, jB, someB_eq, k_ite, k_call, kC, kN, k_var, slV_v, cV_i, cV_l, kI, iV_l, k_neg, mkI_eq, t3, t4, fin_r, 
          k_or, k_len, jL, List.length_map, e1, e2, cond_false, L_zcontent, gcd_some, c1, c2, c3, c6, e3, k_lst, f1]
end Mine.Internal
namespace Mine.Internal
set_option tactic.hygienic true in
theorem L_simple {f r : List Int} (hf : f.length ≤ 200) (h : msimple f = some r) : n_simple_part [eP f] = some (eP r) ∧ r.length ≤ 200 := by
  unfold msimple at h
  split at h
  · cases h
  rename_i d hd
  split at h
  · cases h
  rename_i c hc
  have ld := mderive_len hd
  have c1 := L_zderive (by lia) hd
  obtain ⟨c2, c3⟩ := L_zgcd hf (by lia) hc
  unfold n_simple_part a1 h_simple_part
  split at h
  · rename_i x y l
    split at h
    · rename_i q hq
      cases h
      obtain ⟨c4, c5⟩ := L_zexact hf c3 hq
      have e0 : ltB 0 (((x :: y :: l).length : Nat) - 1 : Int) = true := by rw [ltB_eq]; exact decide_eq_true (by simp only [List.length_cons]; lia)
      refine ⟨?_, Nat.le_trans (c5 _ rfl) hf⟩
      simp only [qS, th_n, th_r, qA, asgV_l, qR, o2, ox_s, kL, wGt, jT, jB, someB_eq, cond_true, k_ite, k_call, kC, kN, k_var, slV_v, cV_l, t1, fin_r, c1, c2, L_zdegree, e0, c4, eO]
    · cases h
  · rename_i hz
    cases h
    have e0 : ltB 0 ((c.length : Nat) - 1 : Int) = false := by
      rw [ltB_eq]; refine decide_eq_false fun hlt => ?_
      rcases c with _ | ⟨x, _ | ⟨y, l⟩⟩
      · simp at hlt
      · simp at hlt
      · exact hz _ _ _ rfl
    refine ⟨?_, hf⟩
    simp only [qS, th_n, th_r, qA, asgV_l, qR, o2, ox_s, kL, wGt, jT, jB, someB_eq, cond_false, k_ite, k_call, kC, kN, k_var, slV_v, cV_l, t1, fin_r, c1, c2, L_zdegree, e0]
set_option tactic.hygienic true in
theorem L_nextrow {a b r : List Int} (ha : a.length ≤ 200) (hb : b.length ≤ 200) (h : mnextrow a b = some r) : n_next_of_row [eP a, eP b] = some (eP r) ∧ r.length < b.length := by
  unfold mnextrow at h
  split at h
  · cases h
  rename_i f rest power hp
  obtain ⟨c1, c2, c3, _⟩ := L_pseudo ha hb hp
  unfold n_next_of_row a2 h_next_of_row
  have hm : v_mod (.int ((power : Nat) : Int)) (.int 2) = some (.int ((power % 2 : Nat) : Int)) := by
    show (bif isZ 2 then none else mkI (Int.fmod (power : Int) 2)) = _
    rw [mkI_eq, show isZ (2 : Int) = false from rfl]
    simp only [cond_false]
    congr 2
    rw [Int.fmod_eq_emod_of_nonneg _ (by decide)]; lia
  have he : eqB ((power % 2 : Nat) : Int) 1 = Nat.beq (power % 2) 1 := by
    rw [eqB_eq]
    have : power % 2 = 0 ∨ power % 2 = 1 := by lia
    rcases this with h | h <;> rw [h] <;> rfl
  have hlt : ltB (mlead b) 0 = isN (mlead b) := by rw [ltB_eq, isN_eq]
  rcases ble_bif h with ⟨h1, h2⟩ | ⟨h1, h2⟩
  · rw [Bool.and_eq_true] at h1
    have d1 := L_lessened (by lia) h2
    have l1 := mlessened_len h2
    refine ⟨?_, by lia⟩
    simp only [qS, th_n, th_r, qI, tst1, qK, qR, o2, ox_s, kL, wEq, wLt, jT, jB, someB_eq, cond_true, k_call, kC, kN, k_var, slV_v, cV_l, t2, t3, t4, fin_r, q_unp, unp_t, nx_s, stc_s, stn_n, List.map_cons, List.map_nil, c1, k_and, hm, he, h1.1, L_zlead, hlt, h1.2, d1]
  · have l0 := mzneg_len rest
    have d0 := L_zneg (p := rest) (by lia)
    have d1 := L_lessened (by lia) h2
    have l1 := mlessened_len h2
    refine ⟨?_, by lia⟩
    cases hA : Nat.beq (power % 2) 1 with
    | false => simp only [qS, th_n, th_r, qI, tst0, qK, qR, o2, ox_s, kL, wEq, jT, jB, someB_eq, cond_false, k_call, kC, kN, k_var, slV_v, cV_l, t2, t3, t4, fin_r, q_unp, unp_t, nx_s, stc_s, stn_n, List.map_cons, List.map_nil, c1, k_and, hm, he, hA, d0, d1]
    | true =>
      rw [hA, Bool.true_and] at h1
      simp only [qS, th_n, th_r, qI, tst0, qK, qR, o2, ox_s, kL, wEq, wLt, jT, jB, someB_eq, cond_true, k_call, kC, kN, k_var, slV_v, cV_l, t2, t3, t4, fin_r, q_unp, unp_t, nx_s, stc_s, stn_n, List.map_cons, List.map_nil, c1, k_and, hm, he, hA, L_zlead, hlt, h1, d0, d1]
end Mine.Internal
namespace Mine.Internal
theorem pidxF_app2 (l : List (List Int)) (p q : List Int) : pidxF ((l ++ [p, q]).map eP) (-2) = some (eP p) ∧ pidxF ((l ++ [p, q]).map eP) (-1) = some (eP q) := by
  constructor
  · show (bif Nat.blt 1 ((l ++ [p, q]).map eP).length then ((l ++ [p, q]).map eP)[((l ++ [p, q]).map eP).length - (1 + 1)]? else none) = _
    rw [show Nat.blt 1 ((l ++ [p, q]).map eP).length = true from Nat.ble_eq_true_of_le (by simp)]
    simp
  · show (bif Nat.blt 0 ((l ++ [p, q]).map eP).length then ((l ++ [p, q]).map eP)[((l ++ [p, q]).map eP).length - (0 + 1)]? else none) = _
    rw [show Nat.blt 0 ((l ++ [p, q]).map eP).length = true from Nat.ble_eq_true_of_le (by simp)]
    simp
noncomputable def stC : K := o2 w_ne (kP R.s2) (k_lst kN)
noncomputable def stB : S := (qS (q_app R.s1 t1 (k_var R.s2)) (qS (qA t2 (k_call n_next_of_row (kC (kI (kP R.s1) (k_neg (kL 2))) (kC (kI (kP R.s1) (k_neg (kL 1))) kN)))) qK))
set_option tactic.hygienic true in
theorem st_go : ∀ (n m : Nat) (l : List (List Int)) (prev later : List Int) (res : List (List Int)) (r : R), sturmGo n prev later (l ++ [prev]) = some res → n ≤ m → (∀ p ∈ l, p.length ≤ 200) → prev.length ≤ 200 → later.length ≤ 200 → l.length + n ≤ 400 →
    r.s1 = .own ((l ++ [prev]).map eP) → r.s2 = .val (eP later) → ∃ r', q_whl stC stB m r = some (.next, r') ∧ r'.s1 = .own (res.map eP) ∧ ∀ p ∈ res, p.length ≤ 200 := by
  intro n
  induction n with
  | zero => intro m l prev later res r h; cases h
  | succ n ih =>
    intro m l prev later res r h hm hl hp ht hn h1 h2
    obtain ⟨m, rfl⟩ : ∃ k, m = k + 1 := ⟨m - 1, by lia⟩
    have f0 : fit [] = some (.lst []) := rfl
    cases later with
    | nil =>
      cases h
      refine ⟨r, ?_, h1, fun p hp' => ?_⟩
      · have hc : stC r = some (.bool false) := by
          unfold stC
          simp only [o2, ox_s, kP, slP_v, h2, k_lst, kN, jT, f0]
          rfl
        simp only [q_whl_e1, q_whl_e2, hc, tst0]
      · rcases List.mem_append.mp hp' with h | h
        · exact hl p h
        · rw [List.mem_singleton.mp h]; exact hp
    | cons x lt =>
      have hc : stC r = some (.bool true) := by
        unfold stC
        simp only [o2, ox_s, kP, slP_v, h2, k_lst, kN, jT, f0]
        rfl
      generalize hx : x :: lt = later at *
      have h' : (match mnextrow prev later with | none => none | some nx => sturmGo n later nx ((l ++ [prev]) ++ [later])) = some res := by rw [← hx]; rw [← hx] at h; exact h
      clear h
      split at h'
      · cases h'
      rename_i nx hnx
      obtain ⟨c1, c2⟩ := L_nextrow hp ht hnx
      have e1 : l ++ [prev] ++ [later] = l ++ [prev, later] := by simp
      obtain ⟨p1, p2⟩ := pidxF_app2 l prev later
      have hrl : Nat.blt ((l ++ [prev]).map eP).length LL = true := Nat.ble_eq_true_of_le (by simp only [List.length_map, List.length_append, List.length_singleton, LL]; lia)
      have e2 : (l ++ [prev]).map eP ++ [eP later] = (l ++ [prev, later]).map eP := by simp
      have body : stB r = some (.next, t2 (t1 r (.own ((l ++ [prev, later]).map eP))) (.val (eP nx))) := by
        unfold stB
        simp only [qS, th_n, qK, q_app, h1, h2, k_var, slV_v, PV.ok, hrl, Bool.and_true, cond_true, e2, qA, asgV_l, k_call, kC, kN, kI, kP, slP_o, k_neg, kL, ox_s, jI, jT, mkI_eq, t1, iV_l, p1, p2, cV_l, c1]
      rw [e1, show l ++ [prev, later] = (l ++ [prev]) ++ [later] by simp] at h'
      obtain ⟨r', q1, q2, q3⟩ := ih m (l ++ [prev]) later nx res (t2 (t1 r (.own ((l ++ [prev, later]).map eP))) (.val (eP nx))) h' (by lia) (fun p hp' => by
        rcases List.mem_append.mp hp' with h | h
        · exact hl p h
        · rw [List.mem_singleton.mp h]; exact hp) ht (by lia) (by simp only [List.length_append, List.length_singleton]; lia) (by rw [show (l ++ [prev]) ++ [later] = l ++ [prev, later] by simp]; rfl) rfl
      exact ⟨r', by simp only [q_whl_e1, q_whl_e2, hc, tst1, body, th_n]; exact q1, q2, q3⟩
set_option tactic.hygienic true in
theorem L_sturm {f : List Int} {row : List (List Int)} (hf : f.length ≤ 200) (h : msturm f = some row) : n_sturm_row [eP f] = some (.lst (row.map eP)) ∧ ∀ p ∈ row, p.length ≤ 200 := by
  unfold msturm at h
  split at h
  · cases h
  rename_i d hd
  have ld := mderive_len hd
  have c1 := L_zderive (by lia) hd
  have f1 : fit [eP f] = some (.lst [eP f]) := if_pos (by simp only [List.length_cons, List.length_nil, LL]; lia)
  obtain ⟨r', q1, q2, q3⟩ := st_go 20 1000 [] f d row ⟨.val (eP f), .own ([f].map eP), .val (eP d), .un, .un, .un, .un, .un, .un, .un⟩ h (by decide) (fun o0 h => by cases h) hf (by lia) (by decide) rfl rfl
  refine ⟨?_, q3⟩
  unfold n_sturm_row a1 h_sturm_row
  unfold stC stB at q1
  simp only [List.map_cons, List.map_nil] at q1
  simp only [qS, th_n, ox_s, jT, k_call, kC, kN, k_var, slV_v, cV_l, t1, t2, qT, aTV_s, n_own, n_val, n_nil, k_lst, f1, c1, stc_s, stn_n, nx_s]
  rw [q1]
  simp only [qS, th_n, th_r, qR, k_var, slV_v, t1, fin_r, q_frz, fz, q2]
theorem L_sign_at {p : List Int} {x : Q} {v : Int} (h : mvsign p x = some v) : n_sign_at [eP p, eQ x] = some (.int v) := by
  have h1 := L_vsign h
  unfold n_sign_at a2 h_sign_at
  simp only [qS, th_r, qR, ox_s, jT, jB, cond_false, k_ite, k_call, kC, kN, k_var, slV_v, cV_t, cV_l, fin_r, k_isstr, h1]
end Mine.Internal
namespace Mine.Internal
noncomputable def chgL : Int → List Int → Int
  | _, [] => 0
  | l, s :: r => bif isZ s then chgL l r else bif isZ l || eqB l s then chgL s r else chgL s r + 1
theorem chgL_e1 : chgL  (w1) ([]) = (0) := rfl
theorem chgL_e2 : chgL  (l) (s :: r) = (bif isZ s then chgL l r else bif isZ l || eqB l s then chgL s r else chgL s r + 1) := rfl
set_option tactic.hygienic true in
theorem chg_sum (x : Q) : ∀ (row : List (List Int)) (l n v : Int), chgGo x row l n = some v → ∃ S : List Int, S.length = row.length ∧ (∀ (i : Nat) (p : List Int), row[i]? = some p → ∃ s, S[i]? = some s ∧ mvsign p x = some s) ∧ v = n + chgL l S
  | [], l, n, v, h => by cases h; exact ⟨[], rfl, fun i p h => by simp at h, by simp [chgL_e1, chgL_e2]⟩
  | p :: row, l, n, v, h => by
    simp only [chgGo_e1, chgGo_e2] at h
    split at h
    · cases h
    rename_i s hs
    have key : ∀ l' n', chgGo x row l' n' = some v → chgL l (s :: []) = chgL l (s :: []) → (∀ S, n' + chgL l' S = n + chgL l (s :: S)) → ∃ S : List Int, S.length = (p :: row).length ∧ (∀ (i : Nat) (p' : List Int), (p :: row)[i]? = some p' → ∃ s, S[i]? = some s ∧ mvsign p' x = some s) ∧ v = n + chgL l S := fun l' n' h' o0 e => by
      obtain ⟨S, h1, h2, h3⟩ := chg_sum x row l' n' v h'
      refine ⟨s :: S, by simp [h1], fun i p' hp => ?_, by rw [h3, e]⟩
      cases i with
      | zero => simp at hp; subst hp; exact ⟨s, rfl, hs⟩
      | succ i => exact h2 i p' (by simpa using hp)
    rcases ble_bif h with ⟨e1, h⟩ | ⟨e1, h⟩
    · exact key _ _ h rfl fun S => by simp [chgL_e1, chgL_e2, e1]
    · rcases ble_bif h with ⟨e2, h⟩ | ⟨e2, h⟩
      · exact key _ _ h rfl fun S => by simp only [chgL_e1, chgL_e2, e1, e2, cond_false, cond_true]
      · exact key _ _ h rfl fun S => by simp only [chgL_e1, chgL_e2, e1, e2, cond_false, iadd_eq]; lia
noncomputable def nz (S : List Int) : List Int := S.filter fun s => !isZ s
noncomputable def cntF : List Int → Nat
  | a :: b :: r => (if eqB b a then 0 else 1) + cntF (b :: r)
  | _ => 0
theorem eqB_comm (a b : Int) : eqB a b = eqB b a := by rw [eqB_eq, eqB_eq]; by_cases h : a = b <;> simp [h, eq_comm]
theorem chgL_nz : ∀ (S : List Int) (l : Int), isZ l = false → chgL l S = (cntF (l :: nz S) : Nat)
  | [], l, hl => rfl
  | s :: S, l, hl => by
    cases hs : isZ s with
    | true => simp only [chgL_e1, chgL_e2, hs, cond_true, chgL_nz S l hl, nz, List.filter_cons, Bool.not_true]; rfl
    | false =>
      have e : nz (s :: S) = s :: nz S := by simp [nz, hs]
      rw [e]
      simp only [chgL_e1, chgL_e2, hs, hl, cond_false, Bool.false_or, cntF]
      rw [eqB_comm s l, chgL_nz S s hs]
      cases eqB l s <;> simp <;> lia
theorem chgL_0 : ∀ (S : List Int), chgL 0 S = (cntF (nz S) : Nat)
  | [] => rfl
  | s :: S => by
    cases hs : isZ s with
    | true => simp only [chgL_e1, chgL_e2, hs, cond_true, chgL_0 S, nz, List.filter_cons, Bool.not_true]; rfl
    | false =>
      have e : nz (s :: S) = s :: nz S := by simp [nz, hs]
      rw [e]
      simp only [chgL_e1, chgL_e2, hs, cond_false, show isZ (0 : Int) = true from rfl, Bool.true_or, cond_true]
      rw [chgL_nz S s hs]
theorem kgo_rows {st : R → PV → Option R} {f : K} {base : R} : ∀ (row : List (List Int)) (S : List Int), S.length = row.length → (∀ (i : Nat) (p : List Int), row[i]? = some p → ∃ s, S[i]? = some s ∧ ∃ r, st base (eP p) = some r ∧ f r = some (.int s)) →
    kgo st f base (row.map eP) = some (S.map PV.int)
  | [], [], _, _ => rfl
  | [], _ :: _, h, _ => by simp at h
  | _ :: _, [], h, _ => by simp at h
  | p :: row, s :: S, h, hh => by
    obtain ⟨s', e1, r, e2, e3⟩ := hh 0 p rfl
    simp at e1; subst e1
    simp only [List.map_cons, kgo_e1, kgo_e2, e2, e3, kgo_rows row S (by simpa using h) fun i p hp => by simpa using hh (i + 1) p (by simpa using hp)]
theorem kgoIf_nz {st : R → PV → Option R} {f c : K} {base : R} : ∀ (S : List Int), (∀ s ∈ S, ∃ r, st base (.int s) = some r ∧ f r = some (.int s) ∧ c r = some (.bool (!isZ s))) → kgoIf st f c base (S.map PV.int) = some ((nz S).map PV.int)
  | [], _ => rfl
  | s :: S, h => by
    obtain ⟨r, e1, e2, e3⟩ := h s List.mem_cons_self
    have ih := kgoIf_nz S fun j hj => h j (List.mem_cons_of_mem _ hj)
    simp only [List.map_cons, kgoIf_e1, kgoIf_e2, e1, e2, e3, ih]
    cases hs : isZ s with
    | true => simp [nz, hs]
    | false => simp [nz, hs]
theorem kgoIf_cnt {st : R → PV → Option R} {f c : K} {base : R} (g : Nat → PV) : ∀ (F : List Int) (o : Nat), (∀ k, k + 1 < F.length → ∃ r, st base (g (o + k)) = some r ∧ f r = some (.int 1) ∧ c r = some (.bool (!eqB (F.getD (k + 1) 0) (F.getD k 0)))) →
    kgoIf st f c base ((List.range' o (F.length - 1)).map g) = some (List.replicate (cntF F) (.int 1))
  | [], o, _ => rfl
  | [a], o, _ => rfl
  | a :: b :: F, o, h => by
    obtain ⟨r, e1, e2, e3⟩ := h 0 (by simp)
    have ih := kgoIf_cnt g (b :: F) (o + 1) fun k hk => by
      have := h (k + 1) (by simpa using hk)
      rw [show o + 1 + k = o + (k + 1) by lia]
      simpa using this
    have e3' : c r = some (.bool (!eqB b a)) := by simpa using e3
    have e1' : st base (g o) = some r := by simpa using e1
    simp only [List.length_cons, Nat.add_sub_cancel] at ih ⊢
    rw [List.range'_succ]
    simp only [List.map_cons, kgoIf_e1, kgoIf_e2, e1', e2, e3', ih]
    cases hq : eqB b a with
    | true => simp [cntF, hq]
    | false => simp [cntF, hq, Nat.add_comm 1, List.replicate_succ]
end Mine.Internal
namespace Mine.Internal
theorem L_changes {row : List (List Int)} {x : Q} {v : Int} (hr : row.length ≤ 400) (h : mchanges row x = some v) : n_changes_at [.lst (row.map eP), eQ x] = some (.int v) := by
  obtain ⟨S, h1, h2, h3⟩ := chg_sum x row 0 0 v h
  rw [Int.zero_add, chgL_0] at h3
  have hF : (nz S).length ≤ S.length := List.length_filter_le _ _
  unfold n_changes_at a2 h_changes_at
  have k1 : ∀ base : R, base.s1 = .val (eQ x) → kgo (g1 t3) (k_call n_sign_at (kC (k_var R.s3) (kC (k_var R.s1) kN))) base (row.map eP) = some (S.map PV.int) := fun base hb => kgo_rows row S h1 fun i p hp => by
    obtain ⟨s, e1, e2⟩ := h2 i p hp
    refine ⟨s, e1, _, rfl, ?_⟩
    simp only [ox_s, jT, k_call, kC, kN, k_var, slV_v, cV_t, cV_l, t3, hb, L_sign_at e2]
  have k2 : ∀ base : R, kgoIf (g1 t4) (k_var R.s4) (o2 w_ne (kP R.s4) (kL 0)) base (S.map PV.int) = some ((nz S).map PV.int) := fun base => kgoIf_nz S fun s o0 => by
    refine ⟨_, rfl, rfl, ?_⟩
    simp only [o2, ox_s, kP, slP_v, kL, wNe, someB_eq, t4]
    rw [eqB_eq, ← isZ_eq]
  have k3 : ∀ base : R, base.s2 = .val (eP (nz S)) → kgoIf (g1 t5) (kL 1) (o2 w_ne (kI (kP R.s2) (k_var R.s5)) (kI (kP R.s2) (o2 v_sub (k_var R.s5) (kL 1)))) base (rngPV 1 (((nz S).length : Nat) : Int)) = some (List.replicate (cntF (nz S)) (.int 1)) := fun base hb => by
    have e : rngPV 1 (((nz S).length : Nat) : Int) = (List.range' 0 ((nz S).length - 1)).map fun k : Nat => PV.int (1 + (k : Int)) := by
      unfold rngPV
      rw [← List.range_eq_range', show ((((nz S).length : Nat) : Int) - 1).toNat = (nz S).length - 1 by lia]
    rw [e]
    refine kgoIf_cnt (fun k : Nat => PV.int (1 + (k : Int))) (nz S) 0 fun k hk => ⟨_, rfl, rfl, ?_⟩
    have i1 : (1 : Int) + ((0 + k : Nat) : Int) = ((k + 1 : Nat) : Int) := by lia
    have i2 : ((k + 1 : Nat) : Int) - 1 = ((k : Nat) : Int) := by lia
    have j1 := idxV_of (l := nz S) (k := k + 1) hk
    have j2 := idxV_of (l := nz S) (k := k) (by lia)
    simp only [iV_l] at j1 j2
    have d1 : (nz S).getD (k + 1) 0 = (nz S)[k + 1] := by rw [List.getD_eq_getElem?_getD, List.getElem?_eq_getElem hk]; rfl
    have d2 : (nz S).getD k 0 = (nz S)[k]'(by lia) := by rw [List.getD_eq_getElem?_getD, List.getElem?_eq_getElem (by lia)]; rfl
    rw [d1, d2]
    simp only [o2, ox_s, kI, kP, slP_v, t5, hb, k_var, slV_v, i1, jI, iV_l, j1, kL, v_sub_int, i2, j2, wNe, someB_eq]
  have c0 : (0 : Int) ≤ 1 ∧ (1 : Int) ≤ (LL : Int) ∧ (0 : Int) ≤ (((nz S).length : Nat) : Int) ∧ (((nz S).length : Nat) : Int) ≤ (LL : Int) := by
    refine ⟨by decide, by simp only [LL]; lia, Int.natCast_nonneg _, by simp only [LL]; lia⟩
  have b1 : Nat.ble (row.length) LL = true := ble_LL (by lia)
  have b2 : Nat.ble (S.length) LL = true := ble_LL (by lia)
  have b3 : Nat.ble ((rngPV 1 (((nz S).length : Nat) : Int)).length) LL = true := ble_LL (by unfold rngPV; rw [List.length_map, List.length_range]; lia)
  simp only [qS, th_n, th_r, qA, asgV_l, qR, k_comp, ox_s, k_var, slV_v, jM1, jM2, b1, cond_true, hideR, hs_v, hs_u, c1, t3, k1, lstO', t2, k_compIf, b2, t4, k2, k_len, o2, kL, kP, slP_v, jL, mkI_eq, List.length_map, rng2V, jI, if_pos c0, b3, t5, k3, List.length_replicate, fin_r, h3]
theorem L_count {row : List (List Int)} {a b : Q} {u v : Int} (hr : row.length ≤ 400) (h : mchanges row a = some u) (h' : mchanges row b = some v) : n_count_by_row [.lst (row.map eP), eQ a, eQ b] = some (.int (u - v)) := by
  have c1 := L_changes hr h
  have c2 := L_changes hr h'
  unfold n_count_by_row a3 h_count_by_row
  simp only [qS, th_r, qR, o2, ox_s, jT, k_call, kC, kN, k_var, slV_v, cV_t, cV_l, fin_r, c1, c2, v_sub_int]
theorem kgo_abs {base : R} : ∀ (f : List Int), kgo (g1 t2) (k_abs (k_var R.s2)) base (f.map PV.int) = some ((f.map fun x => (x.natAbs : Int)).map PV.int)
  | [] => rfl
  | x :: f => by
    have ih := kgo_abs (base := base) f
    have e : k_abs (k_var R.s2) (t2 base (.val (.int x))) = some (.int (x.natAbs : Int)) := by
      cases x <;> rfl
    simp only [List.map_cons, kgo_e1, kgo_e2, g1, e, ih]
theorem maxAbs_ge : ∀ (f : List Int) (m : Nat), maxAbs m f = max m (maxAbs 0 f)
  | [], m => by simp [maxAbs]
  | x :: f, m => by
    simp only [maxAbs]
    have h1 := maxAbs_ge f x.natAbs
    have h2 := maxAbs_ge f m
    have h3 := maxAbs_ge f 0
    cases e1 : Nat.blt m x.natAbs <;> cases e2 : Nat.blt 0 x.natAbs <;> simp only [cond_true, cond_false]
    · have := blt_false e1; have := blt_false e2; lia
    · have := blt_false e1; lia
    · have : m + 1 ≤ x.natAbs := Nat.le_of_ble_eq_true e1; have := blt_false e2; lia
    · have : m + 1 ≤ x.natAbs := Nat.le_of_ble_eq_true e1; lia
theorem maxInts_abs : ∀ (f : List Int), f ≠ [] → maxInts ((f.map fun x => (x.natAbs : Int)).map PV.int) = some (maxAbs 0 f : Int)
  | [], h => absurd rfl h
  | [x], _ => by
    show some ((x.natAbs : Nat) : Int) = some ((bif Nat.blt 0 x.natAbs then x.natAbs else 0 : Nat) : Int)
    cases e : Nat.blt 0 x.natAbs with
    | true => rfl
    | false => have := blt_false e; congr 2; simp only [cond_false]; lia
  | x :: y :: f, _ => by
    have ih := maxInts_abs (y :: f) (by simp)
    show (maxInts (((y :: f).map fun x => (x.natAbs : Int)).map PV.int)).map _ = _
    rw [ih]
    simp only [Option.map_some]
    congr 1
    have h1 : maxAbs 0 (x :: y :: f) = max x.natAbs (maxAbs 0 (y :: f)) := by
      rw [maxAbs]
      cases e : Nat.blt 0 x.natAbs with
      | true => simp only [cond_true]; exact maxAbs_ge _ _
      | false => simp only [cond_false]; have := blt_false e; lia
    rw [h1]
    split <;> lia
theorem L_bound {f : List Int} {b : Int} (hf : f.length ≤ 200) (hn : f ≠ []) (h : mbound f = some b) : n_root_bound [eP f] = some (.int b) := by
  unfold mbound at h
  obtain ⟨d, h⟩ := fdK_some h
  rw [iadd_eq] at h
  cases h
  unfold n_root_bound a1 h_root_bound
  have b1 : Nat.ble ((f.map PV.int).length) LL = true := ble_LL (by rw [List.length_map]; lia)
  have ha : ∀ r : R, r.s0 = .val (eP f) → k_abs (k_call n_zlead (kC (k_var R.s0) kN)) r = some (.int ((mlead f).natAbs : Nat)) := fun r hr => by
    unfold k_abs
    have e : k_call n_zlead (kC (k_var R.s0) kN) r = some (.int (mlead f)) := by simp only [ox_s, jT, k_call, kC, kN, k_var, slV_v, cV_l, hr, L_zlead]
    rw [e]
    cases mlead f <;> rfl
  simp only [qS, th_n, th_r, qA, asgV_i, qR, k_maxl, k_comp, ox_s, k_var, slV_v, jM1, b1, cond_true, hideR, hs_v, hs_u, c1, t2, kgo_abs, lstO', jL, maxInts_abs f hn, Option.map_some, t1, o2, kL, ha, d, v_add_int, fin_r]
end Mine.Internal
namespace Mine.Internal
noncomputable def spC : K := o2 w_ne (kP R.s3) (k_lst kN)
noncomputable def spB : S := (qS (q_pop R.s3 t3 (st_c t5 (st_c t6 st_n))) (qS (qA t7 (k_call n_count_by_row (kC (k_var R.s1) (kC (k_var R.s5) (kC (k_var R.s6) kN))))) (qS (qI (o2 w_eq (kP R.s7) (kL 1)) (qS (q_app R.s4 t4 (kC (k_var R.s5) (kC (k_var R.s6) kN))) qK) (qS (qI (o2 w_gt (kP R.s7) (kL 1)) (qS (qA t8 (k_call n_middle (kC (k_var R.s5) (kC (k_var R.s6) kN)))) (qS (qI (o2 w_eq (k_call n_value_sign (kC (k_var R.s0) (kC (k_var R.s8) kN))) (kL 0)) (qS (qR (kC (k_lst kN) (kC (k_var R.s8) kN))) qK) qK) (qS (q_app R.s3 t3 (kC (k_var R.s8) (kC (k_var R.s6) kN))) (qS (q_app R.s3 t3 (kC (k_var R.s5) (kC (k_var R.s8) kN))) qK)))) qK) qK)) qK)))
set_option tactic.hygienic true in
theorem sp_go (f : List Int) (row : List (List Int)) (hrow : row.length ≤ 400) : ∀ (n m : Nat) (w found res : List Iv) (ex : Option Q) (r : R), splitGo f row n w found = some (res, ex) → n ≤ m → w.length + n ≤ 2000 → found.length + n ≤ 2000 →
    r.s0 = .val (eP f) → r.s1 = .val (.lst (row.map eP)) → r.s3 = .own (w.reverse.map eV) → r.s4 = .own (found.map eV) →
    (∃ r', q_whl spC spB m r = some (.next, r') ∧ r'.s4 = .own (res.map eV) ∧ ex = none) ∨ (∃ r' x, q_whl spC spB m r = some (.ret (.tup [.lst [], eQ x]), r') ∧ ex = some x ∧ res = []) := by
  intro n
  induction n with
  | zero => intro m w found res ex r h; cases h
  | succ n ih =>
    intro m w found res ex r h hm hw hfd h0 h1 h3 h4
    obtain ⟨m, rfl⟩ : ∃ k, m = k + 1 := ⟨m - 1, by lia⟩
    have f0 : fit [] = some (.lst []) := rfl
    cases w with
    | nil =>
      cases h
      refine .inl ⟨r, ?_, h4, rfl⟩
      have hc : spC r = some (.bool false) := by
        unfold spC
        simp only [o2, ox_s, kP, slP_o, h3, k_lst, kN, jT, f0]
        rfl
      simp only [q_whl_e1, q_whl_e2, hc, tst0]
    | cons iv w =>
      have hrev : (iv :: w).reverse.map eV = w.reverse.map eV ++ [eV iv] := by simp
      rw [hrev] at h3
      have hc : spC r = some (.bool true) := by
        unfold spC
        simp only [o2, ox_s, kP, slP_o, h3, k_lst, kN, jT, f0]
        cases w.reverse.map eV <;> rfl
      have hpop : (w.reverse.map eV ++ [eV iv]).reverse = eV iv :: (w.reverse.map eV).reverse := by simp
      have hrr : (w.reverse.map eV).reverse.reverse = w.reverse.map eV := List.reverse_reverse _
      simp only [splitGo_e1, splitGo_e2, splitGo_e3] at h
      split at h
      · cases h
      rename_i a ha
      split at h
      · cases h
      rename_i b hb
      rw [isub_eq] at h
      have c1 := L_count hrow ha hb
      have hf1 : Nat.blt found.length LL = true := Nat.ble_eq_true_of_le (by simp only [LL]; lia)
      have hw1 : Nat.blt w.length LL = true := Nat.ble_eq_true_of_le (by simp only [List.length_cons, LL] at *; lia)
      have hw2 : Nat.blt (w.length + 1) LL = true := Nat.ble_eq_true_of_le (by simp only [List.length_cons, LL] at *; lia)
      rcases ble_bif h with ⟨e1, h5⟩ | ⟨e1, h5⟩
      · have body : spB r = some (.next, t4 (t7 (t6 (t5 (t3 r (.own (w.reverse.map eV))) (.val (eQ iv.1))) (.val (eQ iv.2))) (.val (.int (a - b)))) (.own ((found ++ [iv]).map eV))) := by
          unfold spB
          rw [List.map_append]
          simp only [qS, th_n, q_pop, h3, hpop, hrr, List.map_cons, List.map_nil, stc_s, stn_n, nx_s, t3, t5, t6, qA, asgV_i, k_call, kC, kN, k_var, slV_v, h1, ox_s, jT, cV_t, cV_l, c1, t7, qI, tst1, o2, kP, slP_v, kL, wEq, someB_eq, e1, q_app, h4, PV.ok, List.length_map, hf1, Bool.and_true, cond_true, t4, qK, List.map_nil]
        have hst : (t4 (t7 (t6 (t5 (t3 r (.own (w.reverse.map eV))) (.val (eQ iv.1))) (.val (eQ iv.2))) (.val (.int (a - b)))) (.own ((found ++ [iv]).map eV))).s0 = .val (eP f) := h0
        rcases ih m w (found ++ [iv]) res ex (t4 (t7 (t6 (t5 (t3 r (.own (w.reverse.map eV))) (.val (eQ iv.1))) (.val (eQ iv.2))) (.val (.int (a - b)))) (.own ((found ++ [iv]).map eV))) h5 (by lia) (by simp only [List.length_cons] at hw; lia) (by simp only [List.length_append, List.length_singleton]; lia) h0 h1 rfl rfl with ⟨r', q1, q2, q3⟩ | ⟨r', x, q1, q2, q3⟩
        · exact .inl ⟨r', by simp only [q_whl_e1, q_whl_e2, hc, tst1, body, th_n]; exact q1, q2, q3⟩
        · exact .inr ⟨r', x, by simp only [q_whl_e1, q_whl_e2, hc, tst1, body, th_n]; exact q1, q2, q3⟩
      · rcases ble_bif h5 with ⟨e2, h6⟩ | ⟨e2, h6⟩
        · split at h6
          · cases h6
          rename_i x hx
          split at h6
          · cases h6
          rename_i s hs'
          have c2 := L_middle hx
          have c3 := L_vsign hs'
          rcases ble_bif h6 with ⟨e3, h7⟩ | ⟨e3, h7⟩
          · cases h7
            have ez : eqB s 0 = true := by rw [eqB_eq, ← isZ_eq]; exact e3
            refine .inr ⟨t8 (t7 (t6 (t5 (t3 r (.own (w.reverse.map eV))) (.val (eQ iv.1))) (.val (eQ iv.2))) (.val (.int (a - b)))) (.val (eQ x)), x, ?_, rfl, rfl⟩
            have body : spB r = some (.ret (.tup [.lst [], eQ x]), t8 (t7 (t6 (t5 (t3 r (.own (w.reverse.map eV))) (.val (eQ iv.1))) (.val (eQ iv.2))) (.val (.int (a - b)))) (.val (eQ x))) := by
              unfold spB
              simp only [qS, th_n, th_r, q_pop, h3, hpop, hrr, List.map_cons, List.map_nil, stc_s, stn_n, nx_s, t3, t5, t6, qA, asgV_i, asgV_t, k_call, kC, kN, k_var, slV_v, h0, h1, ox_s, jT, cV_t, cV_l, c1, t7, qI, tst1, tst0, o2, kP, slP_v, kL, wEq, wGt, someB_eq, e1, e2, c2, t8, c3, ez, qR, k_lst, f0, qK, List.map_nil]
            simp only [q_whl_e1, q_whl_e2, hc, tst1, body, th_r]
          · have ez : eqB s 0 = false := by rw [eqB_eq, ← isZ_eq]; exact e3
            have body : spB r = some (.next, t3 (t8 (t7 (t6 (t5 r (.val (eQ iv.1))) (.val (eQ iv.2))) (.val (.int (a - b)))) (.val (eQ x))) (.own (((iv.1, x) :: (x, iv.2) :: w).reverse.map eV))) := by
              have hsh : ((iv.1, x) :: (x, iv.2) :: w).reverse.map eV = w.reverse.map eV ++ [eV (x, iv.2)] ++ [eV (iv.1, x)] := by simp
              rw [hsh]
              unfold spB
              simp only [qS, th_n, q_pop, h3, hpop, hrr, List.map_cons, List.map_nil, stc_s, stn_n, nx_s, t3, t5, t6, qA, asgV_i, asgV_t, k_call, kC, kN, k_var, slV_v, h0, h1, ox_s, jT, cV_t, cV_l, c1, t7, qI, tst1, tst0, o2, kP, slP_v, kL, wEq, wGt, someB_eq, e1, e2, c2, t8, c3, ez, q_app, PV.ok, List.length_map, List.length_reverse, List.length_append, List.length_singleton, hw1, hw2, Bool.and_true, cond_true, qK, List.map_nil]
            rcases ih m ((iv.1, x) :: (x, iv.2) :: w) found res ex (t3 (t8 (t7 (t6 (t5 r (.val (eQ iv.1))) (.val (eQ iv.2))) (.val (.int (a - b)))) (.val (eQ x))) (.own (((iv.1, x) :: (x, iv.2) :: w).reverse.map eV))) h7 (by lia) (by simp only [List.length_cons] at *; lia) (by lia) h0 h1 rfl h4 with ⟨r', q1, q2, q3⟩ | ⟨r', x', q1, q2, q3⟩
            · exact .inl ⟨r', by simp only [q_whl_e1, q_whl_e2, hc, tst1, body, th_n]; exact q1, q2, q3⟩
            · exact .inr ⟨r', x', by simp only [q_whl_e1, q_whl_e2, hc, tst1, body, th_n]; exact q1, q2, q3⟩
        · have body : spB r = some (.next, t7 (t6 (t5 (t3 r (.own (w.reverse.map eV))) (.val (eQ iv.1))) (.val (eQ iv.2))) (.val (.int (a - b)))) := by
            unfold spB
            simp only [qS, th_n, q_pop, h3, hpop, hrr, List.map_cons, List.map_nil, stc_s, stn_n, nx_s, t3, t5, t6, qA, asgV_i, k_call, kC, kN, k_var, slV_v, h1, ox_s, jT, cV_t, cV_l, c1, t7, qI, tst0, o2, kP, slP_v, kL, wEq, wGt, someB_eq, e1, e2, qK, List.map_nil]
          rcases ih m w found res ex (t7 (t6 (t5 (t3 r (.own (w.reverse.map eV))) (.val (eQ iv.1))) (.val (eQ iv.2))) (.val (.int (a - b)))) h6 (by lia) (by simp only [List.length_cons] at hw; lia) (by lia) h0 h1 rfl h4 with ⟨r', q1, q2, q3⟩ | ⟨r', x, q1, q2, q3⟩
          · exact .inl ⟨r', by simp only [q_whl_e1, q_whl_e2, hc, tst1, body, th_n]; exact q1, q2, q3⟩
          · exact .inr ⟨r', x, by simp only [q_whl_e1, q_whl_e2, hc, tst1, body, th_n]; exact q1, q2, q3⟩
theorem sturm_len : ∀ (n : Nat) (prev later : List Int) (found res : List (List Int)), sturmGo n prev later found = some res → res.length ≤ found.length + n
  | 0, _, _, _, _, h => by cases h
  | n + 1, prev, later, found, res, h => by
    cases later with
    | nil => cases h; lia
    | cons x l =>
      have h' : (match mnextrow prev (x :: l) with | none => none | some nx => sturmGo n (x :: l) nx (found ++ [x :: l])) = some res := h
      split at h'
      · cases h'
      · have := sturm_len n _ _ _ _ h'
        simp only [List.length_append, List.length_singleton] at this
        lia
theorem split_len (f : List Int) (row : List (List Int)) : ∀ (n : Nat) (w found res : List Iv) (ex : Option Q), splitGo f row n w found = some (res, ex) → res.length ≤ found.length + n
  | 0, _, _, _, _, h => by cases h
  | n + 1, w, found, res, ex, h => by
    cases w with
    | nil => cases h; lia
    | cons iv w =>
      simp only [splitGo_e1, splitGo_e2, splitGo_e3] at h
      split at h
      · cases h
      split at h
      · cases h
      rcases ble_bif h with ⟨_, h⟩ | ⟨_, h⟩
      · have := split_len f row n _ _ _ _ h
        simp only [List.length_append, List.length_singleton] at this; lia
      · rcases ble_bif h with ⟨_, h⟩ | ⟨_, h⟩
        · split at h
          · cases h
          split at h
          · cases h
          rcases ble_bif h with ⟨_, h⟩ | ⟨_, h⟩
          · cases h; exact Nat.zero_le _
          · have := split_len f row n _ _ _ _ h; lia
        · have := split_len f row n _ _ _ _ h; lia
theorem msplit_len {f : List Int} {res : List Iv} {ex : Option Q} (h : msplit f = some (res, ex)) : res.length ≤ 300 := by
  unfold msplit at h
  split at h
  · cases h
  split at h
  · cases h
  have := split_len _ _ _ _ _ _ _ h
  simpa using this
noncomputable def eX : Option Q → PV
  | some x => eQ x
  | none => .none
set_option tactic.hygienic true in
theorem L_split {f : List Int} {res : List Iv} {ex : Option Q} (hf : f.length ≤ 200) (hn : f ≠ []) (h : msplit f = some (res, ex)) :
    n_split_roots [eP f] = some (.tup [.lst (res.map eV), eX ex]) := by
  unfold msplit at h
  split at h
  · cases h
  rename_i row hrow
  split at h
  · cases h
  rename_i b hb
  obtain ⟨c1, _⟩ := L_sturm hf hrow
  have hrl : row.length ≤ 400 := by
    unfold msturm at hrow
    split at hrow
    · cases hrow
    · have := sturm_len _ _ _ _ _ hrow
      simp only [List.length_singleton] at this
      lia
  have c2 := L_bound hf hn hb
  have f1 : ∀ x : PV, fit [x] = some (.lst [x]) := fun x => if_pos (by simp only [List.length_cons, List.length_nil, LL]; lia)
  have f0 : fit [] = some (.lst []) := rfl
  have q := sp_go f row hrl 300 1000 [((ineg b, 1), (b, 1))] [] res ex ⟨.val (eP f), .val (.lst (row.map eP)), .val (.int b), .own [eV ((-b, 1), (b, 1))], .own [], .un, .un, .un, .un, .un⟩ h (by decide) (by simp) (by simp) rfl rfl (by rw [ineg_eq]; rfl) rfl
  unfold n_split_roots a1 h_split_roots
  unfold spC spB at q
  rcases q with ⟨r', q1, q2, q3⟩ | ⟨r', x, q1, q2, q3⟩
  · subst q3
    simp only [qS, th_n, ox_s, kL, jI, jT, k_call, kC, kN, k_var, slV_v, cV_i, cV_t, cV_l, k_neg, mkI_eq, t1, t2, t3, t4, qT, aTV_s, n_val, n_own, n_nil, stc_s, stn_n, nx_s, c1, c2, k_lst, f1, f0]
    rw [q1]
    simp only [qS, th_n, th_r, qR, ox_s, jT, kC, kN, k_var, slV_v, cV_n, cV_l, t4, fin_r, q_frz, fz, q2, k_non]
    rfl
  · subst q2 q3
    simp only [qS, th_n, ox_s, kL, jI, jT, k_call, kC, kN, k_var, slV_v, cV_i, cV_t, cV_l, k_neg, mkI_eq, t1, t2, t3, t4, qT, aTV_s, n_val, n_own, n_nil, stc_s, stn_n, nx_s, c1, c2, k_lst, f1, f0]
    rw [q1]
    rfl
end Mine.Internal
namespace Mine.Internal
theorem w_ne_q (a b c d : Int) : w_ne (.tup [.int a, .int b]) (.tup [.int c, .int d]) = some (.bool (!(eqB a c && eqB b d))) := someB_eq _
set_option tactic.hygienic true in
theorem any_go {base : R} {iv : Iv} (hb : base.s1 = .val (eV iv)) : ∀ (nums : List Q) (b : Bool), anyIn iv nums = some b → ∃ bs : List Bool, kgo (g1 t3) (k_call n_is_inside (kC (k_var R.s3) (kC (k_var R.s1) kN))) base (nums.map eQ) = some (bs.map PV.bool) ∧ anyB (bs.map PV.bool) = some b
  | [], b, h => by cases h; exact ⟨[], rfl, rfl⟩
  | x :: nums, b, h => by
    simp only [anyIn_e1, anyIn_e2] at h
    split at h
    · cases h
    rename_i c hc
    split at h
    · cases h
    rename_i d hd
    cases h
    obtain ⟨bs, e1, e2⟩ := any_go hb nums d hd
    have ci := L_inside hc
    have e : k_call n_is_inside (kC (k_var R.s3) (kC (k_var R.s1) kN)) (t3 base (.val (eQ x))) = some (.bool c) := by simp only [ox_s, jT, k_call, kC, kN, k_var, slV_v, cV_t, t3, hb, ci]
    refine ⟨c :: bs, ?_, ?_⟩
    · simp only [List.map_cons, kgo_e1, kgo_e2, g1, e, e1]
    · simp only [List.map_cons, anyB_e1, anyB_e2, e2]; rfl
noncomputable def koC : K := k_and (o2 w_ne (kI (kP R.s1) (kL 0)) (kI (kP R.s1) (kL 1))) (k_any (k_comp (g1 t3) (c1 t3) (k_call n_is_inside (kC (k_var R.s3) (kC (k_var R.s1) kN))) (k_var R.s2)))
noncomputable def koB : S := qS (qA t1 (k_call n_halved (kC (k_var R.s0) (kC (k_var R.s1) kN)))) qK
set_option tactic.hygienic true in
theorem ko_go (f : List Int) (nums : List Q) (hnn : nums.length ≤ 400) : ∀ (n m : Nat) (iv res : Iv) (r : R), keptGo f nums n iv = some res → n ≤ m → r.s0 = .val (eP f) → r.s1 = .val (eV iv) → r.s2 = .val (.lst (nums.map eQ)) →
    ∃ r', q_whl koC koB m r = some (.next, r') ∧ r'.s1 = .val (eV res) := by
  intro n
  induction n with
  | zero => intro m iv res r h; cases h
  | succ n ih =>
    intro m iv res r h hm h0 h1 h2
    obtain ⟨m, rfl⟩ : ∃ k, m = k + 1 := ⟨m - 1, by lia⟩
    simp only [keptGo_e1, keptGo_e2] at h
    have bl : Nat.ble (nums.length) LL = true := ble_LL (by lia)
    rcases ble_bif h with ⟨e1, h5⟩ | ⟨e1, h5⟩
    · cases h5
      refine ⟨r, ?_, h1⟩
      have hc : koC r = some (.bool false) := by
        unfold koC
        have e1' : (eqB iv.1.1 iv.2.1 && eqB iv.1.2 iv.2.2) = true := e1
        simp only [k_and, o2, ox_s, kI, kP, slP_v, h1, kL, jI, iV_t, pidxF, List.getElem?_cons_zero, List.getElem?_cons_succ, w_ne_q, e1', Bool.not_true, jB, cond_false]
      simp only [q_whl_e1, q_whl_e2, hc, tst0]
    · have e1' : (eqB iv.1.1 iv.2.1 && eqB iv.1.2 iv.2.2) = false := e1
      split at h5
      · cases h5
      · rename_i ha
        obtain ⟨bs, k1, k2⟩ := any_go (base := c1 t3 (hideR r)) (iv := iv) (by simp only [c1, hideR, t3, h1, hs_v]) nums true ha
        have hc : koC r = some (.bool true) := by
          unfold koC
          simp only [k_and, o2, ox_s, kI, kP, slP_v, h1, kL, jI, iV_t, pidxF, List.getElem?_cons_zero, List.getElem?_cons_succ, w_ne_q, e1', Bool.not_false, jB, cond_true, k_any, k_comp, k_var, slV_v, h2, jM1, List.length_map, bl, k1, lstO', jL, k2, Option.map_some]
        split at h5
        · cases h5
        rename_i iv' hiv
        have c1' := L_halved hiv
        have body : koB r = some (.next, t1 r (.val (eV iv'))) := by
          unfold koB
          simp only [qS, th_n, qK, qA, asgV_t, k_call, kC, kN, k_var, slV_v, h0, h1, ox_s, jT, cV_t, cV_l, c1']
        obtain ⟨r', q1, q2⟩ := ih m iv' res (t1 r (.val (eV iv'))) h5 (by lia) h0 rfl h2
        exact ⟨r', by simp only [q_whl_e1, q_whl_e2, hc, tst1, body, th_n]; exact q1, q2⟩
      · rename_i ha
        cases h5
        obtain ⟨bs, k1, k2⟩ := any_go (base := c1 t3 (hideR r)) (iv := iv) (by simp only [c1, hideR, t3, h1, hs_v]) nums false ha
        refine ⟨r, ?_, h1⟩
        have hc : koC r = some (.bool false) := by
          unfold koC
          simp only [k_and, o2, ox_s, kI, kP, slP_v, h1, kL, jI, iV_t, pidxF, List.getElem?_cons_zero, List.getElem?_cons_succ, w_ne_q, e1', Bool.not_false, jB, cond_true, k_any, k_comp, k_var, slV_v, h2, jM1, List.length_map, bl, k1, lstO', jL, k2, Option.map_some]
        simp only [q_whl_e1, q_whl_e2, hc, tst0]
theorem L_kept {f : List Int} {nums : List Q} {iv res : Iv} (hnn : nums.length ≤ 400) (h : keptGo f nums 500 iv = some res) : n_kept_off [eP f, eV iv, .lst (nums.map eQ)] = some (eV res) := by
  obtain ⟨r', q1, q2⟩ := ko_go f nums hnn 500 1000 iv res ⟨.val (eP f), .val (eV iv), .val (.lst (nums.map eQ)), .un, .un, .un, .un, .un, .un, .un⟩ h (by decide) rfl rfl rfl
  have e : n_kept_off [eP f, eV iv, .lst (nums.map eQ)] = fin (q_then (qS (qR (k_var R.s1)) qK) (q_whl koC koB 1000 ⟨.val (eP f), .val (eV iv), .val (.lst (nums.map eQ)), .un, .un, .un, .un, .un, .un, .un⟩)) := rfl
  rw [e, q1]
  simp only [qS, th_n, th_r, qR, k_var, slV_v, fin_r, q2]
set_option tactic.hygienic true in
theorem insI_some : ∀ (acc res : List Iv) (p : Iv), insI p acc = some res → ∃ pre post : List Iv, acc = pre ++ post ∧ res = pre ++ p :: post ∧ (∀ y ∈ pre, ∃ c, mrcompare y.2 p.2 = some c ∧ isN c = true) ∧ (∀ y, post.head? = some y → ∃ c, mrcompare y.2 p.2 = some c ∧ isN c = false)
  | [], res, p, h => by cases h; exact ⟨[], [], rfl, rfl, (fun o0 h => by cases h), (fun o0 h => by cases h)⟩
  | y :: acc, res, p, h => by
    simp only [insI_e1, insI_e2] at h
    split at h
    · cases h
    rename_i c hc
    rcases ble_bif h with ⟨e1, h2⟩ | ⟨e1, h2⟩
    · split at h2
      · cases h2
      rename_i l hl
      cases h2
      obtain ⟨pre, post, g1, g2, g3, g4⟩ := insI_some acc l p hl
      refine ⟨y :: pre, post, by rw [g1]; rfl, by rw [g2]; rfl, fun z hz => ?_, g4⟩
      rcases List.mem_cons.mp hz with rfl | hz
      · exact ⟨c, hc, e1⟩
      · exact g3 z hz
    · cases h2
      exact ⟨[], y :: acc, rfl, rfl, fun o0 h => (by cases h), (fun z hz => by cases hz; exact ⟨c, hc, e1⟩)⟩
noncomputable def siC : K := k_and (o2 w_lt (kP R.s3) (k_len (kP R.s1))) (o2 w_lt (k_call n_rcompare (kC (kI (kI (kP R.s1) (k_var R.s3)) (kL 1)) (kC (kI (kP R.s2) (kL 1)) kN))) (kL 0))
noncomputable def siB : S := qS (q_aug R.s3 t3 v_add (kL 1)) qK
theorem idx_eV {acc : List Iv} {k : Nat} (h : k < acc.length) : pidxF (acc.map eV) ((k : Nat) : Int) = some (eV acc[k]) := by
  show (acc.map eV)[k]? = _
  rw [List.getElem?_map, List.getElem?_eq_getElem h]; rfl
theorem si_walk (acc : List Iv) (p : Iv) : ∀ (j k m : Nat) (r : R), j + k ≤ acc.length → j < m → r.s1 = .own (acc.map eV) → r.s2 = .val (eV p) → r.s3 = .val (.int ((k : Nat) : Int)) →
    (∀ i, k ≤ i → i < k + j → ∃ c, (acc[i]?).bind (fun y => mrcompare y.2 p.2) = some c ∧ isN c = true) → (∀ y, acc[k + j]? = some y → ∃ c, mrcompare y.2 p.2 = some c ∧ isN c = false) →
    q_whl siC siB m r = some (.next, t3 r (.val (.int ((k + j : Nat) : Int)))) := by
  intro j
  induction j with
  | zero =>
    intro k m r hle hm h1 h2 h3 _ hstop
    obtain ⟨m, rfl⟩ : ∃ q, m = q + 1 := ⟨m - 1, by lia⟩
    have hr : t3 r (.val (.int ((k + 0 : Nat) : Int))) = r := by
      rw [Nat.add_zero, ← h3]; rfl
    rw [hr]
    have hc : siC r = some (.bool false) := by
      unfold siC
      by_cases hlt : k < acc.length
      · obtain ⟨c, c1, c2⟩ := hstop acc[k] (by rw [Nat.add_zero]; exact List.getElem?_eq_getElem hlt)
        have b1 : ltB ((k : Nat) : Int) ((acc.length : Nat) : Int) = true := by rw [ltB_eq]; exact decide_eq_true (by lia)
        have d1 := L_rcompare c1
        have d2 : ltB c 0 = false := by rw [ltB_eq, ← isN_eq]; exact c2
        have ix : (acc.map eV)[k]? = some (eV acc[k]) := idx_eV hlt
        simp only [k_and, o2, ox_s, kP, slP_v, slP_o, h1, h2, h3, k_len, jL, mkI_eq, List.length_map, wLt, jI, b1, someB_eq, jB, cond_true, k_call, kC, kN, kI, k_var, slV_v, iV_l, iV_t, ix, kL, pidxF, List.getElem?_cons_succ, List.getElem?_cons_zero, jT, cV_t, d1, d2]
      · have b1 : ltB ((k : Nat) : Int) ((acc.length : Nat) : Int) = false := by rw [ltB_eq]; exact decide_eq_false (by lia)
        simp only [k_and, o2, ox_s, kP, slP_v, slP_o, h1, h3, k_len, jL, mkI_eq, List.length_map, wLt, b1, someB_eq, jB, cond_false]
    simp only [q_whl_e1, q_whl_e2, hc, tst0]
  | succ j ih =>
    intro k m r hle hm h1 h2 h3 hgo hstop
    obtain ⟨m, rfl⟩ : ∃ q, m = q + 1 := ⟨m - 1, by lia⟩
    have hlt : k < acc.length := by lia
    obtain ⟨c, c1, c2⟩ := hgo k (Nat.le_refl _) (by lia)
    rw [List.getElem?_eq_getElem hlt] at c1
    have hc : siC r = some (.bool true) := by
      unfold siC
      have b1 : ltB ((k : Nat) : Int) ((acc.length : Nat) : Int) = true := by rw [ltB_eq]; exact decide_eq_true (by lia)
      have d1 := L_rcompare (show mrcompare acc[k].2 p.2 = some c from c1)
      have d2 : ltB c 0 = true := by rw [ltB_eq, ← isN_eq]; exact c2
      have ix : (acc.map eV)[k]? = some (eV acc[k]) := idx_eV hlt
      simp only [k_and, o2, ox_s, kP, slP_v, slP_o, h1, h2, h3, k_len, jL, mkI_eq, List.length_map, wLt, jI, b1, someB_eq, jB, cond_true, k_call, kC, kN, kI, k_var, slV_v, iV_l, iV_t, ix, kL, pidxF, List.getElem?_cons_succ, List.getElem?_cons_zero, jT, cV_t, d1, d2]
    have body : siB r = some (.next, t3 r (.val (.int ((k + 1 : Nat) : Int)))) := by
      unfold siB
      simp only [qS, th_n, qK, q_aug, h3, kL, v_add_int]
      rfl
    have := ih (k + 1) m (t3 r (.val (.int ((k + 1 : Nat) : Int)))) (by lia) (by lia) h1 h2 rfl (fun i hi hi' => hgo i (by lia) (by lia)) (fun y hy => hstop y (by rw [show k + (j + 1) = k + 1 + j by lia]; exact hy))
    simp only [q_whl_e1, q_whl_e2, hc, tst1, body, th_n]
    rw [this, show k + 1 + j = k + (j + 1) by lia]
    rfl
end Mine.Internal
namespace Mine.Internal
noncomputable def siS : S := (qS (qA t3 (kL 0)) (qS (q_whl siC siB 1000) (qS (q_ins R.s1 t1 (k_var R.s3) (k_var R.s2)) qK)))
theorem si_step {acc res : List Iv} {p : Iv} (h : insI p acc = some res) (hl : acc.length ≤ 400) (r : R) (h1 : r.s1 = .own (acc.map eV)) (h2 : r.s2 = .val (eV p)) :
    ∃ r', siS r = some (.next, r') ∧ r'.s1 = .own (res.map eV) ∧ res.length = acc.length + 1 := by
  obtain ⟨pre, post, rfl, rfl, g3, g4⟩ := insI_some acc res p h
  have w := si_walk (pre ++ post) p pre.length 0 1000 (t3 r (.val (.int 0))) (by simp) (by simp at hl; lia) h1 h2 rfl (fun i o0 hi => by
    have hi' : i < pre.length := by lia
    obtain ⟨c, c1, c2⟩ := g3 pre[i] (List.getElem_mem hi')
    refine ⟨c, ?_, c2⟩
    rw [List.getElem?_append_left hi', List.getElem?_eq_getElem hi']; exact c1) (fun y hy => by
    rw [Nat.zero_add, List.getElem?_append_right (Nat.le_refl _), Nat.sub_self] at hy
    exact g4 y (by rw [← hy]; cases post <;> rfl))
  rw [Nat.zero_add] at w
  refine ⟨t1 (t3 r (.val (.int ((pre.length : Nat) : Int)))) (.own ((pre ++ p :: post).map eV)), ?_, rfl, by simp; lia⟩
  have b1 : Nat.ble pre.length ((pre ++ post).map eV).length = true := Nat.ble_eq_true_of_le (by simp)
  have b2 : Nat.blt ((pre ++ post).map eV).length LL = true := Nat.ble_eq_true_of_le (by simp only [List.length_map, List.length_append, LL] at *; lia)
  have tk : ((pre ++ post).map eV).take pre.length = pre.map eV := by rw [List.map_append, List.take_left' (by simp)]
  have dk : ((pre ++ post).map eV).drop pre.length = post.map eV := by rw [List.map_append, List.drop_left' (by simp)]
  have iv : insV t1 (t3 r (.val (.int ((pre.length : Nat) : Int)))) ((pre ++ post).map eV) (eV p) ((pre.length : Nat) : Int) = some (.next, t1 (t3 r (.val (.int ((pre.length : Nat) : Int)))) (.own ((pre ++ p :: post).map eV))) := by
    show (bif PV.ok (eV p) && (Nat.ble pre.length ((pre ++ post).map eV).length && Nat.blt ((pre ++ post).map eV).length LL) then some (Fl.next, t1 _ (.own (((pre ++ post).map eV).take pre.length ++ eV p :: ((pre ++ post).map eV).drop pre.length))) else none) = _
    rw [b1, b2, tk, dk]
    simp [PV.ok]
  have w' : q_whl siC siB 1000 (t3 r (.val (.int 0))) = some (.next, t3 r (.val (.int ((pre.length : Nat) : Int)))) := w
  have q1 : q_ins R.s1 t1 (k_var R.s3) (k_var R.s2) (t3 r (.val (.int ((pre.length : Nat) : Int)))) = some (.next, t1 (t3 r (.val (.int ((pre.length : Nat) : Int)))) (.own ((pre ++ p :: post).map eV))) := by
    have a1 : (t3 r (.val (.int ((pre.length : Nat) : Int)))).s1 = .own ((pre ++ post).map eV) := h1
    have a2 : (t3 r (.val (.int ((pre.length : Nat) : Int)))).s2 = .val (eV p) := h2
    have a3 : (t3 r (.val (.int ((pre.length : Nat) : Int)))).s3 = .val (.int ((pre.length : Nat) : Int)) := rfl
    simp only [q_ins, k_var, slV_v, a1, a2, a3, iv]
  show q_then (qS (q_ins R.s1 t1 (k_var R.s3) (k_var R.s2)) qK) (q_whl siC siB 1000 (t3 r (.val (.int 0)))) = _
  rw [w']
  show q_then qK (q_ins R.s1 t1 (k_var R.s3) (k_var R.s2) (t3 r (.val (.int ((pre.length : Nat) : Int))))) = _
  rw [q1]; rfl
set_option tactic.hygienic true in
theorem si_go : ∀ (l acc res : List Iv) (r : R), sortI l acc = some res → acc.length + l.length ≤ 400 → r.s1 = .own (acc.map eV) → ∃ r', q_go (g1 t2) siS (l.map eV) r = some (.next, r') ∧ r'.s1 = .own (res.map eV)
  | [], acc, res, r, h, _, h1 => by cases h; exact ⟨r, rfl, h1⟩
  | p :: l, acc, res, r, h, hl, h1 => by
    simp only [sortI_e1, sortI_e2] at h
    split at h
    · cases h
    rename_i a ha
    simp only [List.length_cons] at hl
    obtain ⟨r1, e1, e2, e3⟩ := si_step ha (by lia) (t2 r (.val (eV p))) h1 rfl
    obtain ⟨r', q1, q2⟩ := si_go l a res r1 h (by lia) e2
    refine ⟨r', ?_, q2⟩
    show q_then (q_go (g1 t2) siS (l.map eV)) (siS (t2 r (.val (eV p)))) = _
    rw [e1]; exact q1
theorem L_sortI {l res : List Iv} (hl : l.length ≤ 400) (h : sortI l [] = some res) : n_sorted_intervals [.lst (l.map eV)] = some (.lst (res.map eV)) := by
  obtain ⟨r', q1, q2⟩ := si_go l [] res ⟨.val (.lst (l.map eV)), .own [], .un, .un, .un, .un, .un, .un, .un, .un⟩ h (by simpa using hl) rfl
  have e : n_sorted_intervals [.lst (l.map eV)] = fin (q_then (qS (q_frz R.s1 t1 (qR (k_var R.s1))) qK) (q_go (g1 t2) siS (l.map eV) ⟨.val (.lst (l.map eV)), .own [], .un, .un, .un, .un, .un, .un, .un, .un⟩)) := rfl
  rw [e, q1]
  simp only [qS, th_n, th_r, qR, k_var, slV_v, t1, fin_r, q_frz, fz, q2]
end Mine.Internal
namespace Mine.Internal
noncomputable def isE : K := (k_ite (o2 w_gt (k_call n_zdegree (kC (k_var R.s1) kN)) (kL 0)) (k_call n_split_roots (kC (k_var R.s1) kN)) (kC (k_lst kN) (kC k_non kN)))
noncomputable def isU : S := q_unp isE (st_c t3 (st_c t4 st_n))
noncomputable def isC : K := k_notNone (k_var R.s4)
noncomputable def jB' : S := (qS (q_app R.s2 t2 (k_var R.s4)) (qS (qA t1 (k_call n_zexact (kC (k_var R.s1) (kC (k_call n_linear_of (kC (k_var R.s4) kN)) kN)))) (qS isU qK)))
noncomputable def stp (left : List Int) : Option (List Iv × Option Q) := match left with | _ :: _ :: _ => msplit left | _ => some ([], none)
theorem isE_ok {left : List Int} {fd : List Iv} {ex : Option Q} (hl : left.length ≤ 200) (h : stp left = some (fd, ex)) (r : R) (h1 : r.s1 = .val (eP left)) :
    isU r = some (.next, t4 (t3 r (.val (.lst (fd.map eV)))) (.val (eX ex))) := by
  have f0 : fit [] = some (.lst []) := rfl
  have hE : isE r = some (.tup [.lst (fd.map eV), eX ex]) := by
    unfold isE
    rcases left with _ | ⟨x, _ | ⟨y, l⟩⟩
    · cases h
      have e0 : ltB 0 ((([] : List Int).length : Nat) - 1 : Int) = false := rfl
      simp only [k_ite, o2, ox_s, k_call, kC, kN, k_var, slV_v, h1, jT, cV_n, cV_l, kL, k_lst, f0, k_non, List.map_nil]
      rfl
    · cases h
      have e0 : ltB 0 ((([x] : List Int).length : Nat) - 1 : Int) = false := rfl
      simp only [k_ite, o2, ox_s, k_call, kC, kN, k_var, slV_v, h1, jT, cV_n, cV_l, L_zdegree, kL, wGt, e0, someB_eq, jB, cond_false, k_lst, f0, k_non, List.map_nil]
      rfl
    · have e0 : ltB 0 (((x :: y :: l).length : Nat) - 1 : Int) = true := by rw [ltB_eq]; exact decide_eq_true (by simp only [List.length_cons]; lia)
      have c := L_split hl (by simp) h
      simp only [k_ite, o2, ox_s, k_call, kC, kN, k_var, slV_v, h1, jT, cV_l, L_zdegree, kL, wGt, e0, someB_eq, jB, cond_true, c]
  unfold isU
  simp only [q_unp, hE, unp_t, List.map_cons, List.map_nil, stc_s, stn_n, nx_s]
set_option tactic.hygienic true in
theorem is_go : ∀ (n m : Nat) (left : List Int) (exact' : List Q) (res : List Int × List Q × List Iv) (r : R), isolGo n left exact' = some res → n ≤ m → left.length ≤ 200 → exact'.length + n ≤ 400 → r.s1 = .val (eP left) → r.s2 = .own (exact'.map eQ) →
    ∃ r', q_then (q_whl isC jB' m) (isU r) = some (.next, r') ∧ r'.s1 = .val (eP res.1) ∧ r'.s2 = .own (res.2.1.map eQ) ∧ r'.s3 = .val (.lst (res.2.2.map eV)) ∧ res.1.length ≤ 200 ∧ res.2.1.length ≤ exact'.length + n ∧ res.2.2.length ≤ 300 := by
  intro n
  induction n with
  | zero => intro m left exact' res r h; cases h
  | succ n ih =>
    intro m left exact' res r h hm hl he h1 h2
    obtain ⟨m, rfl⟩ : ∃ q, m = q + 1 := ⟨m - 1, by lia⟩
    have fin0 : ∀ (fd : List Iv), stp left = some (fd, none) → res = (left, exact', fd) →
        ∃ r', q_then (q_whl isC jB' (m + 1)) (isU r) = some (.next, r') ∧ r'.s1 = .val (eP res.1) ∧ r'.s2 = .own (res.2.1.map eQ) ∧ r'.s3 = .val (.lst (res.2.2.map eV)) ∧ res.1.length ≤ 200 ∧ res.2.1.length ≤ exact'.length + (n + 1) ∧ res.2.2.length ≤ 300 := fun fd hfd hres => by
      subst hres
      have hU := isE_ok hl hfd r h1
      refine ⟨t4 (t3 r (.val (.lst (fd.map eV)))) (.val (eX none)), ?_, h1, h2, rfl, hl, by simp only; lia, ?_⟩
      rotate_left
      · rcases left with _ | ⟨x0, _ | ⟨y0, l0⟩⟩
        · cases hfd; exact Nat.zero_le _
        · cases hfd; exact Nat.zero_le _
        · exact msplit_len hfd
      rw [hU]
      have hc : isC (t4 (t3 r (.val (.lst (fd.map eV)))) (.val (eX none))) = some (.bool false) := rfl
      simp only [th_n, q_whl_e1, q_whl_e2, hc, tst0]
    rcases left with _ | ⟨x0, _ | ⟨y0, l0⟩⟩
    · cases h; exact fin0 [] rfl rfl
    · cases h; exact fin0 [] rfl rfl
    · simp only [isolGo_e1, isolGo_e2] at h
      split at h
      · cases h
      · rename_i fd hfd
        cases h
        exact fin0 fd hfd rfl
      · rename_i fd x hfd
        split at h
        · rename_i l hex
          obtain ⟨c1, c2⟩ := L_zexact (b := [ineg x.1, x.2]) hl (by simp) hex
          have hU := isE_ok hl (ex := some x) hfd r h1
          have hc : isC (t4 (t3 r (.val (.lst (fd.map eV)))) (.val (eX (some x)))) = some (.bool true) := rfl
          have hb : Nat.blt exact'.length LL = true := Nat.ble_eq_true_of_le (by simp only [LL]; lia)
          obtain ⟨r', q1, q2⟩ := ih m l (exact' ++ [x]) res (t1 (t2 (t4 (t3 r (.val (.lst (fd.map eV)))) (.val (eX (some x)))) (.own ((exact' ++ [x]).map eQ))) (.val (eP l))) h (by lia) (Nat.le_trans (c2 _ rfl) hl) (by simp only [List.length_append, List.length_singleton]; lia) rfl rfl
          obtain ⟨p1, p2, p3, p4, p5, p6⟩ := q2
          refine ⟨r', ?_, p1, p2, p3, p4, by simp only [List.length_append, List.length_singleton] at p5; lia, p6⟩
          rw [hU]
          have hB : jB' (t4 (t3 r (.val (.lst (fd.map eV)))) (.val (eX (some x)))) = q_then qK (isU (t1 (t2 (t4 (t3 r (.val (.lst (fd.map eV)))) (.val (eX (some x)))) (.own ((exact' ++ [x]).map eQ))) (.val (eP l)))) := by
            unfold jB'
            rw [List.map_append]
            simp only [qS, q_app, t4, t3, h1, h2, k_var, slV_v, eX, PV.ok, List.length_map, hb, Bool.and_true, cond_true, th_n, t2, qA, asgV_l, k_call, kC, kN, ox_s, jT, cV_t, cV_l, L_linear, c1, eO, t1]
            rfl
          simp only [th_n, q_whl_e1, q_whl_e2, hc, tst1] at q1 ⊢
          rw [hB]
          cases hu : isU (t1 (t2 (t4 (t3 r (.val (.lst (fd.map eV)))) (.val (eX (some x)))) (.own ((exact' ++ [x]).map eQ))) (.val (eP l))) with
          | none => rw [hu] at q1; cases q1
          | some u =>
            rw [hu] at q1
            obtain ⟨fl, r2⟩ := u
            cases fl with
            | next => exact q1
            | ret v => cases q1
        · cases h
end Mine.Internal
namespace Mine.Internal
theorem kgo_pairs {base : R} : ∀ (l : List Q), kgo (g1 t6) (kC (k_var R.s6) (kC (k_var R.s6) kN)) base (l.map eQ) = some ((l.map fun x => ((x, x) : Iv)).map eV)
  | [] => rfl
  | x :: l => by
    have ih := kgo_pairs (base := base) l
    simp only [List.map_cons, kgo_e1, kgo_e2, g1, ih]
    rfl
set_option tactic.hygienic true in
theorem kgo_kept {base : R} {f : List Int} {nums : List Q} (hb1 : base.s1 = .val (eP f)) (hb2 : base.s2 = .val (.lst (nums.map eQ))) (hn : nums.length ≤ 400) : ∀ (l ks : List Iv), keptAll f nums l = some ks →
    kgo (g1 t7) (k_call n_kept_off (kC (k_var R.s1) (kC (k_var R.s7) (kC (k_var R.s2) kN)))) base (l.map eV) = some (ks.map eV) ∧ ks.length = l.length
  | [], ks, h => by cases h; exact ⟨rfl, rfl⟩
  | iv :: l, ks, h => by
    simp only [keptAll_e1, keptAll_e2] at h
    split at h
    · cases h
    rename_i a ha
    split at h
    · cases h
    rename_i r hr
    cases h
    obtain ⟨e1, e2⟩ := kgo_kept hb1 hb2 hn l r hr
    have c := L_kept hn ha
    have e : k_call n_kept_off (kC (k_var R.s1) (kC (k_var R.s7) (kC (k_var R.s2) kN))) (t7 base (.val (eV iv))) = some (eV a) := by simp only [ox_s, jT, k_call, kC, kN, k_var, slV_v, cV_t, cV_l, t7, hb1, hb2, c]
    refine ⟨?_, by simp [e2]⟩
    simp only [List.map_cons, kgo_e1, kgo_e2, g1, e, e1]
set_option tactic.hygienic true in
theorem sortI_len : ∀ (l acc res : List Iv), sortI l acc = some res → res.length = acc.length + l.length
  | [], acc, res, h => by cases h; rfl
  | p :: l, acc, res, h => by
    simp only [sortI_e1, sortI_e2] at h
    split at h
    · cases h
    rename_i a ha
    obtain ⟨pre, post, g1', g2', _, _⟩ := insI_some _ _ _ ha
    have := sortI_len l a res h
    rw [this, g2', g1']
    simp only [List.length_append, List.length_cons]; lia
set_option tactic.hygienic true in
theorem L_isolate {f : List Int} {res : List Iv} (hf : f.length ≤ 200) (h : misolate f = some res) : n_isolate [eP f] = some (.lst (res.map eV)) ∧ res.length ≤ 400 := by
  have hne : f ≠ [] := by rintro rfl; cases h
  have h' : (match msimple f with
    | none => none
    | some left => match isolGo 20 left [] with
      | none => none
      | some (left, exact, found) => match keptAll left exact found with
        | none => none
        | some ks => sortI (exact.map (fun x => (x, x)) ++ ks) []) = some res := by
    cases f with
    | nil => exact absurd rfl hne
    | cons x f => exact h
  clear h
  split at h'
  · cases h'
  rename_i left hleft
  split at h'
  · cases h'
  rename_i lf exact' found hiso
  split at h'
  · cases h'
  rename_i ks hks
  obtain ⟨cS, cL⟩ := L_simple hf hleft
  obtain ⟨r', q1, p1, p2, p3, p4, p5, p6⟩ := is_go 20 1000 left [] (lf, exact', found) ⟨.val (eP f), .val (eP left), .own [], .un, .un, .un, .un, .un, .un, .un⟩ hiso (by decide) cL (by decide) rfl rfl
  simp only [List.length_nil] at p1 p2 p3 p4 p5 p6
  obtain ⟨_, lk⟩ := kgo_kept (base := ⟨.un, .val (eP lf), .val (.lst (exact'.map eQ)), .un, .un, .un, .un, .un, .un, .un⟩) rfl rfl (by lia) found ks hks
  have cI := L_sortI (l := exact'.map (fun x => ((x, x) : Iv)) ++ ks) (by simp only [List.length_append, List.length_map]; lia) h'
  have f0 : fit [] = some (.lst []) := rfl
  have b1 : Nat.ble (exact'.length) LL = true := ble_LL (by lia)
  have b2 : Nat.ble (found.length) LL = true := ble_LL (by lia)
  have fa : v_add (.lst ((exact'.map fun x => ((x, x) : Iv)).map eV)) (.lst (ks.map eV)) = some (.lst ((exact'.map (fun x => ((x, x) : Iv)) ++ ks).map eV)) := by
    show fit (_ ++ _) = _
    rw [← List.map_append]
    exact if_pos (by simp only [List.length_append, List.length_map, LL]; lia)
  have e0 : w_ne (eP f) (.lst []) = some (.bool true) := by cases f with | nil => exact absurd rfl hne | cons x f => rfl
  have e1 : w_eq (eP f) (.lst []) = some (.bool false) := by cases f with | nil => exact absurd rfl hne | cons x f => rfl
  have e : n_isolate [eP f] = fin (q_then (qS (q_frz R.s2 t2 (qA t5 (o2 v_add (k_comp (g1 t6) (c1 t6) (kC (k_var R.s6) (kC (k_var R.s6) kN)) (k_var R.s2)) (k_comp (g1 t7) (c1 t7) (k_call n_kept_off (kC (k_var R.s1) (kC (k_var R.s7) (kC (k_var R.s2) kN)))) (k_var R.s3))))) (qS (qR (k_call n_sorted_intervals (kC (k_var R.s5) kN))) qK)) (q_then (q_whl isC jB' 1000) (isU ⟨.val (eP f), .val (eP left), .own [], .un, .un, .un, .un, .un, .un, .un⟩))) := by
    unfold n_isolate a1 h_isolate
    have hif : (qI (o2 w_eq (kP R.s0) (k_lst kN)) (qS q_bad qK) qK) ⟨.val (eP f), .un, .un, .un, .un, .un, .un, .un, .un, .un⟩ = some (.next, ⟨.val (eP f), .un, .un, .un, .un, .un, .un, .un, .un, .un⟩) := by
      simp only [qI, o2, ox_s, kP, slP_v, k_lst, kN, jT, f0, e1, tst0, qK, qS]
    have hat : (qT (n_val (k_call n_simple_part (kC (k_var R.s0) kN)) (n_own (k_lst kN) n_nil)) (st_c t1 (st_c t2 st_n))) ⟨.val (eP f), .un, .un, .un, .un, .un, .un, .un, .un, .un⟩ = some (.next, ⟨.val (eP f), .val (eP left), .own [], .un, .un, .un, .un, .un, .un, .un⟩) := by
      simp only [qT, aTV_s, n_val, n_own, n_nil, k_call, kC, kN, k_var, slV_v, ox_s, jT, cV_l, cS, k_lst, f0, stc_s, stn_n, nx_s, t1, t2]
    show fin (q_then _ ((qI (o2 w_eq (kP R.s0) (k_lst kN)) (qS q_bad qK) qK) ⟨.val (eP f), .un, .un, .un, .un, .un, .un, .un, .un, .un⟩)) = _
    rw [hif]
    show fin (q_then _ ((qT (n_val (k_call n_simple_part (kC (k_var R.s0) kN)) (n_own (k_lst kN) n_nil)) (st_c t1 (st_c t2 st_n))) ⟨.val (eP f), .un, .un, .un, .un, .un, .un, .un, .un, .un⟩)) = _
    rw [hat]
    show fin (q_then _ (isU _)) = _
    cases hu : isU ⟨.val (eP f), .val (eP left), .own [], .un, .un, .un, .un, .un, .un, .un⟩ with
    | none => rfl
    | some u =>
      obtain ⟨fl, r2⟩ := u
      cases fl with
      | next => rfl
      | ret v => rw [hu] at q1; cases q1
  refine ⟨?_, by have := sortI_len _ _ _ h'; simp only [List.length_append, List.length_map, List.length_nil] at this; lia⟩
  rw [e, q1]
  have k1 := (kgo_kept (base := c1 t7 (hideR (t2 r' (.val (.lst (exact'.map eQ)))))) (by simp only [c1, hideR, t7, t2, p1, hs_v]) (by simp only [c1, hideR, t7, t2, hs_v]) (by lia) found ks hks).1
  simp only [th_n, qS, q_frz, fz, p2, qA, o2, ox_s, k_comp, k_var, slV_v, jM1, List.length_map, b1, b2, cond_true, kgo_pairs, lstO', t2, p3]
  simp only [t2, p3] at k1
  simp only [k1, fa, asgV_l, t5, qR, k_call, kC, kN, k_var, slV_v, ox_s, jT, cV_l, cI, fin_r, th_n, th_r, qS]
end Mine.Internal
namespace Mine.Internal
noncomputable def rfC : K := o2 w_gt (k_call n_rcompare (kC (k_call n_rsub (kC (kI (kP R.s1) (kL 1)) (kC (kI (kP R.s1) (kL 0)) kN))) (kC (k_var R.s2) kN))) (kL 0)
noncomputable def rfB : S := qS (qA t1 (k_call n_halved (kC (k_var R.s3) (kC (k_var R.s1) kN)))) qK
set_option tactic.hygienic true in
theorem rf_go (left : List Int) (width : Q) : ∀ (n m : Nat) (iv res : Iv) (r : R), refineGo left width n iv = some res → n ≤ m → r.s1 = .val (eV iv) → r.s2 = .val (eQ width) → r.s3 = .val (eP left) →
    ∃ r', q_whl rfC rfB m r = some (.next, r') ∧ r'.s1 = .val (eV res) := by
  intro n
  induction n with
  | zero => intro m iv res r h; cases h
  | succ n ih =>
    intro m iv res r h hm h1 h2 h3
    obtain ⟨m, rfl⟩ : ∃ q, m = q + 1 := ⟨m - 1, by lia⟩
    simp only [refineGo_e1, refineGo_e2] at h
    split at h
    · cases h
    rename_i d hd
    split at h
    · cases h
    rename_i c hc
    have d1 := L_rsub hd
    have d2 := L_rcompare hc
    have hC : rfC r = some (.bool (ltB 0 c)) := by
      unfold rfC
      simp only [o2, ox_s, k_call, kC, kN, kI, kP, slP_v, h1, kL, jI, iV_t, pidxF, List.getElem?_cons_zero, List.getElem?_cons_succ, jT, cV_t, d1, k_var, slV_v, h2, d2, wGt, someB_eq]
    rcases ble_bif h with ⟨e1, h5⟩ | ⟨e1, h5⟩
    · split at h5
      · cases h5
      rename_i iv' hiv
      have c1' := L_halved hiv
      have body : rfB r = some (.next, t1 r (.val (eV iv'))) := by
        unfold rfB
        simp only [qS, th_n, qK, qA, asgV_t, k_call, kC, kN, k_var, slV_v, h1, h3, ox_s, jT, cV_t, cV_l, c1']
      obtain ⟨r', q1, q2⟩ := ih m iv' res (t1 r (.val (eV iv'))) h5 (by lia) rfl h2 h3
      exact ⟨r', by simp only [q_whl_e1, q_whl_e2, hC, e1, tst1, body, th_n]; exact q1, q2⟩
    · cases h5
      exact ⟨r, by simp only [q_whl_e1, q_whl_e2, hC, e1, tst0], h1⟩
set_option tactic.hygienic true in
theorem L_refine {f left : List Int} {iv r : Iv} {width : Q} (hf : f.length ≤ 200) (hl : msimple f = some left) (h : mrefine left iv width = some r) : n_refine [eP f, eV iv, eQ width] = some (eV r) := by
  unfold mrefine at h
  split at h
  · cases h
  rename_i c hc
  rcases ble_bif h with ⟨e1, h5⟩ | ⟨_, h5⟩
  · have d1 := L_rcompare hc
    obtain ⟨cS, _⟩ := L_simple hf hl
    obtain ⟨r', q1, q2⟩ := rf_go left width 900 1000 iv r ⟨.val (eP f), .val (eV iv), .val (eQ width), .val (eP left), .un, .un, .un, .un, .un, .un⟩ h5 (by decide) rfl rfl rfl
    have er : glv Gl.r0 = eQ (0, 1) := rfl
    have hif : (qI (o2 w_le (k_call n_rcompare (kC (k_var R.s2) (kC (k_glb .r0) kN))) (kL 0)) (qS q_bad qK) qK) ⟨.val (eP f), .val (eV iv), .val (eQ width), .un, .un, .un, .un, .un, .un, .un⟩ = some (.next, ⟨.val (eP f), .val (eV iv), .val (eQ width), .un, .un, .un, .un, .un, .un, .un⟩) := by
      simp only [qI, o2, ox_s, k_call, kC, kN, k_var, slV_v, k_glb, er, jT, cV_t, d1, kL, wLe, e1, Bool.not_true, someB_eq, tst0, qK, qS]
    have has : (qA t3 (k_call n_simple_part (kC (k_var R.s0) kN))) ⟨.val (eP f), .val (eV iv), .val (eQ width), .un, .un, .un, .un, .un, .un, .un⟩ = some (.next, ⟨.val (eP f), .val (eV iv), .val (eQ width), .val (eP left), .un, .un, .un, .un, .un, .un⟩) := by
      simp only [qA, asgV_l, k_call, kC, kN, k_var, slV_v, ox_s, jT, cV_l, cS, t3]
    unfold n_refine a3 h_refine
    show fin (q_then _ ((qI (o2 w_le (k_call n_rcompare (kC (k_var R.s2) (kC (k_glb .r0) kN))) (kL 0)) (qS q_bad qK) qK) ⟨.val (eP f), .val (eV iv), .val (eQ width), .un, .un, .un, .un, .un, .un, .un⟩)) = _
    rw [hif]
    show fin (q_then _ ((qA t3 (k_call n_simple_part (kC (k_var R.s0) kN))) ⟨.val (eP f), .val (eV iv), .val (eQ width), .un, .un, .un, .un, .un, .un, .un⟩)) = _
    rw [has]
    show fin (q_then (qS (qR (k_var R.s1)) qK) (q_whl rfC rfB 1000 ⟨.val (eP f), .val (eV iv), .val (eQ width), .val (eP left), .un, .un, .un, .un, .un, .un⟩)) = _
    rw [q1]
    simp only [qS, th_n, th_r, qR, k_var, slV_v, fin_r, q2]
  · cases h5
end Mine.Internal
namespace Mine.Internal
noncomputable def trS : S := (qS (qA t4 (kI (k_call n_refine (kC (k_var R.s0) (kC (k_var R.s3) (kC (kC (kL 1) (kC (o2 v_mul (kL 2) (k_var R.s2)) kN)) kN)))) (kL 1))) (qS (q_app R.s1 t1 (k_call n_rat (kC (k_call n_rfloor (kC (k_call n_rmul (kC (k_var R.s4) (kC (kC (k_var R.s2) (kC (kL 1) kN)) kN))) kN)) (kC (k_var R.s2) kN)))) qK))
set_option tactic.hygienic true in
theorem tr_go {f left : List Int} {lead : Int} (hf : f.length ≤ 200) (hl : msimple f = some left) : ∀ (l : List Iv) (qs acc : List Q) (r : R), triedGo left lead l = some qs → acc.length + l.length ≤ 400 → r.s0 = .val (eP f) → r.s1 = .own (acc.map eQ) → r.s2 = .val (.int lead) →
    ∃ r', q_go (g1 t3) trS (l.map eV) r = some (.next, r') ∧ r'.s1 = .own ((acc ++ qs).map eQ)
  | [], qs, acc, r, h, _, h0, h1, h2 => by cases h; exact ⟨r, rfl, by rw [List.append_nil]; exact h1⟩
  | iv :: l, qs, acc, r, h, hn, h0, h1, h2 => by
    simp only [triedGo_e1, triedGo_e2] at h
    obtain ⟨d1, h⟩ := mulK_some h
    split at h
    · cases h
    rename_i iv' hiv
    split at h
    · cases h
    rename_i p hp
    split at h
    · cases h
    rename_i fl hfl
    split at h
    · cases h
    rename_i q hq
    split at h
    · cases h
    rename_i qs' hqs
    cases h
    simp only [List.length_cons] at hn
    have c1' := L_refine hf hl hiv
    have c2' := L_rmul hp
    have c3' := L_rfloor hfl
    have c4' := L_rat hq
    have hb : Nat.blt acc.length LL = true := Nat.ble_eq_true_of_le (by simp only [LL]; lia)
    have step : trS (t3 r (.val (eV iv))) = some (.next, t1 (t4 (t3 r (.val (eV iv))) (.val (eQ iv'.2))) (.own ((acc ++ [q]).map eQ))) := by
      unfold trS
      rw [List.map_append]
      simp only [qS, th_n, qA, asgV_t, kI, k_call, kC, kN, k_var, slV_v, kL, o2, ox_s, jI, jT, cV_i, cV_t, cV_l, t3, h0, h1, h2, d1, c1', iV_t, pidxF, List.getElem?_cons_zero, List.getElem?_cons_succ, t4, q_app, c2', c3', c4', PV.ok, List.length_map, hb, Bool.and_true, cond_true, qK]
      rfl
    obtain ⟨r', q1, q2⟩ := tr_go hf hl l qs' (acc ++ [q]) (t1 (t4 (t3 r (.val (eV iv))) (.val (eQ iv'.2))) (.own ((acc ++ [q]).map eQ))) hqs (by simp only [List.length_append, List.length_singleton]; lia) h0 rfl h2
    refine ⟨r', ?_, by rw [q2]; simp⟩
    show q_then (q_go (g1 t3) trS (l.map eV)) (trS (t3 r (.val (eV iv)))) = _
    rw [step]; exact q1
set_option tactic.hygienic true in
theorem L_tried {f : List Int} {qs : List Q} (hf : f.length ≤ 200) (h : mtried f = some qs) : n_tried_roots [eP f] = some (.lst (qs.map eQ)) := by
  rcases f with _ | ⟨c0, _ | ⟨c1', _ | ⟨c2', l⟩⟩⟩
  · cases h
  · cases h
  · simp only [mtried] at h
    split at h
    · rename_i q hq
      cases h
      rw [ineg_eq] at hq
      have d := L_rat hq
      have e0 : eqB ((([c0, c1'] : List Int).length : Nat) - 1 : Int) 1 = true := rfl
      have f1 : fit [eQ q] = some (.lst [eQ q]) := rfl
      have dz : n_zdegree [.lst [.int c0, .int c1']] = some (.int ((([c0, c1'] : List Int).length : Nat) - 1 : Int)) := L_zdegree [c0, c1']
      unfold n_tried_roots a1 h_tried_roots
      simp only [qS, th_r, qI, tst1, qK, qR, o2, ox_s, kP, slP_v, kL, wEq, jI, jT, someB_eq, k_call, kC, kN, k_var, slV_v, cV_i, cV_t, cV_l, kI, iV_l, pidxF, k_neg, mkI_eq, List.getElem?_cons_zero, List.getElem?_cons_succ, fin_r, dz, e0, List.map_cons, List.map_nil, d, k_lst, f1]
    · cases h
  · generalize hF : c0 :: c1' :: c2' :: l = F at *
    have h' : (bif Nat.ble (max c0.natAbs (mlead F).natAbs) 10000000000 then none
        else match misolate F with
          | none => none
          | some ivs => match msimple F with
            | none => none
            | some left => triedGo left (mlead F).natAbs ivs) = some qs := by rw [← hF]; rw [← hF] at h; exact h
    clear h
    have hlen : 3 ≤ F.length := by rw [← hF]; simp
    rcases ble_bif h' with ⟨_, h5⟩ | ⟨e1, h5⟩
    · cases h5
    split at h5
    · cases h5
    rename_i ivs hivs
    split at h5
    · cases h5
    rename_i left hleft
    obtain ⟨cI, cL⟩ := L_isolate hf hivs
    obtain ⟨r', q1, q2⟩ := tr_go hf hleft ivs qs [] ⟨.val (eP F), .own [], .val (.int ((mlead F).natAbs : Nat)), .un, .un, .un, .un, .un, .un, .un⟩ h5 (by simpa using cL) rfl rfl rfl
    have e0 : eqB ((F.length : Nat) - 1 : Int) 1 = false := by rw [eqB_eq]; exact decide_eq_false (by lia)
    have e2 : ltB ((F.length : Nat) - 1 : Int) 1 = false := by rw [ltB_eq]; exact decide_eq_false (by lia)
    have p0 : pidxF (F.map PV.int) 0 = some (.int c0) := by rw [← hF]; rfl
    have pl := pidxF_last (l := F) (by rw [← hF]; simp)
    have kb : ∀ (x : K) (r : R) (i : Int), x r = some (.int i) → k_abs x r = some (.int ((i.natAbs : Nat) : Int)) := fun x r i hx => by
      unfold k_abs; rw [hx]; cases i <;> rfl
    have gm : glv Gl.most = .int ((10000000000 : Nat) : Int) := rfl
    have wle : w_le (.int ((max c0.natAbs (mlead F).natAbs : Nat) : Int)) (.int ((10000000000 : Nat) : Int)) = some (.bool false) := by
      show someB (!ltB ((10000000000 : Nat) : Int) ((max c0.natAbs (mlead F).natAbs : Nat) : Int)) = _
      rw [ltB_nat, someB_eq]
      have : Nat.blt 10000000000 (max c0.natAbs (mlead F).natAbs) = true := Nat.ble_eq_true_of_le (Nat.lt_of_not_le fun hh => by rw [Nat.ble_eq_true_of_le hh] at e1; cases e1)
      rw [this]; rfl
    have a0 : ∀ r : R, r.s0 = .val (eP F) → k_abs (kI (kP R.s0) (kL 0)) r = some (.int ((c0.natAbs : Nat) : Int)) := fun r hr => kb _ _ _ (by simp only [kI, ox_s, kP, slP_v, hr, kL, jI, iV_l, p0])
    have al : ∀ r : R, r.s0 = .val (eP F) → k_abs (kI (kP R.s0) (k_neg (kL 1))) r = some (.int (((mlead F).natAbs : Nat) : Int)) := fun r hr => kb _ _ _ (by simp only [kI, ox_s, kP, slP_v, hr, k_neg, kL, jI, mkI_eq, iV_l, pl])
    have f0 : fit [] = some (.lst []) := rfl
    unfold trS at q1
    unfold n_tried_roots a1 h_tried_roots
    simp only [qS, th_n, qI, tst0, qK, o2, ox_s, k_call, kC, kN, k_var, slV_v, jT, cV_l, L_zdegree, kL, wEq, wLt, e0, e2, someB_eq, k_or, jB, cond_false, a0, al, max2_nat, k_glb, gm, wle, qT, aTV_s, n_own, n_val, n_nil, k_lst, f0, stc_s, stn_n, nx_s, t1, t2, q_for, cI, its_l]
    rw [q1]
    simp only [qS, th_n, th_r, qR, k_var, slV_v, t1, fin_r, q_frz, fz, q2, List.nil_append]
end Mine.Internal
namespace Mine.Internal
noncomputable abbrev eR (e : Q × Int) : PV := .tup [eQ e.1, .int e.2]
set_option tactic.hygienic true in
theorem insR_some : ∀ (acc res : List (Q × Int)) (p : Q × Int), insR p acc = some res → ∃ pre post : List (Q × Int), acc = pre ++ post ∧ res = pre ++ p :: post ∧ (∀ y ∈ pre, ∃ c, mrcompare y.1 p.1 = some c ∧ isN c = true) ∧ (∀ y, post.head? = some y → ∃ c, mrcompare y.1 p.1 = some c ∧ isN c = false)
  | [], res, p, h => by cases h; exact ⟨[], [], rfl, rfl, (fun o0 h => by cases h), (fun o0 h => by cases h)⟩
  | y :: acc, res, p, h => by
    simp only [insR_e1, insR_e2] at h
    split at h
    · cases h
    rename_i c hc
    rcases ble_bif h with ⟨e1, h2⟩ | ⟨e1, h2⟩
    · split at h2
      · cases h2
      rename_i l hl
      cases h2
      obtain ⟨pre, post, g1, g2, g3, g4⟩ := insR_some acc l p hl
      refine ⟨y :: pre, post, by rw [g1]; rfl, by rw [g2]; rfl, fun z hz => ?_, g4⟩
      rcases List.mem_cons.mp hz with rfl | hz
      · exact ⟨c, hc, e1⟩
      · exact g3 z hz
    · cases h2
      exact ⟨[], y :: acc, rfl, rfl, fun o0 h => (by cases h), (fun z hz => by cases hz; exact ⟨c, hc, e1⟩)⟩
noncomputable def srtC : K := k_and (o2 w_lt (kP R.s3) (k_len (kP R.s1))) (o2 w_lt (k_call n_rcompare (kC (kI (kI (kP R.s1) (k_var R.s3)) (kL 0)) (kC (kI (kP R.s2) (kL 0)) kN))) (kL 0))
noncomputable def srtB : S := qS (q_aug R.s3 t3 v_add (kL 1)) qK
theorem idx_eR {acc : List (Q × Int)} {k : Nat} (h : k < acc.length) : pidxF (acc.map eR) ((k : Nat) : Int) = some (eR acc[k]) := by
  show (acc.map eR)[k]? = _
  rw [List.getElem?_map, List.getElem?_eq_getElem h]; rfl
theorem srt_walk (acc : List (Q × Int)) (p : Q × Int) : ∀ (j k m : Nat) (r : R), j + k ≤ acc.length → j < m → r.s1 = .own (acc.map eR) → r.s2 = .val (eR p) → r.s3 = .val (.int ((k : Nat) : Int)) →
    (∀ i, k ≤ i → i < k + j → ∃ c, (acc[i]?).bind (fun y => mrcompare y.1 p.1) = some c ∧ isN c = true) → (∀ y, acc[k + j]? = some y → ∃ c, mrcompare y.1 p.1 = some c ∧ isN c = false) →
    q_whl srtC srtB m r = some (.next, t3 r (.val (.int ((k + j : Nat) : Int)))) := by
  intro j
  induction j with
  | zero =>
    intro k m r hle hm h1 h2 h3 _ hstop
    obtain ⟨m, rfl⟩ : ∃ q, m = q + 1 := ⟨m - 1, by lia⟩
    have hr : t3 r (.val (.int ((k + 0 : Nat) : Int))) = r := by
      rw [Nat.add_zero, ← h3]; rfl
    rw [hr]
    have hc : srtC r = some (.bool false) := by
      unfold srtC
      by_cases hlt : k < acc.length
      · obtain ⟨c, c1, c2⟩ := hstop acc[k] (by rw [Nat.add_zero]; exact List.getElem?_eq_getElem hlt)
        have b1 : ltB ((k : Nat) : Int) ((acc.length : Nat) : Int) = true := by rw [ltB_eq]; exact decide_eq_true (by lia)
        have d1 := L_rcompare c1
        have d2 : ltB c 0 = false := by rw [ltB_eq, ← isN_eq]; exact c2
        have ix : (acc.map eR)[k]? = some (eR acc[k]) := idx_eR hlt
        simp only [k_and, o2, ox_s, kP, slP_v, slP_o, h1, h2, h3, k_len, jL, mkI_eq, List.length_map, wLt, jI, b1, someB_eq, jB, cond_true, k_call, kC, kN, kI, k_var, slV_v, iV_l, iV_t, ix, kL, pidxF, List.getElem?_cons_zero, jT, cV_t, d1, d2]
      · have b1 : ltB ((k : Nat) : Int) ((acc.length : Nat) : Int) = false := by rw [ltB_eq]; exact decide_eq_false (by lia)
        simp only [k_and, o2, ox_s, kP, slP_v, slP_o, h1, h3, k_len, jL, mkI_eq, List.length_map, wLt, b1, someB_eq, jB, cond_false]
    simp only [q_whl_e1, q_whl_e2, hc, tst0]
  | succ j ih =>
    intro k m r hle hm h1 h2 h3 hgo hstop
    obtain ⟨m, rfl⟩ : ∃ q, m = q + 1 := ⟨m - 1, by lia⟩
    have hlt : k < acc.length := by lia
    obtain ⟨c, c1, c2⟩ := hgo k (Nat.le_refl _) (by lia)
    rw [List.getElem?_eq_getElem hlt] at c1
    have hc : srtC r = some (.bool true) := by
      unfold srtC
      have b1 : ltB ((k : Nat) : Int) ((acc.length : Nat) : Int) = true := by rw [ltB_eq]; exact decide_eq_true (by lia)
      have d1 := L_rcompare (show mrcompare acc[k].1 p.1 = some c from c1)
      have d2 : ltB c 0 = true := by rw [ltB_eq, ← isN_eq]; exact c2
      have ix : (acc.map eR)[k]? = some (eR acc[k]) := idx_eR hlt
      simp only [k_and, o2, ox_s, kP, slP_v, slP_o, h1, h2, h3, k_len, jL, mkI_eq, List.length_map, wLt, jI, b1, someB_eq, jB, cond_true, k_call, kC, kN, kI, k_var, slV_v, iV_l, iV_t, ix, kL, pidxF, List.getElem?_cons_zero, jT, cV_t, d1, d2]
    have body : srtB r = some (.next, t3 r (.val (.int ((k + 1 : Nat) : Int)))) := by
      unfold srtB
      simp only [qS, th_n, qK, q_aug, h3, kL, v_add_int]
      rfl
    have := ih (k + 1) m (t3 r (.val (.int ((k + 1 : Nat) : Int)))) (by lia) (by lia) h1 h2 rfl (fun i hi hi' => hgo i (by lia) (by lia)) (fun y hy => hstop y (by rw [show k + (j + 1) = k + 1 + j by lia]; exact hy))
    simp only [q_whl_e1, q_whl_e2, hc, tst1, body, th_n]
    rw [this, show k + 1 + j = k + (j + 1) by lia]
    rfl
noncomputable def srtS : S := (qS (qA t3 (kL 0)) (qS (q_whl srtC srtB 1000) (qS (q_ins R.s1 t1 (k_var R.s3) (k_var R.s2)) qK)))
theorem srt_step {acc res : List (Q × Int)} {p : Q × Int} (h : insR p acc = some res) (hl : acc.length ≤ 400) (r : R) (h1 : r.s1 = .own (acc.map eR)) (h2 : r.s2 = .val (eR p)) :
    ∃ r', srtS r = some (.next, r') ∧ r'.s1 = .own (res.map eR) ∧ res.length = acc.length + 1 := by
  obtain ⟨pre, post, rfl, rfl, g3, g4⟩ := insR_some acc res p h
  have w := srt_walk (pre ++ post) p pre.length 0 1000 (t3 r (.val (.int 0))) (by simp) (by simp at hl; lia) h1 h2 rfl (fun i o0 hi => by
    have hi' : i < pre.length := by lia
    obtain ⟨c, c1, c2⟩ := g3 pre[i] (List.getElem_mem hi')
    refine ⟨c, ?_, c2⟩
    rw [List.getElem?_append_left hi', List.getElem?_eq_getElem hi']; exact c1) (fun y hy => by
    rw [Nat.zero_add, List.getElem?_append_right (Nat.le_refl _), Nat.sub_self] at hy
    exact g4 y (by rw [← hy]; cases post <;> rfl))
  rw [Nat.zero_add] at w
  refine ⟨t1 (t3 r (.val (.int ((pre.length : Nat) : Int)))) (.own ((pre ++ p :: post).map eR)), ?_, rfl, by simp; lia⟩
  have b1 : Nat.ble pre.length ((pre ++ post).map eR).length = true := Nat.ble_eq_true_of_le (by simp)
  have b2 : Nat.blt ((pre ++ post).map eR).length LL = true := Nat.ble_eq_true_of_le (by simp only [List.length_map, List.length_append, LL] at *; lia)
  have tk : ((pre ++ post).map eR).take pre.length = pre.map eR := by rw [List.map_append, List.take_left' (by simp)]
  have dk : ((pre ++ post).map eR).drop pre.length = post.map eR := by rw [List.map_append, List.drop_left' (by simp)]
  have iv : insV t1 (t3 r (.val (.int ((pre.length : Nat) : Int)))) ((pre ++ post).map eR) (eR p) ((pre.length : Nat) : Int) = some (.next, t1 (t3 r (.val (.int ((pre.length : Nat) : Int)))) (.own ((pre ++ p :: post).map eR))) := by
    show (bif PV.ok (eR p) && (Nat.ble pre.length ((pre ++ post).map eR).length && Nat.blt ((pre ++ post).map eR).length LL) then some (Fl.next, t1 _ (.own (((pre ++ post).map eR).take pre.length ++ eR p :: ((pre ++ post).map eR).drop pre.length))) else none) = _
    rw [b1, b2, tk, dk]
    simp [PV.ok]
  have w' : q_whl srtC srtB 1000 (t3 r (.val (.int 0))) = some (.next, t3 r (.val (.int ((pre.length : Nat) : Int)))) := w
  have q1 : q_ins R.s1 t1 (k_var R.s3) (k_var R.s2) (t3 r (.val (.int ((pre.length : Nat) : Int)))) = some (.next, t1 (t3 r (.val (.int ((pre.length : Nat) : Int)))) (.own ((pre ++ p :: post).map eR))) := by
    have a1 : (t3 r (.val (.int ((pre.length : Nat) : Int)))).s1 = .own ((pre ++ post).map eR) := h1
    have a2 : (t3 r (.val (.int ((pre.length : Nat) : Int)))).s2 = .val (eR p) := h2
    have a3 : (t3 r (.val (.int ((pre.length : Nat) : Int)))).s3 = .val (.int ((pre.length : Nat) : Int)) := rfl
    simp only [q_ins, k_var, slV_v, a1, a2, a3, iv]
  show q_then (qS (q_ins R.s1 t1 (k_var R.s3) (k_var R.s2)) qK) (q_whl srtC srtB 1000 (t3 r (.val (.int 0)))) = _
  rw [w']
  show q_then qK (q_ins R.s1 t1 (k_var R.s3) (k_var R.s2) (t3 r (.val (.int ((pre.length : Nat) : Int))))) = _
  rw [q1]; rfl
set_option tactic.hygienic true in
theorem srt_go : ∀ (l acc res : List (Q × Int)) (r : R), sortR l acc = some res → acc.length + l.length ≤ 400 → r.s1 = .own (acc.map eR) → ∃ r', q_go (g1 t2) srtS (l.map eR) r = some (.next, r') ∧ r'.s1 = .own (res.map eR)
  | [], acc, res, r, h, _, h1 => by cases h; exact ⟨r, rfl, h1⟩
  | p :: l, acc, res, r, h, hl, h1 => by
    simp only [sortR_e1, sortR_e2] at h
    split at h
    · cases h
    rename_i a ha
    simp only [List.length_cons] at hl
    obtain ⟨r1, e1, e2, e3⟩ := srt_step ha (by lia) (t2 r (.val (eR p))) h1 rfl
    obtain ⟨r', q1, q2⟩ := srt_go l a res r1 h (by lia) e2
    refine ⟨r', ?_, q2⟩
    show q_then (q_go (g1 t2) srtS (l.map eR)) (srtS (t2 r (.val (eR p)))) = _
    rw [e1]; exact q1
theorem L_sortR {l res : List (Q × Int)} (hl : l.length ≤ 400) (h : sortR l [] = some res) : n_sorted_roots [.lst (l.map eR)] = some (.lst (res.map eR)) := by
  obtain ⟨r', q1, q2⟩ := srt_go l [] res ⟨.val (.lst (l.map eR)), .own [], .un, .un, .un, .un, .un, .un, .un, .un⟩ h (by simpa using hl) rfl
  have e : n_sorted_roots [.lst (l.map eR)] = fin (q_then (qS (q_frz R.s1 t1 (qR (k_var R.s1))) qK) (q_go (g1 t2) srtS (l.map eR) ⟨.val (.lst (l.map eR)), .own [], .un, .un, .un, .un, .un, .un, .un, .un⟩)) := rfl
  rw [e, q1]
  simp only [qS, th_n, th_r, qR, k_var, slV_v, t1, fin_r, q_frz, fz, q2]
end Mine.Internal
namespace Mine.Internal
noncomputable def rrC : K := k_and (o2 w_gt (k_call n_zdegree (kC (k_var R.s1) kN)) (kL 0)) (o2 w_eq (k_call n_value_sign (kC (k_var R.s1) (kC (k_var R.s3) kN))) (kL 0))
noncomputable def rrB : S := (qS (qA t1 (k_call n_zexact (kC (k_var R.s1) (kC (k_call n_linear_of (kC (k_var R.s3) kN)) kN)))) (qS (q_aug R.s4 t4 v_add (kL 1)) qK))
set_option tactic.hygienic true in
theorem rr_go (x : Q) : ∀ (n m : Nat) (left : List Int) (many : Int) (res : List Int × Int) (r : R), rootGo x n left many = some res → n ≤ m → left.length ≤ 200 → r.s1 = .val (eP left) → r.s3 = .val (eQ x) → r.s4 = .val (.int many) →
    q_whl rrC rrB m r = some (.next, t4 (t1 r (.val (eP res.1))) (.val (.int res.2))) ∧ res.1.length ≤ 200 := by
  intro n
  induction n with
  | zero => intro m left many res r h; cases h
  | succ n ih =>
    intro m left many res r h hm hl h1 h3 h4
    obtain ⟨m, rfl⟩ : ∃ q, m = q + 1 := ⟨m - 1, by lia⟩
    have same : t4 (t1 r (.val (eP left))) (.val (.int many)) = r := by
      rw [← h1, ← h4]; rfl
    have stop : ∀ l : List Int, l.length ≤ 1 → ltB 0 ((l.length : Nat) - 1 : Int) = false := fun l hl => by rw [ltB_eq]; exact decide_eq_false (by lia)
    have low : left.length ≤ 1 → rrC r = some (.bool false) := fun hle => by
      unfold rrC
      simp only [k_and, o2, ox_s, k_call, kC, kN, k_var, slV_v, h1, jT, cV_l, L_zdegree, kL, wGt, stop left hle, someB_eq, jB, cond_false]
    rcases left with _ | ⟨x0, _ | ⟨y0, l0⟩⟩
    · cases h
      refine ⟨?_, hl⟩
      rw [same]; simp only [q_whl_e1, q_whl_e2, low (by simp), tst0]
    · cases h
      refine ⟨?_, hl⟩
      rw [same]; simp only [q_whl_e1, q_whl_e2, low (by simp), tst0]
    · generalize hL : x0 :: y0 :: l0 = left at *
      have h' : (match mvsign left x with
        | none => none
        | some s => bif isZ s then (match mexact left [ineg x.1, x.2] with
          | some (some l) => rootGo x n l (iadd many 1)
          | _ => none) else some (left, many)) = some res := by rw [← hL]; rw [← hL] at h; exact h
      clear h
      have hlen : 2 ≤ left.length := by rw [← hL]; simp
      have e0 : ltB 0 ((left.length : Nat) - 1 : Int) = true := by rw [ltB_eq]; exact decide_eq_true (by lia)
      split at h'
      · cases h'
      rename_i s hs'
      have c1' := L_vsign hs'
      rcases ble_bif h' with ⟨e1, h5⟩ | ⟨e1, h5⟩
      · have ez : eqB s 0 = true := by rw [eqB_eq, ← isZ_eq]; exact e1
        have hc : rrC r = some (.bool true) := by
          unfold rrC
          simp only [k_and, o2, ox_s, k_call, kC, kN, k_var, slV_v, h1, h3, jT, cV_t, cV_l, L_zdegree, kL, wGt, wEq, e0, someB_eq, jB, cond_true, c1', ez]
        split at h5
        · rename_i l hex
          rw [iadd_eq] at h5
          obtain ⟨c2', c3'⟩ := L_zexact (b := [ineg x.1, x.2]) hl (by simp) hex
          have body : rrB r = some (.next, t4 (t1 r (.val (eP l))) (.val (.int (many + 1)))) := by
            unfold rrB
            simp only [qS, th_n, qA, asgV_l, k_call, kC, kN, k_var, slV_v, h1, h3, h4, ox_s, jT, cV_t, cV_l, L_linear, c2', eO, t1, q_aug, kL, v_add_int, qK]
          obtain ⟨q1, q2⟩ := ih m l (many + 1) res (t4 (t1 r (.val (eP l))) (.val (.int (many + 1)))) h5 (by lia) (Nat.le_trans (c3' _ rfl) hl) rfl h3 rfl
          refine ⟨?_, q2⟩
          simp only [q_whl_e1, q_whl_e2, hc, tst1, body, th_n]
          exact q1
        · cases h5
      · cases h5
        have ez : eqB s 0 = false := by rw [eqB_eq, ← isZ_eq]; exact e1
        have hc : rrC r = some (.bool false) := by
          unfold rrC
          simp only [k_and, o2, ox_s, k_call, kC, kN, k_var, slV_v, h1, h3, jT, cV_t, cV_l, L_zdegree, kL, wGt, wEq, e0, someB_eq, jB, cond_true, c1', ez]
        refine ⟨?_, hl⟩
        rw [same]; simp only [q_whl_e1, q_whl_e2, hc, tst0]
end Mine.Internal
namespace Mine.Internal
noncomputable def raS : S := (qS (qA t4 (kL 0)) (qS (q_whl rrC rrB 1000) (qS (qI (o2 w_gt (kP R.s4) (kL 0)) (qS (q_app R.s2 t2 (kC (k_var R.s3) (kC (k_var R.s4) kN))) qK) qK) qK)))
set_option tactic.hygienic true in
theorem ra_go : ∀ (qs : List Q) (left : List Int) (found res : List (Q × Int)) (r : R), rootsAll qs left found = some res → left.length ≤ 200 → found.length + qs.length ≤ 400 → r.s1 = .val (eP left) → r.s2 = .own (found.map eR) →
    ∃ r', q_go (g1 t3) raS (qs.map eQ) r = some (.next, r') ∧ r'.s2 = .own (res.map eR) ∧ res.length ≤ found.length + qs.length
  | [], left, found, res, r, h, _, _, h1, h2 => by cases h; exact ⟨r, rfl, h2, Nat.le_refl _⟩
  | x :: qs, left, found, res, r, h, hl, hn, h1, h2 => by
    simp only [rootsAll_e1, rootsAll_e2] at h
    split at h
    · cases h
    rename_i l m hm
    simp only [List.length_cons] at hn
    obtain ⟨w1, w2⟩ := rr_go x 20 1000 left 0 (l, m) (t4 (t3 r (.val (eQ x))) (.val (.int 0))) hm (by decide) hl h1 rfl rfl
    simp only at w1 w2
    have hb : Nat.blt found.length LL = true := Nat.ble_eq_true_of_le (by simp only [LL]; lia)
    cases hm0 : ltB 0 m with
    | true =>
      rw [hm0] at h
      have step : raS (t3 r (.val (eQ x))) = some (.next, t2 (t4 (t1 (t4 (t3 r (.val (eQ x))) (.val (.int 0))) (.val (eP l))) (.val (.int m))) (.own ((found ++ [(x, m)]).map eR))) := by
        show q_then (qS (qI (o2 w_gt (kP R.s4) (kL 0)) (qS (q_app R.s2 t2 (kC (k_var R.s3) (kC (k_var R.s4) kN))) qK) qK) qK) (q_whl rrC rrB 1000 (t4 (t3 r (.val (eQ x))) (.val (.int 0)))) = _
        rw [w1, List.map_append]
        simp only [th_n, qS, qI, o2, ox_s, kP, slP_v, t4, t1, t3, kL, wGt, hm0, someB_eq, tst1, q_app, h2, kC, kN, k_var, slV_v, jT, cV_i, cV_t, PV.ok, List.length_map, hb, Bool.and_true, cond_true, t2, qK]
        rfl
      obtain ⟨r', q1, q2, q3⟩ := ra_go qs l (found ++ [(x, m)]) res (t2 (t4 (t1 (t4 (t3 r (.val (eQ x))) (.val (.int 0))) (.val (eP l))) (.val (.int m))) (.own ((found ++ [(x, m)]).map eR))) h w2 (by simp only [List.length_append, List.length_singleton]; lia) rfl rfl
      simp only [List.length_append, List.length_singleton] at q3
      refine ⟨r', ?_, q2, by simp only [List.length_cons]; lia⟩
      show q_then (q_go (g1 t3) raS (qs.map eQ)) (raS (t3 r (.val (eQ x)))) = _
      rw [step]; exact q1
    | false =>
      rw [hm0] at h
      have step : raS (t3 r (.val (eQ x))) = some (.next, t4 (t1 (t4 (t3 r (.val (eQ x))) (.val (.int 0))) (.val (eP l))) (.val (.int m))) := by
        show q_then (qS (qI (o2 w_gt (kP R.s4) (kL 0)) (qS (q_app R.s2 t2 (kC (k_var R.s3) (kC (k_var R.s4) kN))) qK) qK) qK) (q_whl rrC rrB 1000 (t4 (t3 r (.val (eQ x))) (.val (.int 0)))) = _
        rw [w1]
        simp only [th_n, qS, qI, o2, ox_s, kP, slP_v, t4, t1, t3, kL, wGt, hm0, someB_eq, tst0, qK]
      obtain ⟨r', q1, q2, q3⟩ := ra_go qs l found res (t4 (t1 (t4 (t3 r (.val (eQ x))) (.val (.int 0))) (.val (eP l))) (.val (.int m))) h w2 (by lia) rfl h2
      refine ⟨r', ?_, q2, by simp only [List.length_cons]; lia⟩
      show q_then (q_go (g1 t3) raS (qs.map eQ)) (raS (t3 r (.val (eQ x)))) = _
      rw [step]; exact q1
end Mine.Internal
namespace Mine.Internal
noncomputable def rzC : K := k_and (o2 w_gt (k_len (kP R.s1)) (kL 0)) (o2 w_eq (kI (kP R.s1) (kL 0)) (kL 0))
noncomputable def rzB : S := qS (qA t1 (k_from (k_var R.s1) (kL 1))) qK
theorem rz_stop {c0 : Int} {g : List Int} (hz : isZ c0 = false) (m : Nat) (r : R) (h1 : r.s1 = .val (eP (c0 :: g))) : q_whl rzC rzB (m + 1) r = some (.next, r) := by
  have e0 : ltB 0 (((List.map PV.int (c0 :: g)).length : Nat) : Int) = true := by rw [ltB_eq]; exact decide_eq_true (by simp only [List.length_map, List.length_cons]; lia)
  have ez : eqB c0 0 = false := by rw [eqB_eq, ← isZ_eq]; exact hz
  have p0 : pidxF (List.map PV.int (c0 :: g)) 0 = some (.int c0) := rfl
  have hc : rzC r = some (.bool false) := by
    unfold rzC
    simp only [k_and, o2, ox_s, k_len, kP, slP_v, h1, jL, mkI_eq, kL, wGt, jI, e0, someB_eq, jB, cond_true, kI, iV_l, p0, wEq, ez]
  simp only [q_whl_e1, q_whl_e2, hc, tst0]
theorem rz_step {g : List Int} (m : Nat) (r : R) (h1 : r.s1 = .val (eP (0 :: g))) : q_whl rzC rzB (m + 1) r = q_whl rzC rzB m (t1 r (.val (eP g))) := by
  have e0 : ltB 0 (((List.map PV.int (0 :: g)).length : Nat) : Int) = true := by rw [ltB_eq]; exact decide_eq_true (by simp only [List.length_map, List.length_cons]; lia)
  have ez : eqB 0 0 = true := rfl
  have p0 : pidxF (List.map PV.int (0 :: g)) 0 = some (.int 0) := rfl
  have hc : rzC r = some (.bool true) := by
    unfold rzC
    simp only [k_and, o2, ox_s, k_len, kP, slP_v, h1, jL, mkI_eq, kL, wGt, jI, e0, someB_eq, jB, cond_true, kI, iV_l, p0, wEq, ez]
  have body : rzB r = some (.next, t1 r (.val (eP g))) := by
    unfold rzB
    simp only [qS, th_n, qK, qA, asgV_l, k_from, k_var, slV_v, h1, ox_s, kL, jI, jL, if_pos (show (0 : Int) ≤ 1 by decide)]
    rfl
  simp only [q_whl_e1, q_whl_e2, hc, tst1, body, th_n]
noncomputable def mroots (z : Bool) (f : List Int) : Option (List (Q × Int)) := match mtried f with
  | none => none
  | some xs => bif Nat.ble xs.length 100 then (match rootsAll xs f (bif z then [((0, 1), 1)] else []) with
    | none => none
    | some u => sortR u []) else none
noncomputable def rrT : S := (qS (q_for (g1 t3) (k_call n_tried_roots (kC (k_var R.s1) kN)) raS) (qS (q_frz R.s2 t2 (qR (k_call n_sorted_roots (kC (k_var R.s2) kN)))) qK))
set_option tactic.hygienic true in
theorem rt_ok {z : Bool} {f : List Int} {res : List (Q × Int)} (hf : f.length ≤ 200) (h : mroots z f = some res) (r : R) (h1 : r.s1 = .val (eP f)) (h2 : r.s2 = .own ((bif z then [((0, 1), 1)] else [] : List (Q × Int)).map eR)) :
    fin (rrT r) = some (.lst (res.map eR)) := by
  unfold mroots at h
  split at h
  · cases h
  rename_i xs hxs
  rcases ble_bif h with ⟨e1, h5⟩ | ⟨_, h5⟩
  · split at h5
    · cases h5
    rename_i u hu
    have hl : xs.length ≤ 100 := Nat.le_of_ble_eq_true e1
    have hz : (bif z then [((0, 1), 1)] else [] : List (Q × Int)).length ≤ 1 := by cases z <;> simp
    obtain ⟨r', q1, q2, q3⟩ := ra_go xs f _ u r hu hf (by lia) h1 h2
    have c1' := L_tried hf hxs
    have c2' := L_sortR (l := u) (by lia) h5
    unfold rrT
    simp only [qS, th_n, th_r, q_for, k_call, kC, kN, k_var, slV_v, h1, ox_s, jT, cV_l, c1', its_l, q1, q_frz, fz, q2, qR, t2, c2', fin_r]
  · cases h5
theorem L_roots {z : Bool} {c0 : Int} {g : List Int} {res : List (Q × Int)} (hz : isZ c0 = false) (hf : (c0 :: g).length ≤ 150) (h : mroots z (c0 :: g) = some res) :
    n_rational_roots [eP (bif z then 0 :: c0 :: g else c0 :: g)] = some (.lst (res.map eR)) := by
  have f0 : fit [] = some (.lst []) := rfl
  cases z with
  | false =>
    have hA : (qT (n_val (k_var R.s0) (n_own (k_lst kN) n_nil)) (st_c t1 (st_c t2 st_n))) ⟨.val (eP (c0 :: g)), .un, .un, .un, .un, .un, .un, .un, .un, .un⟩ = some (.next, ⟨.val (eP (c0 :: g)), .val (eP (c0 :: g)), .own [], .un, .un, .un, .un, .un, .un, .un⟩) := rfl
    have hW := rz_stop (g := g) hz 999 ⟨.val (eP (c0 :: g)), .val (eP (c0 :: g)), .own [], .un, .un, .un, .un, .un, .un, .un⟩ rfl
    have e0 : ltB (((List.map PV.int (c0 :: g)).length : Nat) : Int) (((List.map PV.int (c0 :: g)).length : Nat) : Int) = false := by rw [ltB_eq]; exact decide_eq_false (Int.lt_irrefl _)
    have hI : (qI (o2 w_lt (k_len (kP R.s1)) (k_len (kP R.s0))) (qS (q_app R.s2 t2 (kC (kC (kL 0) (kC (kL 1) kN)) (kC (o2 v_sub (k_len (kP R.s0)) (k_len (kP R.s1))) kN))) qK) qK) ⟨.val (eP (c0 :: g)), .val (eP (c0 :: g)), .own [], .un, .un, .un, .un, .un, .un, .un⟩ = some (.next, ⟨.val (eP (c0 :: g)), .val (eP (c0 :: g)), .own [], .un, .un, .un, .un, .un, .un, .un⟩) := by
      simp only [qI, o2, ox_s, k_len, kP, slP_v, jL, mkI_eq, wLt, e0, someB_eq, tst0, qK, qS]
    have hT := rt_ok (z := false) (by lia) h ⟨.val (eP (c0 :: g)), .val (eP (c0 :: g)), .own [], .un, .un, .un, .un, .un, .un, .un⟩ rfl rfl
    show n_rational_roots [eP (c0 :: g)] = _
    unfold n_rational_roots a1 h_rational_roots
    show fin (q_then _ ((qT (n_val (k_var R.s0) (n_own (k_lst kN) n_nil)) (st_c t1 (st_c t2 st_n))) ⟨.val (eP (c0 :: g)), .un, .un, .un, .un, .un, .un, .un, .un, .un⟩)) = _
    rw [hA]
    show fin (q_then _ (q_whl rzC rzB (999 + 1) ⟨.val (eP (c0 :: g)), .val (eP (c0 :: g)), .own [], .un, .un, .un, .un, .un, .un, .un⟩)) = _
    rw [hW]
    show fin (q_then rrT ((qI (o2 w_lt (k_len (kP R.s1)) (k_len (kP R.s0))) (qS (q_app R.s2 t2 (kC (kC (kL 0) (kC (kL 1) kN)) (kC (o2 v_sub (k_len (kP R.s0)) (k_len (kP R.s1))) kN))) qK) qK) ⟨.val (eP (c0 :: g)), .val (eP (c0 :: g)), .own [], .un, .un, .un, .un, .un, .un, .un⟩)) = _
    rw [hI]; exact hT
  | true =>
    have hA : (qT (n_val (k_var R.s0) (n_own (k_lst kN) n_nil)) (st_c t1 (st_c t2 st_n))) ⟨.val (eP (0 :: c0 :: g)), .un, .un, .un, .un, .un, .un, .un, .un, .un⟩ = some (.next, ⟨.val (eP (0 :: c0 :: g)), .val (eP (0 :: c0 :: g)), .own [], .un, .un, .un, .un, .un, .un, .un⟩) := rfl
    have hW1 := rz_step (g := c0 :: g) 999 ⟨.val (eP (0 :: c0 :: g)), .val (eP (0 :: c0 :: g)), .own [], .un, .un, .un, .un, .un, .un, .un⟩ rfl
    have hW2 := rz_stop (g := g) hz 998 ⟨.val (eP (0 :: c0 :: g)), .val (eP (c0 :: g)), .own [], .un, .un, .un, .un, .un, .un, .un⟩ rfl
    have e0 : ltB (((List.map PV.int (c0 :: g)).length : Nat) : Int) (((List.map PV.int (0 :: c0 :: g)).length : Nat) : Int) = true := by rw [ltB_eq]; exact decide_eq_true (by simp only [List.length_map, List.length_cons]; lia)
    have e1 : (((List.map PV.int (0 :: c0 :: g)).length : Nat) : Int) - (((List.map PV.int (c0 :: g)).length : Nat) : Int) = 1 := by simp only [List.length_map, List.length_cons]; lia
    have hI : (qI (o2 w_lt (k_len (kP R.s1)) (k_len (kP R.s0))) (qS (q_app R.s2 t2 (kC (kC (kL 0) (kC (kL 1) kN)) (kC (o2 v_sub (k_len (kP R.s0)) (k_len (kP R.s1))) kN))) qK) qK) ⟨.val (eP (0 :: c0 :: g)), .val (eP (c0 :: g)), .own [], .un, .un, .un, .un, .un, .un, .un⟩ = some (.next, ⟨.val (eP (0 :: c0 :: g)), .val (eP (c0 :: g)), .own [eR ((0, 1), 1)], .un, .un, .un, .un, .un, .un, .un⟩) := by
      simp only [qI, o2, ox_s, k_len, kP, slP_v, jL, mkI_eq, wLt, e0, someB_eq, tst1, qK, qS, q_app, kC, kN, kL, jT, cV_i, cV_t, v_sub_int, e1]
      rfl
    have hT := rt_ok (z := true) (by lia) h ⟨.val (eP (0 :: c0 :: g)), .val (eP (c0 :: g)), .own [eR ((0, 1), 1)], .un, .un, .un, .un, .un, .un, .un⟩ rfl rfl
    show n_rational_roots [eP (0 :: c0 :: g)] = _
    unfold n_rational_roots a1 h_rational_roots
    show fin (q_then _ ((qT (n_val (k_var R.s0) (n_own (k_lst kN) n_nil)) (st_c t1 (st_c t2 st_n))) ⟨.val (eP (0 :: c0 :: g)), .un, .un, .un, .un, .un, .un, .un, .un, .un⟩)) = _
    rw [hA]
    show fin (q_then _ (q_whl rzC rzB (999 + 1) ⟨.val (eP (0 :: c0 :: g)), .val (eP (0 :: c0 :: g)), .own [], .un, .un, .un, .un, .un, .un, .un⟩)) = _
    rw [hW1]
    show fin (q_then _ (q_whl rzC rzB (998 + 1) ⟨.val (eP (0 :: c0 :: g)), .val (eP (c0 :: g)), .own [], .un, .un, .un, .un, .un, .un, .un⟩)) = _
    rw [hW2]
    show fin (q_then rrT ((qI (o2 w_lt (k_len (kP R.s1)) (k_len (kP R.s0))) (qS (q_app R.s2 t2 (kC (kC (kL 0) (kC (kL 1) kN)) (kC (o2 v_sub (k_len (kP R.s0)) (k_len (kP R.s1))) kN))) qK) qK) ⟨.val (eP (0 :: c0 :: g)), .val (eP (c0 :: g)), .own [], .un, .un, .un, .un, .un, .un, .un⟩)) = _
    rw [hI]; exact hT
end Mine.Internal
namespace Mine.Internal
noncomputable def lowQ (t b : Int) : Q := (Int.fdiv t (mgcd t b), Int.fdiv b (mgcd t b))
noncomputable def eqQI (a b : Q × Int) : Bool := eqB a.1.1 b.1.1 && eqB a.1.2 b.1.2 && eqB a.2 b.2
noncomputable def sameK (a b : Q × Int) : Bool := eqB a.1.1 b.1.1 && eqB a.1.2 b.1.2
noncomputable def ascB : List (Q × Int) → Bool
  | a :: b :: r => ltB (imul a.1.1 b.1.2) (imul b.1.1 a.1.2) && ascB (b :: r)
  | _ => true
noncomputable def nodK : List (Q × Int) → Bool
  | [] => true
  | a :: r => !r.any (sameK a) && nodK r
theorem nodK_e1 : nodK  ([]) = (true) := rfl
theorem nodK_e2 : nodK  (a :: r) = (!r.any (sameK a) && nodK r) := rfl
noncomputable def smQ (a : Q × Int) : Bool := smF a.1.1 && smF a.1.2
noncomputable def goodB (res td : List (Q × Int)) : Bool := ascB res && nodK res && nodK td && Nat.beq res.length td.length && Nat.ble res.length 10 && res.all smQ && res.all fun a => td.any (eqQI a)
noncomputable def withZ (z : Bool) (td : List (Q × Int)) : List (Q × Int) := bif z then td ++ [((0, 1), 1)] else td
noncomputable def goodO (o : Option (List (Q × Int))) (td : List (Q × Int)) : Bool := match o with | some res => goodB res td | none => false
noncomputable def caseB (f : List Int) (td : List (Q × Int)) : Bool := match f with
  | [] => false
  | c0 :: g => !isZ c0 && Nat.ble g.length 100 && (match mtried (c0 :: g) with
    | none => false
    | some xs => Nat.ble xs.length 100 && (match rootsAll xs (c0 :: g) [] with
      | none => false
      | some u => goodO (sortR u []) td && goodO (sortR (((0, 1), 1) :: u) []) (td ++ [((0, 1), 1)])))
theorem rootsAll_app : ∀ (xs : List Q) (f : List Int) (a b : List (Q × Int)), rootsAll xs f (a ++ b) = (rootsAll xs f b).map (a ++ ·)
  | [], f, a, b => rfl
  | x :: r, f, a, b => by
    simp only [rootsAll_e1, rootsAll_e2]
    cases rootGo x 20 f 0 with
    | none => rfl
    | some p =>
      obtain ⟨l, m⟩ := p
      simp only
      cases ltB 0 m with
      | false => exact rootsAll_app r l a b
      | true =>
        show rootsAll r l (a ++ b ++ [(x, m)]) = (rootsAll r l (b ++ [(x, m)])).map (a ++ ·)
        rw [List.append_assoc]; exact rootsAll_app r l a _
set_option tactic.hygienic true in
theorem case_ok {f : List Int} {td : List (Q × Int)} (h : caseB f td = true) : ∃ c0 g, f = c0 :: g ∧ isZ c0 = false ∧ f.length ≤ 150 ∧ ∀ z, ∃ res, mroots z f = some res ∧ goodB res (withZ z td) = true := by
  unfold caseB at h
  split at h
  · cases h
  rename_i c0 g
  simp only [Bool.and_eq_true, Bool.not_eq_true'] at h
  obtain ⟨⟨h0, h1⟩, h⟩ := h
  split at h
  · cases h
  rename_i xs hxs
  simp only [Bool.and_eq_true] at h
  obtain ⟨h2, h⟩ := h
  split at h
  · cases h
  rename_i u hu
  simp only [Bool.and_eq_true] at h
  have hg := Nat.le_of_ble_eq_true h1
  refine ⟨c0, g, rfl, h0, by simp only [List.length_cons]; lia, fun z => ?_⟩
  unfold mroots
  rw [hxs]
  simp only [h2, cond_true]
  cases z with
  | false =>
    simp only [cond_false, hu]
    have h3 := h.1
    unfold goodO at h3
    split at h3
    · rename_i res hr; exact ⟨res, hr, h3⟩
    · cases h3
  | true =>
    have := rootsAll_app xs (c0 :: g) [((0, 1), 1)] []
    rw [hu] at this
    simp only [cond_true]
    rw [show ([((0, 1), 1)] : List (Q × Int)) = [((0, 1), 1)] ++ [] from rfl, this]
    have h3 := h.2
    unfold goodO at h3
    split at h3
    · rename_i res hr; exact ⟨res, hr, h3⟩
    · cases h3
noncomputable def t22 (a b c d : Int) : List Int := [0 + a * c, 0 + a * d + b * c, 0 + b * d]
noncomputable def t23 (a b c d e : Int) : List Int := [0 + a * c, 0 + a * d + b * c, 0 + a * e + b * d, 0 + b * e]
noncomputable def bot0 (m j : Int) : Int := if j = 0 then 1 else if j = 1 then 3 else if j = 2 then 10 ^ 20 + 1 else 7 * 10 ^ 39 + 7 * m
noncomputable def frm0 (s m j : Int) : List Int × List (Q × Int) := ([0 - s * (10 ^ 39 + m), bot0 m j], [(lowQ (s * (10 ^ 39 + m)) (bot0 m j), 1)])
noncomputable def frm1 (s m o : Int) : List Int × List (Q × Int) := ([0 - s * ((10 ^ 5 + m) * (10 ^ 5 + m) + o), 0, s], if o = 1 then [] else [((0 - (10 ^ 5 + m), 1), 1), ((10 ^ 5 + m, 1), 1)])
noncomputable def frm2 (s m k : Int) : List Int × List (Q × Int) := (t22 (0 - s * (10 ^ 5 + m)) (10 ^ 5 + 1 + k) (0 - s * (10 ^ 5 + m)) (10 ^ 5 + 1 + k), [(lowQ (s * (10 ^ 5 + m)) (10 ^ 5 + 1 + k), 2)])
noncomputable def top3 (s m o : Int) : Int := s * (3 * (10 ^ 10 + m) + o * Int.fdiv (10 ^ 10 + m) 6)
noncomputable def frm3 (s m o : Int) : List Int × List (Q × Int) := (t23 (0 - top3 s m o) (10 ^ 10 + m) (-10) 0 1, [(lowQ (top3 s m o) (10 ^ 10 + m), 1)])
noncomputable def chk (p : List Int × List (Q × Int)) : Bool := caseB p.1 p.2
noncomputable def signs : List Int := [1, -1]
end Mine.Internal
namespace Mine.Internal
open PySem PySem.W PyProof.Rows
structure Fm (hB : Heap) (Y : Av) (env : Env) (sc : Sc) (h : Heap) (m : Str → Option Value) (ρ : List Slot) : Prop where
  ns : h.Ns env.locals m
  base : KeepsH hB h
  baseY : ∀ b o, hB.get? b = some o → ¬ Y b
  old : ∀ b, Y b → ∃ o, h.get? b = some o
  locY : Y env.locals
  plain : ∀ i x, sc.get i ≠ some (x, true)
  vals : ∀ i sl, pget ρ i = sl → match sl with
    | .un => True
    | .own _ => False
    | .val p => ∃ x v, sc.get i = some (x, false) ∧ m x = some v ∧ Rep h Y v p
section
variable {prog : Program} {w : World} {A : Around} {hB : Heap} {mg mb : Str → Option Value} {n : Nat} {D : Den} {s : Shared} {X Y : Av} {env : Env} {sc : Sc} {ρ : List Slot} {m : Str → Option Value} {h h' : Heap}
theorem Fm.inv (F : Fm hB Y env sc h m ρ) (hX : ∀ b, X b → Y b) : Inv hB X env sc h Y (fun o0 => False) ρ := by
  refine ⟨F.base, F.baseY, hX, F.old, F.locY, fun i x c hi => absurd hi (F.plain i x), fun o0 z => z.elim, m, fun i => match sc.get i with | some (x, _) => m x | none => none, fun o0 => 0, F.ns, fun i x hi => by simp only [hi], fun i x c hi => absurd hi (F.plain i x), fun i => ?_, fun i j l l' hi => ?_⟩
  · have := F.vals i _ rfl
    cases hp : pget ρ i with
    | un => trivial
    | own l => rw [hp] at this; exact this.elim
    | val p =>
      rw [hp] at this
      obtain ⟨x, v, h1, h2, h3⟩ := this
      exact ⟨v, by simp only [h1]; exact h2, h3⟩
  · exact (F.vals i _ hi).elim
theorem Fm.move (F : Fm hB Y env sc h m ρ) (hk : ∀ b o, h.get? b = some o → (¬ Y b ∨ b = env.locals) → h'.get? b = some o) (old' : ∀ b, Y b → ∃ o, h'.get? b = some o) : Fm hB Y env sc h' m ρ := by
  refine ⟨?_, fun b o e => hk b o (F.base b o e) (.inl (F.baseY b o e)), F.baseY, old', F.locY, F.plain, fun i sl hi => ?_⟩
  · obtain ⟨o, es, ep, ho, r⟩ := F.ns; exact ⟨o, es, ep, hk _ _ ho (.inr rfl), r⟩
  · have := F.vals i sl hi
    cases sl with
    | un => trivial
    | own l => exact this
    | val p =>
      obtain ⟨x, v, h1, h2, h3⟩ := this
      exact ⟨x, v, h1, h2, h3.mono fun b o e y => ⟨hk b o e (.inl y), y⟩⟩
theorem Fm.keeps (F : Fm hB Y env sc h m ρ) (k : KeepsH h h') : Fm hB Y env sc h' m ρ := F.move (fun b o e o0 => k b o e) fun b y => (F.old b y).imp fun o e => k b o e
theorem Fm.less {ρ' : List Slot} (F : Fm hB Y env sc h m ρ) (hl : ∀ i, pget ρ' i = pget ρ i ∨ pget ρ' i = .un) : Fm hB Y env sc h m ρ' :=
  ⟨F.ns, F.base, F.baseY, F.old, F.locY, F.plain, fun i sl hi => by
    rcases hl i with e | e
    · exact F.vals i sl (e ▸ hi)
    · rw [← hi, e]; trivial⟩
theorem Fm.eval (B : Bg prog w A hB mg mb n D) (O : Ok env sc) (F : Fm hB Y env sc s.heap m ρ) {p : PE} {e : Expr} {v : PV} (hm : mdOk p .val = true) (hs : shp p sc [e] = true) (hv : pev D ρ p = some v) :
    wpAny (model prog w) A (PySem.eval e env) (Gd s Y v) NoE s := (snd_all B p).e _ _ _ _ _ _ _ _ _ O (F.inv fun o0 x => x) hm hs hv
theorem Fm.test (B : Bg prog w A hB mg mb n D) (O : Ok env sc) (F : Fm hB Y env sc s.heap m ρ) {p : PE} {e : Expr} {b : Bool} (hm : mdOk p .tst = true) (hs : shp p sc [e] = true) (hv : pev D ρ p = some (.bool b)) :
    wpAny (model prog w) A (isTrue e env (PySem.eval e env)) (fun r s' => Keeps s s' ∧ r = b) NoE s := (snd_all B p).t _ _ _ _ _ _ _ _ _ O (F.inv fun o0 x => x) hm hs hv
theorem Fm.name (O : Ok env sc) (F : Fm hB Y env sc s.heap m ρ) {i : Nat} {x : Str} {v : Value} {pos : Pos} {Q : Value → Shared → Prop} (hi : sc.get i = some (x, false)) (hv : m x = some v) (h : Q v s) :
    wpAny (model prog w) A (PySem.eval (.Name x pos) env) Q NoE s :=
  wpAny_Name (wpAny_loadName_local O.kind (O.loc i x hi).1 F.ns hv h) (O.loc i x hi).2
noncomputable abbrev put (m : Str → Option Value) (x : Str) (v : Value) : Str → Option Value := fun y => if y = x then some v else m y
noncomputable def slOk (h : Heap) (Y : Av) (v : Value) : Slot → Prop
  | .un => True
  | .own _ => False
  | .val p => Rep h Y v p
theorem Fm.store (O : Ok env sc) (F : Fm hB Y env sc s.heap m ρ) {i : Nat} {x : Str} {v : Value} {sl : Slot} {Q : Unit → Shared → Prop} (hi : sc.get i = some (x, false)) (hnew : slOk s.heap Y v sl)
    (hQ : ∀ h' tk, Fm hB Y env sc h' (put m x v) (pset ρ i sl) → Heap.SameBut env.locals s.heap h' → Q () { s with heap := h', toks := tk }) : wpAny (model prog w) A (storeName env x v) Q NoE s := by
  refine wpAny_storeName_local (O.loc i x hi).1 F.ns (fun h' hn' hs => hQ h' _ ?_ hs) (kind_hp O)
  have up : ∀ b o, s.heap.get? b = some o → b ≠ env.locals → h'.get? b = some o := fun b o e hb => (hs.2 b hb).trans e
  refine ⟨hn', fun b o e => up b o (F.base b o e) (by rintro rfl; exact F.baseY _ o e F.locY), F.baseY, fun b y => ?_, F.locY, F.plain, fun j sl' hj => ?_⟩
  · by_cases hb : b = env.locals
    · rw [hb]; obtain ⟨o, _, _, e, _⟩ := hn'; exact ⟨o, e⟩
    · exact (F.old b y).imp fun o e => up b o e hb
  · by_cases hji : j = i
    · subst hji
      rcases pget_pset_self ρ j sl with e | e
      · rw [e] at hj; subst hj
        cases sl with
        | un => trivial
        | own l => exact hnew
        | val p => exact ⟨x, v, hi, if_pos rfl, Rep.sameBut hs F.locY hnew⟩
      · rw [e] at hj; subst hj; trivial
    · rw [pget_pset_ne _ _ _ _ hji] at hj
      have := F.vals j sl' hj
      cases sl' with
      | un => trivial
      | own l => exact this
      | val p =>
        obtain ⟨x', v', h1, h2, h3⟩ := this
        have hx : x' ≠ x := by rintro rfl; exact hji (O.inj _ _ _ _ _ h1 hi)
        exact ⟨x', v', h1, (if_neg hx).trans h2, Rep.sameBut hs F.locY h3⟩
noncomputable def chkPlain (nm : Str) (pars : List Str) (slots : List Str) (d : DefRec) : Bool :=
  d.name == nm && d.scope.kind == .function && !d.scope.isCoroutine && !d.scope.isGenerator &&
  d.params.posonlyargs.isEmpty && d.params.vararg.isNone && d.params.kwonlyargs.isEmpty && d.params.kwarg.isNone && d.params.args.map (·.arg) == pars && nodupB pars &&
  pars.all (fun x => d.scope.names.lookup x == some .local) && slots.all (fun x => d.scope.names.lookup x == some .local && !(x == ("__debug__" : Str))) && nodupB slots
noncomputable def plSc (d : DefRec) (slots : List Str) : Sc := { names := d.scope.names, slots := slots.map fun x => some (x, false) }
theorem plSc_get {d : DefRec} {slots : List Str} {i : Nat} {p : Str × Bool} (h : (plSc d slots).get i = some p) : ∃ x, p = (x, false) ∧ slots[i]? = some x := by
  have := Sc.get_some h
  unfold plSc at this
  rw [List.getElem?_map] at this
  cases e : slots[i]? with
  | none => rw [e] at this; cases this
  | some x => rw [e] at this; cases this; exact ⟨x, rfl, rfl⟩
theorem plSc_at {d : DefRec} {slots : List Str} {i : Nat} {x : Str} (h : slots[i]? = some x) : (plSc d slots).get i = some (x, false) := by
  unfold Sc.get plSc
  simp only [List.getElem?_map, h, Option.map_some]
theorem nodupB_inj : ∀ {l : List Str} {i j : Nat} {x : Str}, nodupB l = true → l[i]? = some x → l[j]? = some x → i = j
  | [], i, _, _, _, h, _ => by simp at h
  | y :: l, i, j, x, hn, hi, hj => by
    obtain ⟨h1, h2⟩ := nodupB_mem hn
    cases i with
    | zero =>
      cases j with
      | zero => rfl
      | succ j => simp at hi hj; subst hi; exact absurd (List.mem_of_getElem? hj) h1
    | succ i =>
      cases j with
      | zero => simp at hi hj; subst hj; exact absurd (List.mem_of_getElem? hi) h1
      | succ j => simp at hi hj; rw [nodupB_inj h2 hi hj]
theorem enter {nm : Str} {pars slots : List Str} {d : DefRec} (hc : chkPlain nm pars slots d = true) {a : Addr} {o : Obj} {pm code doc : Value} {vs : List Value} {Q : Value → Shared → Prop}
    (lim : hB.NoLimit) (kB : KeepsH hB s.heap) (R : Room n A) (ho : hB.get? a = some o) (hd : o.data = .func (Calls.docDef d.name d.params d.body d.scope pm code doc)) (hcr : hB.CodeRec code d.name) (hl : pars.length = vs.length)
    (hgo : ∀ (env : Env) (h₁ : Heap) (tk : Nat) (m : Str → Option Value), Ok env (plSc d slots) → KeepsH s.heap h₁ → h₁.Ns env.locals m → s.heap.get? env.locals = none → (∀ (i : Nat) (x : Str) (v : Value), pars[i]? = some x → vs[i]? = some v → m x = some v) → Room n (A.deeper env) → A.depth + 1 = (A.deeper env).depth →
      wpAny (model prog w) (A.deeper env) (execs d.body env) (fun f s' => Q (match f with | .ret v => v | _ => .none) s') NoE { s with heap := h₁, toks := tk })
    (hR : Room (n + 1) A) : wpAny (model prog w) A (call (.ref a) vs) Q NoE s := by
  simp only [chkPlain, Bool.and_eq_true, beq_iff_eq, Bool.not_eq_true', List.isEmpty_iff, Option.isNone_iff_eq_none, List.all_eq_true] at hc
  obtain ⟨⟨⟨⟨⟨⟨⟨⟨⟨⟨⟨⟨c1, c2⟩, c3⟩, c4⟩, c5⟩, c6⟩, c7⟩, c8⟩, c9⟩, c10⟩, c11⟩, c12⟩, c13⟩ := hc
  have hbind : bindArgs (Calls.docDef d.name d.params d.body d.scope pm code doc) ⟨vs, []⟩ = pure (pars.zip vs) := by
    rw [← c9]
    exact bind_simple c5 c6 c7 c8 (by rw [c9, hl]) (by rw [c9]; exact nodupB_nodup c10)
  have hnd : ((pars.zip vs).map (·.1)).Nodup := by
    rw [List.map_fst_zip (by rw [hl]; exact Nat.le_refl _)]
    exact nodupB_nodup c10
  refine wpAny_call (call_cells_ret R.depth (kB _ _ ho) hd (lim.keeps kB) (hcr.keeps kB) hbind (fun x hx => .inl (c11 x.1 (List.of_mem_zip (a := x.1) (b := x.2) hx).1)) (fun h₁ tk F CX => ?_) c3 c4 c2)
  have O : Ok (envOfC d.name d.scope s.heap.objs.size a code) (plSc d slots) := by
    refine ⟨c2, rfl, rfl, rfl, fun i x hi => ?_, fun i x hi => ?_, fun i j x b b' h h' => ?_, ?_⟩
    · obtain ⟨y, e, q⟩ := plSc_get hi; cases e
      exact c12 x (List.mem_of_getElem? q)
    · obtain ⟨y, e, q⟩ := plSc_get hi; cases e
    · obtain ⟨y, e, q⟩ := plSc_get h; cases e
      obtain ⟨y', e', q'⟩ := plSc_get h'; cases e'
      exact nodupB_inj c13 q q'
    · exact CX.apart
  refine hgo _ h₁ tk _ O F.keep F.ns (size_none _) (fun i x v hx hv => ?_) ⟨R.hd, ?_, ?_⟩ rfl
  · refine bindL_in hnd ?_ (c11 x (List.mem_of_getElem? hx))
    refine List.mem_of_getElem? (i := i) ?_
    rw [List.getElem?_zip_eq_some]
    exact ⟨hx, hv⟩
  · have := hR.dp; show A.depth + 1 + n < 1000; lia
  · have := hR.un; show A.units + 3 + 8 * n + 100 < 9900; lia
end
end Mine.Internal
namespace Mine.Internal
open PySem PySem.W PyProof.Rows
noncomputable def nmDraw : Str := Str.ofString "_law_draw"
noncomputable def nPool : Str := Str.ofString "pool"
noncomputable def parD : List Str := [nPool, Str.ofString "many"]
noncomputable def tailD : PS :=
  .seq (.ife (.cmp .le (.idx (.var 0) (.lit 1)) (.len (.idx (.var 0) (.lit 0)))) (.seq (.ret (.bin .mod (.abs (.idx (.idx (.var 0) (.lit 0)) (.bin .sub (.idx (.var 0) (.lit 1)) (.lit 1)))) (.var 1))) .skip) .skip)
    (.seq (.ret (.bin .mod (.bin .add (.bin .mul (.lit 4) (.idx (.var 0) (.lit 1))) (.bin .fdiv (.idx (.var 0) (.lit 1)) (.lit 3))) (.var 1))) .skip)
noncomputable def drawShp (d : DefRec) : Bool := chkPlain nmDraw parD parD d && bC (fun st rest => ob2 (asg1? st) fun t value => ob2 (xSubscript t) fun n ie => ob (xName n) fun x => x == nPool && shp (.lit 1) (plSc d parD) [ie] && shp (.bin .add (.idx (.var 0) (.lit 1)) (.lit 1)) (plSc d parD) [value] && shpS tailD (plSc d parD) rest) d.body
@[elab_as_elim] theorem isInt_el {h : Heap} {X : Av} {v : Value} {i : Int} {P : Value → Prop} (r : Rep h X v (.int i)) (k : ∀ t, P (.int i t)) : P v := by
  obtain ⟨t, rfl⟩ := r.isInt; exact k t
@[elab_as_elim] theorem asg1_el {st : Stmt} {t v : Expr} {P : Stmt → Prop} (h : asg1? st = some (t, v)) (k : ∀ p, P (.Assign [t] v p)) : P st := by
  obtain ⟨p, rfl⟩ := asg1_eq h; exact k p
@[elab_as_elim] theorem call_el {e : Expr} {f : Str} {as : List Expr} {P : Expr → Prop} (h : isCall? e = some (f, as)) (k : ∀ q p, P (.Call (.Name f q) as [] p)) : P e := by
  obtain ⟨q, p, rfl⟩ := isCall_eq h; exact k q p
@[elab_as_elim] theorem cmp_el {e l r : Expr} {o : CmpOp} {P : Expr → Prop} (h : isCmp? e = some (l, o, r)) (k : ∀ p, P (.Compare l [o] [r] p)) : P e := by
  obtain ⟨p, rfl⟩ := isCmp_eq h; exact k p
@[elab_as_elim] theorem intc_el {e : Expr} {x : Int} {P : Expr → Prop} (h : isInt? e = some x) (k : ∀ q p, P (.Constant (.int x) q p)) : P e := by
  obtain ⟨q, p, rfl⟩ := isInt_eq h; exact k q p
theorem drawShp_inv {d : DefRec} (h : drawShp d = true) : chkPlain nmDraw parD parD d = true ∧ ∃ xp ie sp value pos rest, d.body = .Assign [.Subscript (.Name nPool xp) ie sp] value pos :: rest ∧ shp (.lit 1) (plSc d parD) [ie] = true ∧ shp (.bin .add (.idx (.var 0) (.lit 1)) (.lit 1)) (plSc d parD) [value] = true ∧ shpS tailD (plSc d parD) rest = true := by
  refine b2 h fun hc hb => ⟨hc, ?_⟩
  revert hb
  generalize d.body = body
  intro hb
  refine bC_el hb fun st rest h => ob2_t h fun t value h1 h => ob2_t h fun n ie h2 h => ob_t h fun x h3 h => b4 h fun e b1 b2 b3 => ?_
  cases eq_of_beq e
  refine asg1_el h1 fun pos => ?_
  refine xSubscript_el h2 fun sp => ?_
  exact xName_el h3 fun xp => ⟨xp, ie, sp, value, pos, rest, rfl, b1, b2, b3⟩
noncomputable def Pool (Y : Av) (h : Heap) (pa la : Addr) (k : Int) : Prop := (∃ n t, h.get? pa = some (lstO [.ref la, .int k t] n)) ∧ ∃ ns : List Int, Rep h Y (.ref la) (.lst (ns.map PV.int))
noncomputable def Upd (pa : Addr) (s s' : Shared) : Prop := (∃ h tk, s' = { s with heap := h, toks := tk }) ∧ ∀ b o, b ≠ pa → s.heap.get? b = some o → s'.heap.get? b = some o
section
variable {prog : Program} {w : World} {A : Around} {hB : Heap} {mg mb : Str → Option Value} {n : Nat} {D : Den} {s : Shared} {X Y : Av} {env : Env} {sc : Sc} {ρ : List Slot} {m : Str → Option Value} {h h' : Heap}
theorem Upd.of {pa : Addr} {s s' : Shared} (k : Keeps s s') : Upd pa s s' := by
  obtain ⟨h, t, rfl, k⟩ := k; exact ⟨⟨h, t, rfl⟩, fun b o o0 e => k b o e⟩
theorem Upd.trans {pa : Addr} {a b c : Shared} (x : Upd pa a b) (y : Upd pa b c) : Upd pa a c := by
  obtain ⟨⟨h, t, rfl⟩, k⟩ := x
  obtain ⟨⟨h', t', rfl⟩, k'⟩ := y
  exact ⟨⟨h', t', rfl⟩, fun b o hb e => k' b o hb (k b o hb e)⟩
theorem rep_ints {h h' : Heap} {Y Y' : Av} {vs : List Value} {ns : List Int} (r : RepL h Y vs (ns.map PV.int)) : RepL h' Y' vs (ns.map PV.int) := by
  induction ns generalizing vs with
  | nil => cases r; exact .nil
  | cons i ns ih => cases r with | cons a r => exact isInt_el a fun t => .cons (.int i t) (ih r)
theorem Pool.mono {h h' : Heap} {Y Y' : Av} {pa la : Addr} {k : Int} (P : Pool Y h pa la k) (hp : ∀ o, h.get? pa = some o → h'.get? pa = some o) (hk : ∀ b o, h.get? b = some o → ¬ Y b → h'.get? b = some o ∧ ¬ Y' b) : Pool Y' h' pa la k := by
  obtain ⟨⟨n, t, e⟩, ns, r⟩ := P
  exact ⟨⟨n, t, hp _ e⟩, ns, r.mono hk⟩
theorem Pool.keeps {pa la : Addr} {k : Int} (P : Pool Y h pa la k) (hk : KeepsH h h') : Pool Y h' pa la k := P.mono (fun o e => hk _ o e) fun b o e y => ⟨hk b o e, y⟩
theorem sm_le {a : Int} (h0 : 0 ≤ a) (h : a ≤ 10 ^ 100) : sm a = true := by
  unfold sm
  refine Nat.ble_eq_true_of_le (Nat.le_trans (m := 10 ^ 100) (by lia) (Nat.le_of_ble_eq_true (by decide +kernel)))
theorem tail_ex {ns : List Int} {k many : Int} (h0 : 0 ≤ k) (h1 : k ≤ 1000) (hm : 0 < many) : ∃ r ρ', 0 ≤ r ∧ r < many ∧ Ex D [.val (.lst [.lst (ns.map PV.int), .int (k + 1)]), .val (.int many)] tailD (.ret (.int r)) ρ' := by
  have fm : ∀ a : Int, 0 ≤ Int.fmod a many ∧ Int.fmod a many < many := fun a => ⟨Int.fmod_nonneg_of_pos a hm, Int.fmod_lt_of_pos a hm⟩
  have nz : many ≠ 0 := by lia
  by_cases hl : k + 1 ≤ ((ns.map PV.int).length : Int)
  · have hk : k.toNat < ns.length := by simp only [List.length_map] at hl; lia
    refine ⟨Int.fmod (if ns[k.toNat] < 0 then -ns[k.toNat] else ns[k.toNat]) many, _, (fm _).1, (fm _).2, .seqR (.ifeT ?_ (.seqR (.ret ?_ rfl)))⟩
    · exact congrArg (fun b => some (PV.bool b)) (decide_eq_true hl)
    · have e : pidx (ns.map PV.int) (k + 1 - 1) = some (.int ns[k.toNat]) := by
        unfold pidx
        rw [if_pos (by lia)]
        simp [show k + 1 - 1 = k by lia, hk]
      have e0 : pidx [.lst (ns.map PV.int), .int (k + 1)] 0 = some (.lst (ns.map PV.int)) := rfl
      have e1 : pidx [.lst (ns.map PV.int), .int (k + 1)] 1 = some (.int (k + 1)) := rfl
      simp only [pv_lit, pv_var, pv_bin, pv_idx, pv_abs, peek_var, peek_idx, pget_e1, pget_e2, pget_e3, Option.bind_some, e0, e1, bS, bO, e, if_neg nz, jI, jS]
  · refine ⟨Int.fmod (4 * (k + 1) + Int.fdiv (k + 1) 3) many, _, (fm _).1, (fm _).2, .seq (.ifeF ?_ .skip) (.seqR (.ret ?_ rfl))⟩
    · exact congrArg (fun b => some (PV.bool b)) (decide_eq_false hl)
    · have e1 : pidx [.lst (ns.map PV.int), .int (k + 1)] 1 = some (.int (k + 1)) := rfl
      have e2 : mul 4 (k + 1) = some (4 * (k + 1)) := by
        unfold mul
        rw [sm_le (a := 4) (by decide) (by decide), sm_le (a := k + 1) (by lia) (by lia)]; rfl
      have e3 : sd 3 = true := sm_le (a := 3) (by decide) (by decide)
      simp only [pv_lit, pv_var, pv_bin, pv_idx, peek_var, pget_e1, pget_e2, pget_e3, Option.bind_some, e1, bA, bM, bF, bO, e2, Option.map_some, e3, if_true, if_neg (show ¬ (3 : Int) = 0 by decide), if_neg nz, jI, jS]
theorem draw_fm {d : DefRec} {k1 : KeepsH s.heap h} {pa la : Addr} {vs : List Value} {nl : Nat} {ns : List Int} {i many : Int} {t ti : Tok} {n' : Nat} (kB : KeepsH hB s.heap) (hL : s.heap.get? env.locals = none) (el : s.heap.get? la = some (lstO vs nl)) (ep : ∃ o, s.heap.get? pa = some o) (ll : vs.length ≤ LL) (rvs : RepL s.heap Y vs (ns.map PV.int))
    (m0 : m nPool = some (.ref pa)) (m1 : m (Str.ofString "many") = some (.int many t)) (hns : h'.Ns env.locals m) (kh : KeepsH hB h') (hla : h'.get? la = some (lstO vs nl)) (hpa : h'.get? pa = some (lstO [.ref la, .int i ti] n')) :
    Fm hB (fun b => b = env.locals) env (plSc d parD) h' m [.val (.lst [.lst (ns.map PV.int), .int i]), .val (.int many)] := by
  have neL : ∀ b o, s.heap.get? b = some o → b ≠ env.locals := fun b o e q => no_none (hL.symm.trans (q ▸ e))
  have neP : pa ≠ env.locals := ex1 ep fun o0 e => neL _ _ e
  refine ⟨hns, kh, fun b o e q => neL b o (kB b o e) q, fun b q => ?_, rfl, fun j x e => ?_, fun j sl hj => ?_⟩
  · cases q; exact ex1 hns fun o h => ex1 h fun o0 h => ex1 h fun o0 h => ⟨o, h.1⟩
  · exact ex1 (plSc_get e) fun o0 h => nomatch h.1
  · match j with
    | 0 => cases hj; exact ⟨_, _, rfl, m0, .lst hpa neP (Nat.le_of_ble_eq_true rfl) (.cons (.lst hla (neL _ _ el) ll (rep_ints rvs)) (.cons (.int _ _) .nil))⟩
    | 1 => cases hj; exact ⟨_, _, rfl, m1, .int _ _⟩
    | j + 2 => cases hj; trivial
theorem draw_call (G2 : Gs2 hB mg mb) {d : DefRec} (hc : drawShp d = true) {a : Addr} {o : Obj} {pm code doc : Value} (ho : hB.get? a = some o) (hd : o.data = .func (Calls.docDef d.name d.params d.body d.scope pm code doc)) (hcr : hB.CodeRec code d.name)
    (R : Room (n + 1) A) (kB : KeepsH hB s.heap) (bY : ∀ b o, hB.get? b = some o → ¬ Y b) {pa la : Addr} {k many : Int} {t : Tok} (yp : Y pa) (P : Pool Y s.heap pa la k) (h0 : 0 ≤ k) (h1 : k ≤ 1000) (hm : 0 < many) :
    wpAny (model prog w) A (call (.ref a) [.ref pa, .int many t]) (fun v s' => (∃ r t', v = .int r t' ∧ 0 ≤ r ∧ r < many) ∧ Upd pa s s' ∧ Pool Y s'.heap pa la (k + 1)) NoE s := by
  refine hid fun Z hZ => ?_
  obtain ⟨hc, xp, ie, sp, value, pos, rest, hbody, b1, b2, b3⟩ := drawShp_inv hc
  obtain ⟨⟨np, tp, ep⟩, ns, rl⟩ := P
  obtain ⟨a', vs, nl, e, el, yl, ll, rvs⟩ := rl.isLst
  cases e
  have R0 : Room n A := ⟨R.hd, by have := R.dp; omega, by have := R.un; omega⟩
  refine hZ (enter hc G2.lim kB R0 ho hd hcr rfl (fun env h₁ tk m O k1 hn hL hmm R' o0 => ?_) R)
  have B : Bg prog w (A.deeper env) hB mg mb n (fun o0 o0 => none) := ⟨G2.toGs, R', fun o0 o0 o0 e => nomatch e⟩
  have hpl : la ≠ pa := fun q => yl (q ▸ yp)
  have neL : ∀ b o, s.heap.get? b = some o → b ≠ env.locals := fun b o e q => no_none (hL.symm.trans (q ▸ e))
  have m0 : m nPool = some (.ref pa) := hmm 0 _ _ rfl rfl
  have m1 : m (Str.ofString "many") = some (.int many t) := hmm 1 _ _ rfl rfl
  have F := draw_fm (d := d) (k1 := k1) (n' := np) (ti := tp) kB hL el ⟨_, ep⟩ ll rvs m0 m1 hn (fun b o e => k1 b o (kB b o e)) (k1 _ _ el) (k1 _ _ ep)
  rw [hbody]
  refine wpAny_execs_cons (wpAny_Assign_Subscript (wpAny_mono (F.eval B O (s := { s with heap := h₁, toks := tk }) (v := .int (k + 1)) rfl b2 rfl) (fun v1 s1 h1' => ?_) eid) swaps_sub)
  have F1 := F.keeps (Keeps.heap' h1'.1)
  refine F1.name (i := 0) O rfl m0 ?_
  refine wpAny_mono (F1.eval B O (v := .int 1) rfl b1 rfl) (fun v2 s2 h2' => ?_) eid
  have F2 := F1.keeps (Keeps.heap' h2'.1)
  have k12 := keeps_trans h1'.1 h2'.1
  refine isInt_el h1'.2 fun t1 => isInt_el h2'.2 fun t2 => ?_
  have kk : KeepsH s.heap s2.heap := fun b o e => Keeps.heap' k12 b o (k1 b o e)
  refine set_at (kk _ _ ep) (Int.ofNat_nonneg 1) (Nat.le_of_ble_eq_true rfl : 1 < 2) (Nat.le_of_ble_eq_true rfl) fun h' n' hs' he' => ?_
  have up : ∀ b o, b ≠ pa → s.heap.get? b = some o → h'.get? b = some o := fun b o hb e => (hs'.2 b hb).trans (kk b o e)
  have npB : ∀ b o, hB.get? b = some o → b ≠ pa := fun b o e q => bY b o e (q ▸ yp)
  have hns' : h'.Ns env.locals m := F2.ns.sameBut hs' (fun q => neL pa _ ep q.symm)
  have F3 := draw_fm (d := d) (k1 := k1) (n' := n') (ti := t1) kB hL el ⟨_, ep⟩ ll rvs m0 m1 hns' (fun b o e => up b o (npB b o e) (kB b o e)) (up _ _ hpl el) he'
  refine hid fun Z hZ => ?_
  obtain ⟨r, ρ', r0, r1, hex⟩ := tail_ex (D := fun o0 o0 => none) (ns := ns) (many := many) h0 h1 hm
  obtain ⟨tk', hS⟩ : ∃ tk', s2 = { s with heap := s2.heap, toks := tk' } := by
    obtain ⟨h, t, e, _⟩ := k12; rw [e]; exact ⟨_, rfl⟩
  refine hZ (wpAny_mono ((ex_ok B hex).ms (plSc d parD) env (fun o0 => False) (fun b => b = env.locals) (fun o0 => False) { s2 with heap := h' } rest O ⟨fun x => x, fun o0 o0 o0 o0 o0 x => x⟩ (F3.inv fun o0 x => x.elim) b3) (fun fl s' hp => ?_) eid)
  refine hid fun Z hZ => ?_
  obtain ⟨v, rfl, Y', ⟨⟨h3, tk3, rfl⟩, q⟩, _, rv⟩ := hp
  obtain ⟨t3, rfl⟩ := rv.isInt
  have st : ∀ b o, s.heap.get? b = some o → h'.get? b = some o → h3.get? b = some o := fun b o e e' => ((q b o e').2 (neL b o e)).1
  exact hZ ⟨⟨r, t3, rfl, r0, r1⟩, ⟨⟨h3, tk3, by rw [hS]⟩, fun b o hb e => st b o e (up b o hb e)⟩, ⟨n', t1, ((q pa _ he').2 (neL pa _ ep)).1⟩, ns, .lst (st _ _ el (up _ _ hpl el)) yl ll (rep_ints rvs)⟩
end
end Mine.Internal
namespace Mine.Internal
open PySem PySem.W PyProof.Rows
inductive WE where
  | pure (p : PE) | draw (m : Int) | bin (o : BO) (a b : WE) | idx (a i : WE)
noncomputable def wshp : WE → Sc → Expr → Bool
  | .pure p, sc, e => mdOk p .val && shp p sc [e]
  | .draw m, sc, e => ob2 (isCall? e) fun f as => ob2 (two? as) fun a c => ob (xName a) fun x => f == nmDraw && sc.glob nmDraw && x == nPool && slotIs sc 0 nPool && (isInt? c == some m)
  | .bin o a b, sc, e => ob3 (isBin? e) fun l op r => op == bo? o && wshp a sc l && wshp b sc r
  | .idx a i, sc, e => ob2 (isSub? e) fun v sl => notSlice sl && wshp a sc v && wshp i sc sl
noncomputable def wd : WE → Nat
  | .pure _ => 0
  | .draw _ => 1
  | .bin _ a b => wd a + wd b
  | .idx a b => wd a + wd b
noncomputable def idx2 (x y : PV) : Option PV := isI (fun i => isS (fun l => pidx l i) x) y
noncomputable def wq (D : Den) (ρ : List Slot) : WE → (PV → Prop) → Prop
  | .pure p, Q => ∃ v, pev D ρ p = some v ∧ Q v
  | .draw m, Q => 0 < m ∧ ∀ r, 0 ≤ r → r < m → Q (.int r)
  | .bin o a b, Q => wq D ρ a fun x => wq D ρ b fun y => ∃ z, bop o x y = some z ∧ Q z
  | .idx a b, Q => wq D ρ a fun x => wq D ρ b fun y => ∃ z, idx2 x y = some z ∧ Q z
structure Dr (hB : Heap) (mg : Str → Option Value) : Prop where
  ok : ∃ a d o pm code doc, mg nmDraw = some (.ref a) ∧ drawShp d = true ∧ hB.get? a = some o ∧ o.data = .func (Calls.docDef d.name d.params d.body d.scope pm code doc) ∧ hB.CodeRec code d.name
structure St (hB : Heap) (Y : Av) (env : Env) (sc : Sc) (pa la : Addr) (h : Heap) (m : Str → Option Value) (ρ : List Slot) (k : Nat) : Prop where
  F : Fm hB Y env sc h m ρ
  P : Pool Y h pa la k
  yp : Y pa
  mp : m nPool = some (.ref pa)
section
variable {prog : Program} {w : World} {A : Around} {hB : Heap} {mg mb : Str → Option Value} {n : Nat} {D : Den} {s : Shared} {X Y : Av} {env : Env} {sc : Sc} {ρ : List Slot} {m : Str → Option Value} {h h' : Heap} {pa la : Addr} {k : Nat}
theorem St.keeps (S : St hB Y env sc pa la h m ρ k) (kk : KeepsH h h') : St hB Y env sc pa la h' m ρ k := ⟨S.F.keeps kk, S.P.keeps kk, S.yp, S.mp⟩
theorem St.ne (S : St hB Y env sc pa la h m ρ k) : pa ≠ env.locals := by
  rintro e
  obtain ⟨⟨n, t, q⟩, _⟩ := S.P
  obtain ⟨o, es, ep, ho, hd, _⟩ := S.F.ns
  rw [e, ho] at q; cases q; cases hd
theorem Upd.rep {s s' : Shared} (u : Upd pa s s') (yp : Y pa) {v : Value} {p : PV} (r : Rep s.heap Y v p) : Rep s'.heap Y v p := r.mono fun b o e y => ⟨u.2 b o (by rintro rfl; exact y yp) e, y⟩
theorem St.upd {s s' : Shared} (S : St hB Y env sc pa la s.heap m ρ k) (u : Upd pa s s') {k' : Nat} (P' : Pool Y s'.heap pa la k') : St hB Y env sc pa la s'.heap m ρ k' :=
  ⟨S.F.move (fun b o e hb => u.2 b o (by rintro rfl; rcases hb with hb | hb; exact hb S.yp; exact S.ne hb) e) (fun b y => by
    by_cases e : b = pa
    · rw [e]; obtain ⟨⟨n, t, q⟩, _⟩ := P'; exact ⟨_, q⟩
    · exact (S.F.old b y).imp fun o q => u.2 b o e q), P', S.yp, S.mp⟩
theorem draw_inv {mm : Int} {e : Expr} (hs : wshp (.draw mm) sc e = true) : ∃ q xp c pos, e = .Call (.Name nmDraw q) [.Name nPool xp, c] [] pos ∧ sc.glob nmDraw = true ∧ slotIs sc 0 nPool = true ∧ isInt? c = some mm := by
  refine ob2_t (o := isCall? e) hs fun f as he hs => ob2_t hs fun a c ha hs => ob_t hs fun x hx hs => b5 hs fun q1 g1 q2 g2 g3 => ?_
  cases eq_of_beq q1
  cases eq_of_beq q2
  cases two_eq ha
  obtain ⟨q, pos, rfl⟩ := isCall_eq he
  exact xName_el (P := fun a => ∃ q' xp c' pos', Expr.Call (.Name nmDraw q) [a, c] [] pos = .Call (.Name nmDraw q') [.Name nPool xp, c'] [] pos' ∧ sc.glob nmDraw = true ∧ slotIs sc 0 nPool = true ∧ isInt? c' = some mm) hx fun xp => ⟨q, xp, c, pos, rfl, g1, g2, eq_of_beq g3⟩
theorem w_draw (B : Bg prog w A hB mg mb (n + 1) D) (G2 : Gs2 hB mg mb) (Dw : Dr hB mg) (O : Ok env sc) {mm : Int} {c : Expr} {q xp pos : Pos} {Q : PV → Prop} (g1 : sc.glob nmDraw = true) (g2 : slotIs sc 0 nPool = true) (g3 : isInt? c = some mm) (hm : 0 < mm) (hq : ∀ r, 0 ≤ r → r < mm → Q (.int r)) (hk : k + 1 ≤ 100) (S : St hB Y env sc pa la s.heap m ρ k) :
    wpAny (model prog w) A (eval (.Call (.Name nmDraw q) [.Name nPool xp, c] [] pos) env) (fun v s' => (∃ p, Q p ∧ Rep s'.heap Y v p) ∧ Upd pa s s' ∧ St hB Y env sc pa la s'.heap m ρ (k + 1)) NoE s := by
  refine hid fun Z hZ => ?_
  obtain ⟨kc, pc, rfl⟩ := isInt_eq g3
  obtain ⟨a, d, o, pm, code, doc, ha, hds, ho, hd, hcr⟩ := Dw.ok
  obtain ⟨b, hb⟩ := slotIs_get g2
  have hb' : sc.get 0 = some (nPool, false) := by cases b with | false => exact hb | true => exact absurd hb (S.F.plain _ _)
  refine hZ (call_f B.G O S.F.base ha ho hd g1 ⟨_, _, rfl, rfl⟩ ?_)
  rw [backTo_cons rfl, backTo_cons rfl]
  refine Calls.spliced_cons (S.F.name O hb' S.mp (Calls.spliced_cons (wpAny_Constant_int (Calls.spliced_nil ⟨eid, ?_⟩))))
  refine wpAny_mono (draw_call (s := { s with toks := s.toks + 1 }) G2 hds ho hd hcr B.R S.F.base S.F.baseY S.yp S.P (Int.natCast_nonneg k) (by lia) hm) (fun v s' h => ?_) eid
  obtain ⟨⟨r, t', rfl, r0, r1⟩, u, P'⟩ := h
  have u' : Upd pa s s' := Upd.trans (b := { s with toks := s.toks + 1 }) ⟨⟨s.heap, _, rfl⟩, fun o0 o0 o0 e => e⟩ u
  exact ⟨⟨_, hq r r0 r1, .int _ _⟩, u', S.upd u' P'⟩
theorem le_l {k a b c : Nat} (h : k + (a + b) ≤ c) : k + a ≤ c := Nat.le_trans (Nat.add_le_add_left (Nat.le_add_right _ _) _) h
theorem le_r {k a b c : Nat} (h : k + (a + b) ≤ c) : k + a + b ≤ c := Nat.add_assoc k a b ▸ h
theorem w_end {s1 s2 s3 : Shared} {Q : PV → Prop} {z : PV} {v : Value} {a b : Nat} (hQ : Q z) (h3 : Gd s2 Y z v s3) (u1 : Upd pa s s1) (u2 : Upd pa s1 s2) (S2 : St hB Y env sc pa la s2.heap m ρ (k + a + b)) :
    (∃ p, Q p ∧ Rep s3.heap Y v p) ∧ Upd pa s s3 ∧ St hB Y env sc pa la s3.heap m ρ (k + (a + b)) :=
  ⟨⟨z, hQ, h3.2⟩, (u1.trans u2).trans (.of h3.1), Nat.add_assoc k a b ▸ S2.keeps (Keeps.heap' h3.1)⟩
theorem w_ok (B : Bg prog w A hB mg mb (n + 1) D) (G2 : Gs2 hB mg mb) (Dw : Dr hB mg) (O : Ok env sc) : ∀ (x : WE) (e : Expr) (Q : PV → Prop) (k : Nat) (s : Shared), wshp x sc e = true → wq D ρ x Q → k + wd x ≤ 100 → St hB Y env sc pa la s.heap m ρ k →
    wpAny (model prog w) A (eval e env) (fun v s' => (∃ p, Q p ∧ Rep s'.heap Y v p) ∧ Upd pa s s' ∧ St hB Y env sc pa la s'.heap m ρ (k + wd x)) NoE s := by
  intro x
  induction x with
  | pure p =>
    intro e Q k s hs hq hk S
    exact b2 hs fun h1 h2 => ex2 hq fun v hv hQ => wpAny_mono (S.F.eval B O h1 h2 hv) (fun v' s' h => ⟨⟨v, hQ, h.2⟩, .of h.1, S.keeps (Keeps.heap' h.1)⟩) eid
  | draw mm =>
    intro e Q k s hs hq hk S
    obtain ⟨q, xp, c, pos, rfl, g1, g2, g3⟩ := draw_inv hs
    exact w_draw B G2 Dw O g1 g2 g3 hq.1 hq.2 hk S
  | bin o a b iha ihb =>
    intro e Q k s hs hq hk S
    refine ob3_t (o := isBin? e) hs fun l op r he hs => b3 hs fun e1 s1 s2 => ?_
    refine xBinOp_el he fun pos => ?_
    cases eq_of_beq e1
    have hk : k + (wd a + wd b) ≤ 100 := hk
    refine wpAny_BinOp (wpAny_mono (iha l _ k s s1 hq (le_l hk) S) (fun v1 s1 h1 => ?_) eid)
    refine an3 h1 fun h u1 S1 => ex2 h fun x hx rx => ?_
    refine wpAny_mono (ihb r _ _ s1 s2 hx (le_r hk) S1) (fun v2 s2 h2 => ?_) eid
    refine an3 h2 fun h u2 S2 => ex2 h fun y hy ry => ex2 hy fun z hz hQ => ?_
    exact wpAny_mono (bop_ok (n := n) S2.F.old hz (u2.rep S.yp rx) ry) (fun v3 s3 h3 => w_end hQ h3 u1 u2 S2) eid
  | idx a b iha ihb =>
    intro e Q k s hs hq hk S
    refine ob2_t (o := isSub? e) hs fun vv sl he hs => b3 hs fun ns s1 s2 => ?_
    refine xSubscript_el he fun pos => ?_
    have hk : k + (wd a + wd b) ≤ 100 := hk
    refine Subscript_ (wpAny_mono (iha vv _ k s s1 hq (le_l hk) S) (fun v1 s1 h1 => ?_) eid)
    refine an3 h1 fun h u1 S1 => ex2 h fun x hx rx => ?_
    refine wpAny_mono (ihb sl _ _ s1 s2 hx (le_r hk) S1) (fun v2 s2 h2 => ?_) eid
    refine an3 h2 fun h u2 S2 => ex2 h fun y hy ry => ex2 hy fun z hz hQ => isI_t hz fun i hi hz => ?_
    cases hi
    exact wpAny_mono (idx_ok ns (.inl (u2.rep S.yp rx)) ry hz) (fun v3 s3 h3 => w_end hQ h3 u1 u2 S2) eid
end
end Mine.Internal
namespace Mine.Internal
open PySem PySem.W PyProof.Rows
noncomputable abbrev ik (prog : Program) (w : World) : HeapKind prog w (List Int) := tupleKind (intKind prog w)
inductive Ents : List (List Int × Addr × Value) → List (Q × Int) → Prop
  | nil : Ents [] []
  | cons {a b c : Int} {ad : Addr} {t : Tok} {r : List (List Int × Addr × Value)} {td : List (Q × Int)} : Ents r td → Ents (([a, b], ad, .int c t) :: r) (((a, b), c) :: td)
noncomputable def TD (prog : Program) (w : World) (h : Heap) (Y : Av) (d : Addr) (td : List (Q × Int)) : Prop :=
  ¬ Y d ∧ (d == sysModules) = false ∧ ∃ xs, h.DictOfH (ik prog w) d xs ∧ (∀ x ∈ xs, ¬ Y x.2.1) ∧ Ents xs td
inductive PairsAre (prog : Program) (w : World) (h : Heap) (Y : Av) : List (Value × Value) → List (Q × Int) → Prop
  | nil : PairsAre prog w h Y [] []
  | cons {a b c : Int} {ad : Addr} {t : Tok} {r : List (Value × Value)} {td : List (Q × Int)} : IsTupleKey (intKind prog w) h [a, b] ad → ¬ Y ad → PairsAre prog w h Y r td → PairsAre prog w h Y ((.ref ad, .int c t) :: r) (((a, b), c) :: td)
section
variable {prog : Program} {w : World} {A : Around} {hB : Heap} {mg mb : Str → Option Value} {n : Nat} {D : Den} {s : Shared} {X Y Y' : Av} {env : Env} {sc : Sc} {ρ : List Slot} {m : Str → Option Value} {h h' : Heap} {pa la d : Addr} {k : Nat}
theorem Ents.length {xs : List (List Int × Addr × Value)} {td : List (Q × Int)} (e : Ents xs td) : xs.length = td.length := by
  induction e with
  | nil => rfl
  | cons _ ih => simp [ih]
theorem Ents.snoc {xs : List (List Int × Addr × Value)} {td : List (Q × Int)} {a b c : Int} {ad : Addr} {t : Tok} (e : Ents xs td) : Ents (xs ++ [([a, b], ad, .int c t)]) (td ++ [((a, b), c)]) := by
  induction e with
  | nil => exact .cons .nil
  | cons _ ih => exact .cons ih
theorem sameK_eq (x y : Q × Int) : sameK x y = decide (x.1 = y.1) := by
  unfold sameK
  rw [eqB_eq, eqB_eq]
  obtain ⟨⟨a, b⟩, c⟩ := x
  obtain ⟨⟨a', b'⟩, c'⟩ := y
  simp only [Prod.mk.injEq]
  by_cases h1 : a = a' <;> by_cases h2 : b = b' <;> simp [h1, h2]
theorem Ents.at {xs : List (List Int × Addr × Value)} {td : List (Q × Int)} (e : Ents xs td) (q : Q) : (atKey xs [q.1, q.2] = none ∧ ∀ p ∈ td, p.1 ≠ q) ∨ ∃ ad c t, atKey xs [q.1, q.2] = some (ad, .int c t) ∧ (q, c) ∈ td := by
  induction e with
  | nil => exact .inl ⟨rfl, fun o0 h => by cases h⟩
  | @cons a b c ad t r td e ih =>
    by_cases hq : (a, b) = q
    · subst hq
      refine .inr ⟨ad, c, t, ?_, List.mem_cons_self⟩
      simp [atKey]
    · have hne : ¬ ([a, b] = [q.1, q.2]) := fun x => hq (by simp at x; exact Prod.ext x.1 x.2)
      have ha : atKey (([a, b], ad, Value.int c t) :: r) [q.1, q.2] = atKey r [q.1, q.2] := by simp only [atKey, List.find?_cons, hne, decide_false]
      rw [ha]
      rcases ih with ⟨h1, h2⟩ | ⟨ad', c', t', h1, h2⟩
      · exact .inl ⟨h1, fun p hp => by rcases List.mem_cons.mp hp with rfl | hp; exact hq; exact h2 p hp⟩
      · exact .inr ⟨ad', c', t', h1, List.mem_cons_of_mem _ h2⟩
theorem TD.move {td : List (Q × Int)} (T : TD prog w h Y d td) (hk : ∀ b o, h.get? b = some o → ¬ Y b → h'.get? b = some o ∧ ¬ Y' b) : TD prog w h' Y' d td := by
  obtain ⟨y, sm, xs, ⟨o, es, ep, ho, hc, hd, he, his, hn⟩, ya, en⟩ := T
  refine ⟨(hk d o ho y).2, sm, xs, ⟨o, es, ep, (hk d o ho y).1, hc, hd, he, fun x hx => ?_, hn⟩, fun x hx q => ?_, en⟩
  · obtain ⟨o', items, n, e1, e2⟩ := his x hx
    exact ⟨o', items, n, (hk _ o' e1 (ya x hx)).1, e2⟩
  · obtain ⟨o', items, n, e1, e2⟩ := his x hx
    exact (hk _ o' e1 (ya x hx)).2 q
theorem TD.keeps {td : List (Q × Int)} (T : TD prog w h Y d td) (k : KeepsH h h') : TD prog w h' Y d td := T.move fun b o e y => ⟨k b o e, y⟩
theorem rep_key {v : Value} {a b : Int} (r : Rep h Y v (.tup [.int a, .int b])) : ∃ ad, v = .ref ad ∧ IsTupleKey (intKind prog w) h [a, b] ad ∧ ¬ Y ad := by
  obtain ⟨ad, vs, rfl, ⟨o, e, c, n, dt⟩, y, l, q⟩ := r.isTup
  obtain ⟨t, t', rfl⟩ := repl_ii q
  exact ⟨_, rfl, ⟨_, _, _, e, c, dt, .cons (by simp [intKind, Value.isInt]) (.cons (by simp [intKind, Value.isInt]) .nil)⟩, y⟩
theorem PairsAre.same {o : Obj} {es : Array DictEntry} {ep : Nat} {ps : List (Value × Value)} {td : List (Q × Int)} (P : PairsAre prog w h Y ps td) (ho : h.get? d = some o) (hd : o.data = .dict es ep) (hs : Heap.SameBut d h h') : PairsAre prog w h' Y ps td := by
  induction P with
  | nil => exact .nil
  | cons i y _ ih => exact .cons (i.keeps ho hd hs) y ih
theorem td_set {E : Value → Shared → Prop} {td : List (Q × Int)} {ad : Addr} {a b c : Int} {t : Tok} {Q : Unit → Shared → Prop} (hu : A.units < cLine) (T : TD prog w s.heap Y d td) (hkey : IsTupleKey (intKind prog w) s.heap [a, b] ad) (ya : ¬ Y ad)
    (hnew : ∀ p ∈ td, p.1 ≠ (a, b)) (hl : td.length ≤ 1000)
    (hQ : ∀ h' tk, TD prog w h' Y d (td ++ [((a, b), c)]) → Heap.SameBut d s.heap h' → Q () { s with heap := h', toks := tk }) : wpAny (model prog w) A (dictSet d (.ref ad) (.int c t)) Q E s := by
  obtain ⟨y, sm, xs, hD, yx, en⟩ := T
  have hk : atKey xs [a, b] = none := by
    rcases en.at (a, b) with h | ⟨_, c', _, _, h⟩
    · exact h.1
    · exact absurd rfl (hnew _ h)
  refine wpAny_dictSet_heap (knd := ik prog w) (hsz := by rw [en.length]; simp only [sizeLine]; lia) hu hkey hD fun h' hm hs => hQ h' _ ⟨y, sm, _, hm, fun x hx => ?_, ?_⟩ hs
  · rw [storedH_new hk] at hx
    rcases List.mem_append.mp hx with hx | hx
    · exact yx x hx
    · rw [List.mem_singleton.mp hx]; exact ya
  · rw [storedH_new hk]; exact en.snoc
theorem nodK_new : ∀ {td td1 : List (Q × Int)} {x : Q × Int}, nodK (td ++ x :: td1) = true → ∀ p ∈ td, p.1 ≠ x.1
  | [], _, _, _, p, hp => by cases hp
  | y :: td, td1, x, h, p, hp => by
    simp only [List.cons_append, nodK_e1, nodK_e2, Bool.and_eq_true, Bool.not_eq_true'] at h
    rcases List.mem_cons.mp hp with rfl | hp
    · intro e
      have := List.any_eq_false.mp h.1 x (List.mem_append_right _ List.mem_cons_self)
      rw [sameK_eq] at this
      exact this (decide_eq_true e)
    · exact nodK_new h.2 p hp
set_option tactic.hygienic true in
theorem store_all {E : Value → Shared → Prop} (hu : A.units < cLine) : ∀ (ps : List (Value × Value)) (td td1 : List (Q × Int)) (s : Shared) (Q : PUnit → Shared → Prop), PairsAre prog w s.heap Y ps td1 → TD prog w s.heap Y d td → nodK (td ++ td1) = true → td.length + td1.length ≤ 1000 →
    (∀ h' tk, TD prog w h' Y d (td ++ td1) → (∀ b o, b ≠ d → s.heap.get? b = some o → h'.get? b = some o) → Q PUnit.unit { s with heap := h', toks := tk }) → wpAny (model prog w) A (storeAll d ps) Q E s := by
  intro ps
  induction ps with
  | nil =>
    intro td td1 s Q P T _ _ hQ
    cases P
    unfold storeAll
    rw [List.forIn_nil]
    rw [List.append_nil] at hQ
    exact wpAny_pure (hQ s.heap s.toks T fun b o o0 e => e)
  | cons p ps ih =>
    intro td td1 s Q P T hn hl hQ
    cases P with
    | cons i y P =>
      rename_i a b c ad t td1
      rw [List.length_cons] at hl
      unfold storeAll
      rw [List.forIn_cons]
      refine wpAny_bind (wpAny_bind (td_set hu T i y (nodK_new hn) (by lia) fun h' tk T' hs => wpAny_pure ?_))
      obtain ⟨_, _, xs, ⟨o, es, ep, ho, hc, hd, _⟩, _⟩ := id T
      refine ih _ td1 { s with heap := h', toks := tk } Q (P.same ho hd hs) T' (by rw [List.append_assoc]; exact hn) (by simp only [List.length_append, List.length_singleton]; lia) fun h'' tk'' T'' kk => ?_
      rw [List.append_assoc] at T''
      exact hQ h'' tk'' T'' fun b o hb e => kk b o hb ((hs.2 b hb).trans e)
noncomputable def dshp : List (PE × PE) → Sc → List (Option Expr) → List Expr → Bool
  | [], _, ks, vs => bN ks && bN vs
  | a :: r, sc, ks, vs => bC (fun k ks => bC (fun v vs => ob k fun k => mdOk a.1 .val && shp a.1 sc [k] && mdOk a.2 .val && shp a.2 sc [v] && dshp r sc ks vs) vs) ks
noncomputable def dev (D : Den) (ρ : List Slot) : List (PE × PE) → List (Q × Int) → Prop
  | [], td => (match td with
    | [] => True
    | _ :: _ => False)
  | p :: r, td => (match td with
    | [] => False
    | x :: td => pev D ρ p.1 = some (.tup [.int x.1.1, .int x.1.2]) ∧ pev D ρ p.2 = some (.int x.2) ∧ dev D ρ r td)
theorem pairs_ok (B : Bg prog w A hB mg mb n D) (O : Ok env sc) {pos : Pos} : ∀ (kv : List (PE × PE)) (td : List (Q × Int)) (keys : List (Option Expr)) (vals : List Expr) (s : Shared), dshp kv sc keys vals = true → dev D ρ kv td → Fm hB Y env sc s.heap m ρ →
    wpAny (model prog w) A (evalPairs (pairTrees keys vals env pos)) (fun ps s' => Keeps s s' ∧ PairsAre prog w s'.heap Y ps td) NoE s := by
  intro kv
  induction kv with
  | nil =>
    intro td keys vals s hs hv F
    refine b2 hs fun h1 h2 => bN_el h1 (bN_el h2 ?_)
    cases td with
    | nil => exact evalPairs_nil ⟨keeps_refl _, .nil⟩
    | cons _ _ => exact hv.elim
  | cons p r ih =>
    intro td keys vals s hs hv F
    cases td with
    | nil => exact False.elim hv
    | cons x td =>
    refine bC_el (l := keys) hs fun ko ks h => bC_el h fun v vs h => ob_t h fun k hk h => b5 h fun m1 s1 m2 s2 s3 => ?_
    cases hk
    refine evalPairs_cons (wpAny_mono (F.eval B O m1 s1 hv.1) (fun x1 t1 h1 => ?_) eid)
    have F1 := F.keeps (Keeps.heap' h1.1)
    refine wpAny_bind (wpAny_mono (F1.eval B O m2 s2 hv.2.1) (fun x2 t2 h2 => wpAny_bind (wpAny_standAt (wpAny_pure ?_))) eid)
    refine wpAny_mono (ih td ks vs t2 s3 hv.2.2 (F1.keeps (Keeps.heap' h2.1))) (fun ps t3 h3 => ?_) eid
    refine ex3 (rep_key (prog := prog) (w := w) (h1.2.keeps (Keeps.heap' (keeps_trans h2.1 h3.1)))) fun ad e hk ya => ?_
    cases e
    exact isInt_el h2.2 fun t => ⟨keeps_trans h1.1 (keeps_trans h2.1 h3.1), .cons hk ya h3.2⟩
theorem dshp_len : ∀ {kv : List (PE × PE)} {keys : List (Option Expr)} {vals : List Expr}, dshp kv sc keys vals = true → keys.all (·.isSome) = true ∧ keys.length = kv.length ∧ vals.length = kv.length := by
  intro kv
  induction kv with
  | nil => intro keys vals hs; exact b2 hs fun h1 h2 => bN_el h1 (bN_el h2 ⟨rfl, rfl, rfl⟩)
  | cons p r ih =>
    intro keys vals hs
    refine bC_el (l := keys) hs fun ko ks h => bC_el h fun v vs h => ob_t h fun k hk h => b5 h fun o0 o0 o0 o0 s3 => ?_
    cases hk
    have := ih s3
    exact ⟨this.1, congrArg (· + 1) this.2.1, congrArg (· + 1) this.2.2⟩
theorem disp_ok (B : Bg prog w A hB mg mb n D) (lim : hB.NoLimit) (O : Ok env sc) (F : Fm hB Y env sc s.heap m ρ) {kv : List (PE × PE)} {td : List (Q × Int)} {keys : List (Option Expr)} {vals : List Expr} {pos : Pos} (hs : dshp kv sc keys vals = true) (hv : dev D ρ kv td) (hl : kv.length ≤ 15) (ht : td.length ≤ 1000)
    (hn : nodK td = true) : wpAny (model prog w) A (eval (.Dict keys vals pos) env) (fun v s' => Keeps s s' ∧ ∃ d, v = .ref d ∧ TD prog w s'.heap Y d td) NoE s := by
  obtain ⟨l1, l2, l3⟩ := dshp_len hs
  have hbig : sysModules < s.heap.objs.size := modules_low (lim.keeps F.base)
  have sm : (s.heap.objs.size == sysModules) = false := beq_eq_false_iff_ne.mpr (Nat.ne_of_gt hbig)
  have hu : A.units < cLine := B.R.units'
  have kp : KeepsH s.heap (s.heap.push { cls := .type "dict", data := .dict #[] }) := fun o0 o0 e => Heap.get?_push_of_some _ e
  have yd : ¬ Y s.heap.objs.size := fresh_not F.old (size_none _)
  have T0 : TD prog w (s.heap.push { cls := .type "dict", data := .dict #[] }) Y s.heap.objs.size [] := ⟨yd, sm, [], Heap.DictOfH.new s.heap, (fun x hx => by cases hx), .nil⟩
  have old : ∀ b o, s.heap.get? b = some o → b ≠ s.heap.objs.size := fun b o e => Nat.ne_of_lt (Heap.lt_size e)
  cases kv with
  | nil =>
    have e1 : keys = [] := List.length_eq_zero_iff.mp l2
    have e2 : vals = [] := List.length_eq_zero_iff.mp l3
    subst e1; subst e2
    have e3 : td = [] := by cases td with | nil => rfl | cons _ _ => exact hv.elim
    subst e3
    exact wpAny_Dict_empty ⟨keeps_push s _, _, rfl, T0⟩
  | cons p r =>
    refine wpAny_Dict_any l1 (by rw [l2, l3]) (fun q => by rw [q] at l2; cases l2) (by rw [l2]; exact hl) ?_
    refine wpAny_mono (pairs_ok B O (p :: r) td keys vals { s with heap := s.heap.push { cls := .type "dict", data := .dict #[] } } hs hv (F.keeps kp)) (fun ps s1 h1 => ?_) eid
    obtain ⟨k1, P⟩ := h1
    refine store_all hu ps [] td s1 _ P (T0.keeps (Keeps.heap' k1)) hn (by simpa using ht) fun h' tk T' kk => ?_
    obtain ⟨h1, t1, rfl, k1'⟩ := k1
    exact ⟨⟨h', tk, rfl, fun b o e => kk b o (old b o e) (k1' b o (kp b o e))⟩, _, rfl, T'⟩
end
end Mine.Internal
namespace Mine.Internal
open PySem PySem.W PyProof.Rows
noncomputable abbrev ItO (h : Heap) (it d : Addr) (f0 : Value) (f1 : Bool) (i n ep : Nat) (ok ov : Value) : Prop :=
  h.get? it = some { cls := .type "dict_itemiterator", dict := none, data := .fields #[f0, .bool f1, .ref d, .int i 0, .int n 0, .int ep 0, ok, ov], slots := #[] }
noncomputable def ItS (h : Heap) (it d S : Addr) (i n ep : Nat) : Prop :=
  ∃ f0 f1 ok ov, ItO h it d f0 f1 i n ep ok ov ∧ ((f0 = .none ∧ f1 = false) ∨ ∃ a oa, f0 = rawInt ((a : Nat) : Int) ∧ h.get? a = some oa ∧ a ≠ it ∧ a ≠ S)
noncomputable abbrev pairO (x y : Value) : Obj := { cls := .type "tuple", data := .seq #[x, y] }
section
variable {prog : Program} {w : World} {A : Around} {E : Value → Shared → Prop} {s : Shared} {it d S : Addr} {i n ep : Nat} {es : Array DictEntry} {od : Obj}
theorem ItS.keep {h h' : Heap} (x : ItS h it d S i n ep) (hk : ∀ b o, b ≠ S → h.get? b = some o → h'.get? b = some o) (hI : it ≠ S) : ItS h' it d S i n ep := by
  obtain ⟨f0, f1, ok, ov, e, q⟩ := x
  refine ⟨f0, f1, ok, ov, hk _ _ hI e, q.imp id ?_⟩
  rintro ⟨a, oa, r1, r2, r3, r4⟩
  exact ⟨a, oa, r1, hk _ _ r4 r2, r3, r4⟩
theorem alive_ok {a : Addr} {o : Obj} {Q : Option Obj → Shared → Prop} (ho : s.heap.get? a = some o) (h : Q (some o) s) : wpAny (model prog w) A (loadIfAlive a) Q E s := by
  have h' : Q (s.heap.get? a) s := by rw [ho]; exact h
  exact fun o0 o0 o0 => h'
theorem dx_item {e : DictEntry} {Q : Option Value → Shared → Prop} (hst : ItS s.heap it d S i n ep) (hS : S < s.heap.objs.size) (hod : s.heap.get? d = some od) (hdd : od.data = .dict es ep) (hsz : es.size = n) (he : es[i]? = some e)
    (hQ : ∀ h', ItS h' it d S (i + 1) n ep → h'.get? s.heap.objs.size = some (pairO e.key e.val) → h'.objs.size = s.heap.objs.size + 1 → (∀ b o, b ≠ it → s.heap.get? b = some o → h'.get? b = some o) → Q (some (.ref s.heap.objs.size)) { s with heap := h' }) :
    wpAny (model prog w) A (pyNext (.ref it)) Q E s := by
  obtain ⟨f0, f1, ok, ov, hit, hf⟩ := hst
  obtain ⟨hp, g, dr, tk, os⟩ := s
  have hT : Shared.TypeIs ⟨hp, g, dr, tk, os⟩ (.ref it) "dict_itemiterator" := ⟨_, hit, rfl⟩
  unfold pyNext
  refine wpAny_bind (wpAny_attempt (wpAny_callSpecial?_slot (name := Str.ofString "__next__") hT PySem.F.slot_dict_itemiterator_next
    (wpAny_call_entry PySem.F.slot_dict_itemiterator_next hT PySem.F.entry_dict_itemiterator_next ?_ (PySem.F.args_dict_itemiterator_next_1 _))))
  refine wpAny_bind (wpAny_pure ?_)
  refine wpAny_bind ?_
  refine wpAny_bind ?_
  first | refine wpAny_bind (wpAny_typeNameOfWhole_itemiter hT (wpAny_pure ?_)) | refine wpAny_bind (wpAny_typeNameOf_itemiter hT (wpAny_pure ?_))
  refine wpAny_bind (wpAny_fieldsOf hit rfl ?_)
  rw [if_pos (show Builtin.Dict_items.ownsTuple "dict_itemiterator" = true by decide)]
  show wpAny _ _ (if (Value.ref d == Value.none) = true then _ else _) _ _ _
  rw [if_neg (show ¬ ((Value.ref d == Value.none) = true) from Bool.false_ne_true)]
  refine wpAny_bind (wpAny_pure ?_)
  refine wpAny_bind (wpAny_dictEntries hod hdd ?_)
  rw [if_neg (by rw [hsz]; simp)]
  refine wpAny_bind (wpAny_pure ?_)
  refine wpAny_bind (wpAny_dictEpoch hod hdd ?_)
  rw [if_neg (by simp)]
  refine wpAny_pure ?_
  dsimp only
  rw [if_neg (show ¬ ((i : Int) < 0) from Int.not_lt.mpr (Int.natCast_nonneg i)), Int.toNat_natCast, he]
  refine wpAny_bind ?_
  first | refine wpAny_bind (wpAny_typeNameOfWhole_itemiter hT (wpAny_pure ?_)) | refine wpAny_bind (wpAny_typeNameOf_itemiter hT (wpAny_pure ?_))
  refine wpAny_bind (wpAny_isOneOf_itemiter hT ?_)
  show wpAny _ _ (setField (.ref it) 3 (rawInt ((i : Int) + 1)) >>= _) _ _ ⟨hp, g, dr, tk, os⟩
  refine wpAny_bind (wpAny_setField_rec hit (by simp) fun h₁ he₁ hs₁ => ?_)
  replace hs₁ : Heap.SameBut it hp h₁ := hs₁
  replace he₁ : ItO h₁ it d f0 f1 (i + 1) n ep ok ov := by
    have e : ((i + 1 : Nat) : Int) = (i : Int) + 1 := by lia
    unfold ItO; rw [e]; simpa [rawInt] using he₁
  have hT₁ : Shared.TypeIs ⟨h₁, g, dr, tk, os⟩ (.ref it) "dict_itemiterator" := ⟨_, he₁, rfl⟩
  refine wpAny_bind (wpAny_holding ?_)
  refine wpAny_bind (wpAny_isOneOf_itemiter hT₁ ?_)
  refine wpAny_bind (wpAny_isOneOf_itemiter hT₁ ?_)
  show wpAny _ _ (Builtin.Dict_items.pairFromOwner (.ref it) 6 e.key e.val) _ _ ⟨h₁, g, dr, tk, os⟩
  unfold Builtin.Dict_items.pairFromOwner
  refine wpAny_bind (wpAny_newTuple ?_)
  have he₂ : ItO (h₁.push (pairO e.key e.val)) it d f0 f1 (i + 1) n ep ok ov := Heap.get?_push_of_some _ he₁
  generalize hh₂ : h₁.push (pairO e.key e.val) = h₂ at he₂
  have hz₁ : h₁.objs.size = hp.objs.size := hs₁.1
  have hil : it < hp.objs.size := Heap.lt_size hit
  have ht₂ : h₂.get? hp.objs.size = some (pairO e.key e.val) := by rw [← hh₂, ← hz₁]; exact Heap.get?_push_size _ rfl
  have hz₂ : h₂.objs.size = hp.objs.size + 1 := by rw [← hh₂, Heap.size_push, hz₁]
  have hk₂ : ∀ b o, b ≠ it → hp.get? b = some o → h₂.get? b = some o := fun b o hb e => by rw [← hh₂]; exact Heap.get?_push_of_some _ ((hs₁.2 b hb).trans e)
  show wpAny _ _ (Builtin.Dict_items.ownedTupleIsFree (.ref it) >>= _) _ _ ⟨h₂, g, dr, tk, os⟩
  rw [hz₁]
  clear hh₂ he₁ hs₁ hT₁ hz₁ h₁
  refine wpAny_bind ?_
  unfold Builtin.Dict_items.ownedTupleIsFree
  rcases hf with ⟨rfl, rfl⟩ | ⟨a, oa, rfl, ha, hai, haS⟩
  · refine wpAny_bind (wpAny_field he₂ rfl (x := .none) rfl (wpAny_pure ?_))
    simp only [if_true]
    refine wpAny_bind (wpAny_field he₂ rfl (x := ok) rfl ?_)
    refine wpAny_bind (wpAny_field he₂ rfl (x := ov) rfl ?_)
    refine wpAny_bind (wpAny_setField_rec he₂ (by simp) fun h₃ he₃ hs₃ => ?_)
    replace hs₃ : Heap.SameBut it h₂ h₃ := hs₃
    replace he₃ : ItO h₃ it d .none false (i + 1) n ep e.key ov := he₃
    refine wpAny_bind (wpAny_setField_rec he₃ (by simp) fun h₄ he₄ hs₄ => ?_)
    replace hs₄ : Heap.SameBut it h₃ h₄ := hs₄
    replace he₄ : ItO h₄ it d .none false (i + 1) n ep e.key e.val := he₄
    refine wpAny_bind (wpAny_setField_rec he₄ (by simp) fun h₅ he₅ hs₅ => ?_)
    replace hs₅ : Heap.SameBut it h₄ h₅ := hs₅
    replace he₅ : ItO h₅ it d (rawInt ((hp.objs.size : Nat) : Int)) false (i + 1) n ep e.key e.val := he₅
    refine wpAny_bind (wpAny_setField_rec he₅ (by simp) fun h₆ he₆ hs₆ => ?_)
    replace hs₆ : Heap.SameBut it h₅ h₆ := hs₆
    replace he₆ : ItO h₆ it d (rawInt ((hp.objs.size : Nat) : Int)) false (i + 1) n ep e.key e.val := he₆
    have up : ∀ b o, b ≠ it → h₂.get? b = some o → h₆.get? b = some o := fun b o hb e => (hs₆.2 b hb).trans ((hs₅.2 b hb).trans ((hs₄.2 b hb).trans ((hs₃.2 b hb).trans e)))
    have hpi : hp.objs.size ≠ it := Nat.ne_of_gt hil
    refine wpAny_bind (wpAny_letGo (wpAny_pure (wpAny_pure ⟨_, rfl, wpAny_pure (hQ h₆ ⟨_, _, _, _, he₆, .inr ⟨_, _, rfl, up _ _ hpi ht₂, hpi, Nat.ne_of_gt hS⟩⟩ (up _ _ hpi ht₂) ?_ fun b o hb e => up b o hb (hk₂ b o hb e))⟩)))
    show h₆.objs.size = hp.objs.size + 1
    rw [hs₆.1, hs₅.1, hs₄.1, hs₃.1, hz₂]
  · have ha₂ : h₂.get? a = some oa := hk₂ a oa hai ha
    refine wpAny_bind (wpAny_field he₂ rfl (x := rawInt ((a : Nat) : Int)) rfl ?_)
    show wpAny _ _ (loadIfAlive (((a : Nat) : Int).toNat) >>= _) _ _ _
    rw [Int.toNat_natCast]
    refine wpAny_bind (alive_ok ha₂ ?_)
    simp only [Option.isNone_some, Bool.false_eq_true, if_false]
    refine wpAny_bind (wpAny_field he₂ rfl (x := .bool f1) rfl ?_)
    have fin : ∀ h₃ : Heap, ItO h₃ it d (rawInt ((a : Nat) : Int)) true (i + 1) n ep ok ov → Heap.SameBut it h₂ h₃ → Q (some (.ref hp.objs.size)) ⟨h₃, g, dr, tk, os⟩ := fun h₃ he₃ hs₃ =>
      hQ h₃ ⟨_, _, _, _, he₃, .inr ⟨a, oa, rfl, (hs₃.2 a hai).trans ha₂, hai, haS⟩⟩ ((hs₃.2 _ (Nat.ne_of_gt hil)).trans ht₂) (by show h₃.objs.size = hp.objs.size + 1; rw [hs₃.1, hz₂]) fun b o hb e => (hs₃.2 b hb).trans (hk₂ b o hb e)
    cases f1 with
    | true =>
      rw [if_neg (show ¬ ((Value.bool true != Value.bool true) = true) from Bool.false_ne_true)]
      refine wpAny_pure ?_
      simp only [Bool.false_eq_true, if_false]
      exact wpAny_pure (wpAny_pure ⟨_, rfl, wpAny_pure (fin h₂ he₂ (Heap.SameBut.refl _ _))⟩)
    | false =>
      rw [if_pos (show (Value.bool false != Value.bool true) = true from rfl)]
      refine wpAny_bind (wpAny_setField_rec he₂ (by simp) fun h₃ he₃ hs₃ => ?_)
      replace hs₃ : Heap.SameBut it h₂ h₃ := hs₃
      replace he₃ : ItO h₃ it d (rawInt ((a : Nat) : Int)) true (i + 1) n ep ok ov := he₃
      refine wpAny_pure ?_
      simp only [Bool.false_eq_true, if_false]
      exact wpAny_pure (wpAny_pure ⟨_, rfl, wpAny_pure (fin h₃ he₃ hs₃)⟩)
theorem dx_end {Q : Option Value → Shared → Prop} (hh : A.handled = none) (hst : ItS s.heap it d S i n ep) (hod : s.heap.get? d = some od) (hdd : od.data = .dict es ep) (hsz : es.size = n) (hi : n ≤ i)
    (hQ : ∀ h', Heap.ExtBut it s.heap h' → Q none { s with heap := h' }) : wpAny (model prog w) A (pyNext (.ref it)) Q E s := by
  obtain ⟨f0, f1, ok, ov, hit, _⟩ := hst
  have hT : s.TypeIs (.ref it) "dict_itemiterator" := ⟨_, hit, rfl⟩
  unfold pyNext
  refine wpAny_bind (wpAny_attempt (wpAny_callSpecial?_slot (name := Str.ofString "__next__") hT PySem.F.slot_dict_itemiterator_next
    (wpAny_call_entry PySem.F.slot_dict_itemiterator_next hT PySem.F.entry_dict_itemiterator_next ?_ (PySem.F.args_dict_itemiterator_next_1 _))))
  refine wpAny_bind (wpAny_pure ?_)
  refine wpAny_bind ?_
  refine wpAny_bind ?_
  first | refine wpAny_bind (wpAny_typeNameOfWhole_itemiter hT (wpAny_pure ?_)) | refine wpAny_bind (wpAny_typeNameOf_itemiter hT (wpAny_pure ?_))
  refine wpAny_bind (wpAny_fieldsOf hit rfl ?_)
  rw [if_pos (show Builtin.Dict_items.ownsTuple "dict_itemiterator" = true by decide)]
  show wpAny _ _ (if (Value.ref d == Value.none) = true then _ else _) _ _ s
  rw [if_neg (show ¬ ((Value.ref d == Value.none) = true) from Bool.false_ne_true)]
  refine wpAny_bind (wpAny_pure ?_)
  refine wpAny_bind (wpAny_dictEntries hod hdd ?_)
  rw [if_neg (by rw [hsz]; simp)]
  refine wpAny_bind (wpAny_pure ?_)
  refine wpAny_bind (wpAny_dictEpoch hod hdd ?_)
  rw [if_neg (by simp)]
  refine wpAny_pure ?_
  dsimp only
  rw [if_neg (show ¬ ((i : Int) < 0) from Int.not_lt.mpr (Int.natCast_nonneg i)), Int.toNat_natCast, Array.getElem?_eq_none (show es.size ≤ i by lia)]
  refine wpAny_bind ?_
  first | refine wpAny_bind (wpAny_typeNameOfWhole_itemiter hT (wpAny_pure ?_)) | refine wpAny_bind (wpAny_typeNameOf_itemiter hT (wpAny_pure ?_))
  show wpAny _ _ (setField (.ref it) 2 .none >>= _) _ _ s
  refine wpAny_bind (wpAny_setField hit rfl (by simp) ?_)
  show wpAny _ _ (newExc (.type "StopIteration") [] >>= _) _ _ _
  refine wpAny_bind ?_
  simp only [newExc, newTuple]
  refine wpAny_bind (wpAny_newObj_type ?_ (by size_fits))
  refine wpAny_bind (m := firstArgMember _ _) (wpAny_of_eq (a := Value.none) (by first | rfl | (simp only [firstArgMember]; rfl)) ?_)
  refine wpAny_newObj_type ?_ (by size_fits)
  show wpAny _ _ (handled >>= _) _ _ _
  refine wpAny_bind (wpAny_handled ?_)
  rw [show A.in1.handled = none from hh]
  refine wpAny_bind (wpAny_pure (wpAny_throw ?_))
  refine wpAny_bind (wpAny_isInstance (T := "StopIteration") (b := true) ⟨_, Heap.get?_push_size _ rfl, rfl⟩ isSubtype_stop ?_)
  exact wpAny_pure (hQ _ (((Heap.SameBut.update ..).extBut.push _).push _))
end
end Mine.Internal
namespace Mine.Internal
open PySem PySem.W PyProof.Rows
noncomputable abbrev arrO (acc : Array Value) (c : Nat) : Obj := { cls := .type "list", dict := none, data := .seq acc c, slots := #[] }
noncomputable def AsOk (h : Heap) (I : Addr) (es : Array DictEntry) (as : List Addr) : Prop := ∀ (j : Nat) (a : Addr), as[j]? = some a → I < a ∧ ∃ e, es[j]? = some e ∧ h.get? a = some (pairO e.key e.val)
section
variable {prog : Program} {w : World} {A : Around} {E : Value → Shared → Prop} {s : Shared} {d S I r : Addr} {n ep : Nat} {es : Array DictEntry} {od : Obj} {R : Result → Shared → Prop}
theorem AsOk.move {h h' : Heap} {as : List Addr} (g : AsOk h I es as) (hk : ∀ b o, I < b → h.get? b = some o → h'.get? b = some o) : AsOk h' I es as := fun j a hj => by
  obtain ⟨h1, e, h2, h3⟩ := g j a hj
  exact ⟨h1, e, h2, hk a _ h1 h3⟩
theorem dx_loop (hh : A.handled = none) (hSI : S < I) (hSd : d ≠ S) (hId : d ≠ I) (hn : n ≤ 1000) (hsz : es.size = n) (hdd : od.data = .dict es ep) (res : Value) {h₁ : Heap}
    (hR : ∀ h' tk acc c as, (∀ b o, b ≠ S → b ≠ I → h₁.get? b = some o → h'.get? b = some o) → h'.get? S = some (arrO acc c) → as.length = n → AsOk h' I es as → acc.toList = as.map Value.ref → R (.ok (.ret res)) { s with heap := h', toks := tk }) :
    ∀ (k i : Nat) (h : Heap) (tk c : Nat) (acc : Array Value) (as : List Addr), n - i = k → i ≤ n → ItS h I d S i n ep → h.get? d = some od → (∀ b o, b ≠ S → b ≠ I → h₁.get? b = some o → h.get? b = some o) → h.get? S = some (arrO acc c) →
      acc.toList = as.map Value.ref → as.length = i → AsOk h I es as → I < h.objs.size → codeAny (model prog w) A (.builtin "list.extend.loop" ⟨[.ref S, .ref I, res], []⟩) R { s with heap := h, toks := tk } := by
  have hne : S ≠ I := Nat.ne_of_lt hSI
  intro k
  induction k with
  | zero =>
    intro i h tk c acc as hk hi hst hod hkeep hS hacc hal hG hIs
    refine codeAny_builtin PySem.F.entry_extend_loop ?_
    rw [Around.under_plainId PySem.F.plain_extend_loop _]
    show wpAny _ A.in1 (pyNext (.ref I) >>= _) _ _ _
    refine wpAny_bind (dx_end (s := { s with heap := h, toks := tk }) (A := A.in1) hh hst hod hdd hsz (by lia) fun h' he => ?_)
    exact wpAny_pure (hR h' tk acc c as (fun b o h1 h2 e => he b o h2 (hkeep b o h1 h2 e)) (he S _ hne hS) (by lia) (hG.move fun b o hb e => he b o (Nat.ne_of_gt hb) e) hacc)
  | succ k ih =>
    intro i h tk c acc as hk hi hst hod hkeep hS hacc hal hG hIs
    have hlt : i < es.size := by lia
    have hz : acc.size = i := by rw [← Array.length_toList, hacc, List.length_map, hal]
    refine codeAny_builtin PySem.F.entry_extend_loop ?_
    rw [Around.under_plainId PySem.F.plain_extend_loop _]
    show wpAny _ A.in1 (pyNext (.ref I) >>= _) _ _ _
    refine wpAny_bind (dx_item (s := { s with heap := h, toks := tk }) (S := S) hst (Heap.lt_size hS) hod hdd hsz (Array.getElem?_eq_getElem hlt) fun h' hst' ht hz' hkp => ?_)
    dsimp only at ht hz' hkp ⊢
    have hS' := hkp S _ hne hS
    have up : ∀ b o, b ≠ S → h'.get? b = some o → (h'.update S (Obj.mapSeq (·.push (Value.ref h.objs.size)))).get? b = some o := fun b o hb e => (Heap.get?_update_other _ _ (Ne.symm hb)).trans e
    have hSl : S < h.objs.size := Heap.lt_size hS
    show wpAny _ A.in1 (updateSeq S (·.push (Value.ref h.objs.size)) >>= _) _ _ _
    refine wpAny_bind ?_
    refine wpAny_updateSeq hS' rfl (wpAny_pure ⟨plainId_quiet PySem.F.plain_extend_loop _, ih (i + 1) _ tk _ (acc.push (Value.ref h.objs.size)) (as ++ [h.objs.size]) (by lia) (by lia) (hst'.keep up (Ne.symm hne)) (up d _ hSd (hkp d _ hId hod))
      (fun b o h1 h2 e => up b o h1 (hkp b o h2 (hkeep b o h1 h2 e))) (Heap.get?_update_self _ hS' rfl) (by rw [Array.toList_push, hacc, List.map_append]; rfl) (by rw [List.length_append, hal]; rfl) (fun j b hj => ?_) ?_⟩) (by rw [hz]; simp only [sizeLine]; lia) (by show (acc.push (Value.ref h.objs.size)).size ≤ sizeLine + 1; rw [Array.size_push, hz]; simp only [sizeLine]; lia)
    · rcases Nat.lt_trichotomy j as.length with h1 | h1 | h1
      · rw [List.getElem?_append_left h1] at hj
        obtain ⟨q1, e, q2, q3⟩ := hG j b hj
        exact ⟨q1, e, q2, up b _ (Nat.ne_of_gt (Nat.lt_trans hSI q1)) (hkp b _ (Nat.ne_of_gt q1) q3)⟩
      · subst h1
        have hb : h.objs.size = b := by simpa using hj
        subst hb
        exact ⟨hIs, _, by rw [hal]; exact Array.getElem?_eq_getElem hlt, up _ _ (Nat.ne_of_gt hSl) ht⟩
      · have hnone : (as ++ [h.objs.size])[j]? = none := List.getElem?_eq_none (by rw [List.length_append, List.length_singleton]; lia)
        rw [hnone] at hj; cases hj
    · exact Nat.lt_trans hIs (Heap.lt_size (up _ _ (Nat.ne_of_gt hSl) ht))
theorem dx_iter {Q : Value → Shared → Prop} (hv : s.heap.IsItemsView r d) (hod : s.heap.get? d = some od) (hdd : od.data = .dict es ep) (hsz : es.size = n)
    (hQ : Q (.ref s.heap.objs.size) { s with heap := s.heap.push { cls := .type "dict_itemiterator", data := .fields #[.none, .bool false, .ref d, .int 0 0, .int n 0, .int ep 0, .none, .none] } }) :
    wpAny (model prog w) A (pyIter (.ref r)) Q E s := by
  obtain ⟨ov, hov, hcv, hdv⟩ := id hv
  refine wpAny_pyIter_slot hv.typeIs PySem.F.slot_dict_items_iter (wpAny_call_entry PySem.F.slot_dict_items_iter hv.typeIs PySem.F.entry_dict_items_iter ?_ (PySem.F.args_dict_items_iter_1 _))
  unfold Builtin.«dict_items.__iter__»
  refine wpAny_bind (wpAny_pure ?_)
  refine wpAny_bind ?_
  unfold Builtin.Dict_items.dictOf
  refine wpAny_bind (wpAny_field hov hdv (x := .ref d) rfl (wpAny_pure ?_))
  refine wpAny_bind ?_
  unfold Builtin.Dict_items.newIterator
  refine wpAny_bind (wpAny_dictEntries hod hdd ?_)
  refine wpAny_bind (wpAny_dictEpoch hod hdd ?_)
  simp only [show Builtin.Dict_items.ownsTuple "dict_itemiterator" = true by decide, if_true]
  refine wpAny_newObj_type (wpAny_pure ⟨_, rfl, "dict_itemiterator", _, ⟨_, Heap.get?_push_size _ rfl, rfl⟩, PySem.F.slot_dict_itemiterator_next.lookup, ?_⟩)
    (by simp only [sizeOk, Builtin.Dict_items.ownedTupleFields, List.size_toArray, List.length_append, List.length_cons, List.length_nil, sizeLine_eq]; lia)
  simpa [rawInt, hsz, Builtin.Dict_items.ownedTupleFields] using hQ
theorem dx_extend (hh : A.handled = none) (hv : s.heap.IsItemsView r d) (hod : s.heap.get? d = some od) (hdd : od.data = .dict es ep) (hsz : es.size = n) (hn : n ≤ 1000) (S : Addr) (hSr : S ≠ r) (hSd : d ≠ S) (res : Value) (c₀ : Nat) (hS : s.heap.get? S = some (arrO #[] c₀))
    (hR : ∀ h' tk acc c as, (∀ b o, b ≠ S → s.heap.get? b = some o → h'.get? b = some o) → h'.get? S = some (arrO acc c) → as.length = n → AsOk h' s.heap.objs.size es as → acc.toList = as.map Value.ref → R (.ok (.ret res)) { s with heap := h', toks := tk }) :
    wpAny (model prog w) A.in1 (Builtin.List.listExtendWith (.ref S) (.ref r) res)
      (fun fin s' => match fin with | .done f => R (.ok f) s' | .again c' => c'.quiet = true ∧ codeAny (model prog w) A c' R s') (fun e s' => R (.error e) s') s := by
  have hSI : S < s.heap.objs.size := Heap.lt_size hS
  have hdI : d < s.heap.objs.size := Heap.lt_size hod
  have key : ∀ (h : Heap) (c₁ tk : Nat), (∀ b o, b ≠ S → (s.heap.push { cls := .type "dict_itemiterator", data := .fields #[.none, .bool false, .ref d, .int 0 0, .int n 0, .int ep 0, .none, .none] }).get? b = some o → h.get? b = some o) →
      h.get? S = some (arrO #[] c₁) → codeAny (model prog w) A (.builtin "list.extend.loop" ⟨[.ref S, .ref s.heap.objs.size, res], []⟩) R { s with heap := h, toks := tk } := by
    intro h c₁ tk hk hS₁
    have hI := hk s.heap.objs.size _ (Nat.ne_of_gt hSI) (Heap.get?_push_size _ rfl)
    exact dx_loop (h₁ := s.heap) hh hSI hSd (Nat.ne_of_lt hdI) hn hsz hdd res (fun h' tk' acc c as hk' hS' hl hG hacc => hR h' tk' acc c as (fun b o hb e => hk' b o hb (Nat.ne_of_lt (Heap.lt_size e)) e) hS' hl hG hacc)
      n 0 h tk c₁ #[] [] (Nat.sub_zero _) (Nat.zero_le _) ⟨_, _, _, _, hI, .inl ⟨rfl, rfl⟩⟩ (hk d od hSd (Heap.get?_push_of_some _ hod)) (fun b o hb o0 e => hk b o hb (Heap.get?_push_of_some _ e)) hS₁ rfl rfl (fun j a hj => by simp at hj) (Heap.lt_size hI)
  unfold Builtin.List.listExtendWith
  refine wpAny_bind (wpAny_typeOf (T := "dict_items") hv.typeIs ?_)
  have h1 : Builtin.List.listSameRef (.ref S) (.ref r) = false := by simp [Builtin.List.listSameRef, hSr]
  simp only [h1, show (Value.type "dict_items" == Value.type "list") = false by decide, show (Value.type "dict_items" == Value.type "tuple") = false by decide, Bool.or_false, Bool.false_eq_true, if_false]
  refine wpAny_bind (dx_iter hv hod hdd hsz ?_)
  have hS₁ := Heap.get?_push_of_some { cls := .type "dict_itemiterator", data := .fields #[.none, .bool false, .ref d, .int 0 0, .int n 0, .int ep 0, .none, .none] } hS
  refine wpAny_bind (wpAny_holding (kdx_hint (let ⟨o, ho, hc, _⟩ := hv; ⟨o, Heap.get?_push_of_some _ ho, hc⟩) ?_))
  refine wpAny_ite_split (fun o0 => ?_) (fun o0 => wpAny_pure ⟨plainId_quiet PySem.F.plain_extend_loop _, key _ c₀ _ (fun b o o0 e => e) hS₁⟩)
  refine wpAny_bind (wpAny_rule ?_)
  refine wpAny_bind ?_
  show wpAny _ _ (updateSeq S (·.push .none) >>= fun o0 => updateSeq S (·.pop)) _ _ _
  refine wpAny_bind (wpAny_updateSeq hS₁ rfl ?_)
  have hS₂ := Heap.get?_update_self (Obj.mapSeq (·.push Value.none)) hS₁ rfl
  refine wpAny_updateSeq (hz := by seq_fits) hS₂ rfl ?_
  have hS₃ := Heap.get?_update_self (Obj.mapSeq (·.pop)) hS₂ rfl
  exact wpAny_pure ⟨plainId_quiet PySem.F.plain_extend_loop _, key _ _ _ (fun b o hb e => (Heap.get?_update_other _ _ (Ne.symm hb)).trans ((Heap.get?_update_other _ _ (Ne.symm hb)).trans e)) hS₃⟩
theorem dx_init (hh : A.handled = none) (hv : s.heap.IsItemsView r d) (hod : s.heap.get? d = some od) (hdd : od.data = .dict es ep) (hsz : es.size = n) (hn : n ≤ 1000) (S : Addr) (hSr : S ≠ r) (hSd : d ≠ S) (hS : s.heap.get? S = some (arrO #[] 0))
    (hR : ∀ h' tk acc c as, (∀ b o, b ≠ S → s.heap.get? b = some o → h'.get? b = some o) → h'.get? S = some (arrO acc c) → as.length = n → AsOk h' S es as → acc.toList = as.map Value.ref → R (.ok (.ret .none)) { s with heap := h', toks := tk }) :
    wpAny (model prog w) A.in1 (Builtin.«list.__init__» ⟨[.ref S, .ref r], []⟩)
      (fun fin s' => match fin with | .done f => R (.ok f) s' | .again c' => c'.quiet = true ∧ codeAny (model prog w) A c' R s') (fun e s' => R (.error e) s') s := by
  show wpAny _ _ (do let old ← Builtin.List.listItems (.ref S); Builtin.List.listUpdate (.ref S) (fun o0 => #[]); letGo old.toList.reverse; Builtin.List.listExtendWith (.ref S) (.ref r) .none) _ _ s
  refine wpAny_bind ?_
  unfold Builtin.List.listItems
  refine wpAny_bind (wpAny_seqItems hS rfl (wpAny_pure ?_))
  show wpAny _ _ (updateSeq S (fun o0 => #[]) >>= fun o0 => letGo (#[] : Array Value).toList.reverse >>= fun o0 => Builtin.List.listExtendWith (.ref S) (.ref r) .none) _ _ s
  refine wpAny_bind (wpAny_updateSeq hS rfl ?_)
  have hS₂ := Heap.get?_update_self (Obj.mapSeq (fun o0 => (#[] : Array Value))) hS rfl
  have oth : ∀ b o, b ≠ S → s.heap.get? b = some o → (s.heap.update S (Obj.mapSeq (fun o0 => (#[] : Array Value)))).get? b = some o :=
    fun b o hb e => (Heap.get?_update_other _ _ (Ne.symm hb)).trans e
  refine wpAny_bind (wpAny_letGo ?_)
  refine dx_extend (n := n) hh (let ⟨o, ho, x⟩ := hv; ⟨o, oth r o hSr.symm ho, x⟩) (oth d od hSd hod) hdd hsz hn S hSr hSd .none _ hS₂ fun h' tk acc c as hk hS' hl hG hacc => ?_
  exact hR h' tk acc c as (fun b o hb e => hk b o hb (oth b o hb e)) hS' hl (fun j a hj => by obtain ⟨q1, q2⟩ := hG j a hj; exact ⟨Nat.lt_trans (Heap.lt_size hS₂) q1, q2⟩) hacc
theorem dx_list {Q : Value → Shared → Prop} (hh : A.handled = none) (hv : s.heap.IsItemsView r d) (hod : s.heap.get? d = some od) (hdd : od.data = .dict es ep) (hsz : es.size = n) (hn : n ≤ 1000)
    (hQ : ∀ h' tk acc c as, (∀ b o, s.heap.get? b = some o → h'.get? b = some o) → h'.get? s.heap.objs.size = some (arrO acc c) → as.length = n → AsOk h' s.heap.objs.size es as → acc.toList = as.map Value.ref → Q (.ref s.heap.objs.size) { s with heap := h', toks := tk }) :
    wpAny (model prog w) A (call (.type "list") [.ref r]) Q E s := by
  refine callType_codes (Q₁ := fun obj s₁ => obj = .ref s.heap.objs.size ∧ s₁ = { s with heap := s.heap.push { cls := .type "list", data := .seq #[] } }) PySem.F.called_list (PySem.F.typeCall_list_1 _) PySem.F.entry_list_init
    (code_list_new _ ⟨rfl, rfl⟩) fun obj s₁ h₁ => ?_
  obtain ⟨rfl, rfl⟩ := h₁
  have hS : (s.heap.push { cls := .type "list", data := .seq #[] }).get? s.heap.objs.size = some { cls := .type "list", data := .seq #[] } := Heap.get?_push_size _ rfl
  have hr : r < s.heap.objs.size := let ⟨_, ho, _⟩ := hv; Heap.lt_size ho
  have hd : d < s.heap.objs.size := Heap.lt_size hod
  refine ⟨⟨_, hS, rfl⟩, PySem.F.args_list_init_2 _ _, dx_init (n := n) (A := A.in1) hh (let ⟨o, ho, x⟩ := hv; ⟨o, Heap.get?_push_of_some _ ho, x⟩) (Heap.get?_push_of_some _ hod) hdd hsz hn _ (Nat.ne_of_gt hr) (Nat.ne_of_lt hd) hS fun h' tk acc c as hk hS' hl hG hacc => ?_⟩
  exact ⟨rfl, hQ h' tk acc c as (fun b o e => hk b o (Nat.ne_of_lt (Heap.lt_size e)) (Heap.get?_push_of_some _ e)) hS' hl hG hacc⟩
theorem dx_view {Q : Value → Shared → Prop} (hT : s.TypeIs (.ref d) "dict") (lo : (d == sysModules) = false)
    (h : Q (.ref s.heap.objs.size) { s with heap := s.heap.push { cls := .type "dict_items", data := .fields #[.ref d] } }) : wpAny (model prog w) A (call (.builtin "dict.items") [.ref d]) Q E s := by
  refine call_meetsIn PySem.F.slot_dict_items hT PySem.F.entry_dict_items (PySem.F.args_dict_items_1 _) (S := fun A R s => s.TypeIs (.ref d) "dict" ∧ R (.ok (.ret (.ref s.heap.objs.size))) { s with heap := s.heap.push { cls := .type "dict_items", data := .fields #[.ref d] } }) (.of_wp fun A R s ⟨hT, h⟩ => ?_) ⟨hT, h⟩
  unfold Builtin.«dict.items»
  refine wpAny_bind ?_
  unfold Builtin.Dict.noArgs
  refine wpAny_bind (wpAny_notOrdered_dict hT ?_)
  show wpAny _ _ (pure d) _ _ s
  refine wpAny_pure ?_
  show wpAny _ _ (Builtin.Dict.showsAll d >>= _) _ _ s
  unfold Builtin.Dict.showsAll
  rw [if_neg (by rw [lo]; exact Bool.false_ne_true)]
  refine wpAny_bind (wpAny_pure ?_)
  exact wpAny_bind (wpAny_newObj_type (wpAny_pure ⟨_, rfl, h⟩))
end
end Mine.Internal
namespace Mine.Internal
open PySem PySem.W PyProof.Rows
section
variable {prog : Program} {w : World} {A : Around} {E : Value → Shared → Prop} {s : Shared} {X Y : Av} {d a : Addr} {h h' : Heap}
theorem lst_no_keys : typeLookup (.type "list") "keys" = pure none := am_miss_of_fast (by decide +kernel)
theorem keys_none {vs : List Value} {k : Nat} {Q : Option Value → Shared → Prop} (hx : s.heap.get? a = some (lstO vs k)) (hA : A.handled = none) (h : ∀ h' tk, KeepsH s.heap h' → Q none { s with heap := h', toks := tk }) :
    wpAny (model prog w) A (getAttr? (.ref a) "keys") Q E s := by
  obtain ⟨hp, g, d, tk, os⟩ := s
  have hT : ∀ tk', (⟨hp, g, d, tk', os⟩ : Shared).TypeIs (.ref a) "list" := fun o0 => ⟨_, hx, rfl⟩
  have f1 := sub_AttributeError
  have f3 := PySem.F.slot_list_getattribute.lookup
  have f4 := PySem.F.slot_list_getattribute.bind (.ref a)
  have f5 := am_list_getattr_none
  unfold getAttr? getAttrBy? getAttrBy
  repeat (any_goals (first | assumption | exact hT _ | ((with_reducible show wpAny _ _ (call (Value.builtin "list.__getattribute__") _ _) _ _ _); refine call_meets PySem.F.slot_list_getattribute (hT _) am_entry_list_getattribute (PySem.F.args_list_getattribute_2 _ _) (meets_getattribute_miss_list a vs.toArray k #[] _ _ lst_no_keys (by decide)) ⟨hx, hA, fun h' tk' e hx' => ?_⟩) | wp_step))
  obtain ⟨t', u', he⟩ := hx'.there
  show wpAny _ _ (getattributeRaised _ _ _ _ _ _ _) _ _ _
  unfold getattributeRaised
  repeat (any_goals (first | assumption | wp_step))
  exact h _ _ hx'.keeps
theorem key_rep {ad : Addr} {x y : Int} (i : IsTupleKey (intKind prog w) h [x, y] ad) (ya : ¬ Y ad) : Rep h Y (.ref ad) (.tup [.int x, .int y]) := by
  obtain ⟨o, items, n, e, c, dt, ia⟩ := i
  have : ∃ t t', items.toList = [.int x t, .int y t'] := by
    generalize items.toList = l at ia
    cases ia with | cons i1 ia => ?_
    cases ia with | cons i2 ia => ?_
    cases ia
    obtain ⟨t, rfl⟩ := Value.isInt_shape i1
    obtain ⟨t', rfl⟩ := Value.isInt_shape i2
    exact ⟨t, t', rfl⟩
  obtain ⟨t, t', hl⟩ := this
  refine .tup (vs := items.toList) e c (by simpa using dt) ya (by rw [hl]; simp [LL]) ?_
  rw [hl]
  exact .cons (.int _ _) (.cons (.int _ _) .nil)
theorem ents_reps {es : List DictEntry} {xs : List (List Int × Addr × Value)} {td : List (Q × Int)} (en : Ents xs td) (he : es = xs.map (entryOfKey (ik prog w))) (hk : ∀ x ∈ xs, IsTupleKey (intKind prog w) h x.1 x.2.1 ∧ ¬ Y x.2.1) : ∀ {as : List Addr}, as.length = td.length →
    (∀ (j : Nat) (a : Addr), as[j]? = some a → ¬ Y a ∧ ∃ e, es[j]? = some e ∧ h.get? a = some (pairO e.key e.val)) → RepL h Y (as.map Value.ref) (td.map eR) := by
  subst he
  induction en with
  | nil => intro as hl _; rw [List.length_eq_zero_iff.mp hl]; exact .nil
  | @cons x y c ad t r td en ih =>
    intro as hl hj
    cases as with
    | nil => simp at hl
    | cons a as =>
      obtain ⟨ya, e, h1, h2⟩ := hj 0 a rfl
      obtain ⟨k1, k2⟩ := hk _ List.mem_cons_self
      simp only [List.map_cons, List.getElem?_cons_zero, Option.some.injEq] at h1
      subst h1
      refine .cons ?_ (ih (fun z hz => hk z (List.mem_cons_of_mem _ hz)) (by simpa using hl) fun j b hb => ?_)
      · exact .tup (vs := [.ref ad, .int c t]) h2 rfl rfl ya (by simp [LL]) (.cons (key_rep k1 k2) (.cons (.int _ _) .nil))
      · have := hj (j + 1) b (by simpa using hb)
        simpa using this
theorem items_list {td : List (Q × Int)} {Q : Value → Shared → Prop} (hh : A.handled = none) (old : ∀ b, Y b → ∃ o, s.heap.get? b = some o) (T : TD prog w s.heap Y d td) (hl : td.length ≤ 1000)
    (hQ : ∀ v s', Gd s Y (.lst (td.map eR)) v s' → Q v s') : wpAny (model prog w) A (call (.builtin "dict.items") [.ref d]) (fun v s' => wpAny (model prog w) A (call (.type "list") [v]) Q E s') E s := by
  obtain ⟨yd, sm, xs, ⟨o, es, ep, ho, hc, hd, he, his, hn⟩, ya, en⟩ := id T
  refine dx_view ⟨o, ho, hc.1⟩ sm ?_
  have kp : KeepsH s.heap (s.heap.push { cls := .type "dict_items", data := .fields #[.ref d] }) := fun o0 o0 e => Heap.get?_push_of_some _ e
  have hsz : es.size = td.length := by rw [← Array.length_toList, he, List.length_map, en.length]
  refine dx_list (n := td.length) hh ⟨_, Heap.get?_push_size _ rfl, rfl, rfl⟩ (kp _ _ ho) hd hsz hl fun h' tk acc c as hk hS hal hG hacc => hQ _ _ ?_
  have kk : KeepsH s.heap h' := fun b o e => hk b o (kp b o e)
  have fresh : ∀ b, s.heap.objs.size ≤ b → ¬ Y b := fun b hb y => by
    obtain ⟨o, e⟩ := old b y
    exact absurd (Heap.lt_size e) (Nat.not_lt.mpr hb)
  have hz : (s.heap.push { cls := .type "dict_items", data := .fields #[.ref d] }).objs.size = s.heap.objs.size + 1 := by rw [Heap.size_push]
  refine ⟨⟨h', tk, rfl, kk⟩, .lst (vs := as.map Value.ref) (n := c) ?_ (fresh _ (by show s.heap.objs.size ≤ (s.heap.push _).objs.size; rw [hz]; lia)) (by rw [List.length_map, hal]; simp only [LL]; lia) (ents_reps en he (fun x hx => ⟨?_, ya x hx⟩) hal fun j a hj => ?_)⟩
  · rw [hS]; rw [← hacc]
  · obtain ⟨o', items, n, e1, e2⟩ := his x hx
    exact ⟨o', items, n, kk _ _ e1, e2⟩
  · obtain ⟨q1, e, q2, q3⟩ := hG j a hj
    exact ⟨fresh _ (by have : (s.heap.push _).objs.size < a := q1; rw [hz] at this; lia), e, by rw [Array.getElem?_toList]; exact q2, q3⟩
theorem plain_upd_loop : plainId "dict.update.loop" = true := by decide +kernel
theorem entry_upd_loop : entryFor table "dict.update.loop" = some Builtin.«dict.update.loop» := entryFor_of_tree (by kernel_rfl)
theorem rep_pair {v : Value} {x : Q × Int} (r : Rep h Y v (eR x)) : ∃ b kv t n o, v = .ref b ∧ h.get? b = some o ∧ o.cls = .type "tuple" ∧ o.data = .seq #[kv, .int x.2 t] n ∧ Rep h Y kv (.tup [.int x.1.1, .int x.1.2]) := by
  obtain ⟨a, vs, rfl, ⟨o, e, c, n, dt⟩, y, l, q⟩ := Rep.isTup (l := [.tup [.int x.1.1, .int x.1.2], .int x.2]) r
  obtain ⟨kv, vs, rfl, r1, q⟩ := q.inv
  obtain ⟨u, vs, rfl, r2, q⟩ := q.inv
  cases (q.inv : vs = [])
  obtain ⟨t, rfl⟩ := r2.isInt
  exact ⟨_, _, _, _, _, rfl, e, c, dt, r1⟩
theorem upd_loop {R : Result → Shared → Prop} (hh : A.handled = none) (hu : A.in1.units < cLine) {l it : Addr} {vs : List Value} {nl : Nat} {td : List (Q × Int)} {s : Shared} (hl : s.heap.get? l = some (lstO vs nl)) (rv : RepL s.heap Y vs (td.map eR)) (hn : nodK td = true) (ht : td.length ≤ 1000)
    (di : d ≠ it) (dn : s.heap.get? d = none) (tn : s.heap.get? it = none)
    (hR : ∀ h' tk, KeepsH s.heap h' → TD prog w h' (fun b => Y b ∨ b = it) d td → R (.ok (.ret .none)) { s with heap := h', toks := tk }) :
    ∀ (k i : Nat) (h : Heap) (tk : Nat), td.length - i = k → i ≤ td.length → h.IsListIter it l i → TD prog w h (fun b => Y b ∨ b = it) d (td.take i) → KeepsH s.heap h →
      codeAny (model prog w) A (.builtin "dict.update.loop" ⟨[.ref d, .ref it, .int i 0, .none], []⟩) R { s with heap := h, toks := tk } := by
  have hvl : vs.length = td.length := by rw [rv.length, List.length_map]
  intro k
  induction k with
  | zero =>
    intro i h tk hk hi hit T kk
    refine codeAny_builtin entry_upd_loop ?_
    rw [Around.under_plainId plain_upd_loop _]
    show wpAny _ A.in1 (pyNext (.ref it) >>= _) _ _ _
    refine wpAny_bind (wpAny_pyNext_list_end (s := { s with heap := h, toks := tk }) (A := A.in1) hh hit (lst_is (kk _ _ hl)) (by simp; lia) fun h' he => ?_)
    show wpAny _ _ (Builtin.Dict.addKeywords d [] >>= _) _ _ _
    have e : i = td.length := by lia
    rw [e, List.take_length] at T
    refine wpAny_bind (wpAny_pure (wpAny_pure (hR h' tk (fun b o e => he b o (by rintro rfl; rw [tn] at e; cases e) (kk b o e)) (T.move fun b o e y => ⟨he b o (fun q => y (.inr q)) e, y⟩))))
  | succ k ih =>
    intro i h tk hk hi hit T kk
    have hlt : i < td.length := by lia
    refine codeAny_builtin entry_upd_loop ?_
    rw [Around.under_plainId plain_upd_loop _]
    show wpAny _ A.in1 (pyNext (.ref it) >>= _) _ _ _
    obtain ⟨v, hv, rp⟩ := rv.get i (eR td[i]) (by rw [List.getElem?_map, List.getElem?_eq_getElem hlt]; rfl)
    refine wpAny_bind (wpAny_pyNext_list_item (s := { s with heap := h, toks := tk }) hit (lst_is (kk _ _ hl)) (by simpa using hv) fun h1 hit1 hs1 => ?_)
    have k1 : KeepsH s.heap h1 := fun b o e => (hs1.2 b (by rintro rfl; rw [tn] at e; cases e)).trans (kk b o e)
    have T1 : TD prog w h1 (fun b => Y b ∨ b = it) d (td.take i) := T.move fun b o e y => ⟨(hs1.2 b (fun q => y (.inr q))).trans e, y⟩
    obtain ⟨b, kv, t, n, o, rfl, ho, hc, hd, rk⟩ := rep_pair rp
    have ho1 := k1 _ _ ho
    have hT : ∀ tk', Shared.TypeIs { s with heap := h1, toks := tk' } (.ref b) "tuple" := fun o0 => ⟨o, ho1, hc⟩
    refine wpAny_bind (wpAny_holding (wpAny_bind (wpAny_tryCatch ?_)))
    unfold Builtin.Dict.pairItems
    refine wpAny_bind (wpAny_typeOf (hT _) ?_)
    rw [if_pos (by decide)]
    refine wpAny_bind (wpAny_seqItems ho1 hd (wpAny_pure ?_))
    show wpAny _ _ (holding [kv, .int td[i].2 t] (dictSet d kv (.int td[i].2 t))) _ _ _
    obtain ⟨ad, rfl, hkey, yad⟩ := rep_key (prog := prog) (w := w) rk
    have hkey1 : IsTupleKey (intKind prog w) h1 [td[i].1.1, td[i].1.2] ad := by obtain ⟨o', items, n, e1, e2⟩ := hkey; exact ⟨o', items, n, k1 _ _ e1, e2⟩
    have adi : ad ≠ it := by
      obtain ⟨o', _, _, e1, _⟩ := hkey
      rintro rfl; rw [tn] at e1; cases e1
    have hsplit : td = td.take i ++ td[i] :: td.drop (i + 1) := by rw [← List.drop_eq_getElem_cons hlt, List.take_append_drop]
    refine wpAny_holding (td_set (c := td[i].2) hu T1 hkey1 (fun q => by rcases q with q | q; exact yad q; exact adi q) ?_ (by rw [List.length_take]; lia) fun h2 tk2 T2 hs2 => ?_)
    · exact nodK_new (td1 := td.drop (i + 1)) (x := td[i]) (by rw [← hsplit]; exact hn)
    · refine wpAny_pure ⟨plainId_quiet plain_upd_loop _, ?_⟩
      have e1 : ((i : Int) + 1) = ((i + 1 : Nat) : Int) := by lia
      show codeAny _ _ (.builtin "dict.update.loop" ⟨[.ref d, .ref it, .int ((i : Int) + 1) 0, .none], []⟩) _ _
      rw [e1]
      refine ih (i + 1) h2 tk2 (by lia) hlt ?_ ?_ fun b o e => (hs2.2 b (by rintro rfl; rw [dn] at e; cases e)).trans (k1 b o e)
      · obtain ⟨oi, ei, r⟩ := hit1
        exact ⟨oi, (hs2.2 it di.symm).trans ei, r⟩
      · rw [List.take_succ_eq_append_getElem hlt]
        exact T2
theorem dict_of {l : Addr} {vs : List Value} {nl : Nat} {td : List (Q × Int)} {Q : Value → Shared → Prop} (hh : A.handled = none) (hu : A.units + 10 < cLine) (lim : s.heap.NoLimit) (old : ∀ b, Y b → ∃ o, s.heap.get? b = some o) (hl : s.heap.get? l = some (lstO vs nl)) (rv : RepL s.heap Y vs (td.map eR)) (hn : nodK td = true)
    (ht : td.length ≤ 1000) (hQ : ∀ d s', Keeps s s' → TD prog w s'.heap Y d td → Q (.ref d) s') : wpAny (model prog w) A (call (.type "dict") [.ref l]) Q E s := by
  refine callType_codes (Q₁ := fun obj s₁ => obj = .ref s.heap.objs.size ∧ s₁ = { s with heap := s.heap.push { cls := .type "dict", data := .dict #[] } }) PySem.F.kt_called_dict (PySem.F.kt_typeCall_dict_1 _) PySem.F.entry_dict_init (kt_code_dict_new _ ⟨rfl, rfl⟩) ?_
  rintro obj s₁ ⟨rfl, rfl⟩
  have kp : KeepsH s.heap (s.heap.push { cls := .type "dict", data := .dict #[] }) := fun o0 o0 e => Heap.get?_push_of_some _ e
  have hnew : (s.heap.push { cls := .type "dict", data := .dict #[] }).get? s.heap.objs.size = some { cls := .type "dict", data := .dict #[] } := Heap.get?_push_size _ rfl
  have hTd : Shared.TypeIs { s with heap := s.heap.push { cls := .type "dict", data := .dict #[] } } (.ref s.heap.objs.size) "dict" := ⟨_, hnew, rfl⟩
  have hl1 := kp _ _ hl
  refine ⟨hTd, PySem.F.args_dict_init_2 _ _, ?_⟩
  unfold Builtin.«dict.__init__»
  refine wpAny_bind ?_
  unfold Builtin.Dict.selfAndRest
  refine wpAny_bind (wpAny_notOrdered_dict hTd ?_)
  show wpAny _ _ (pure (s.heap.objs.size, [Value.ref l])) _ _ _
  refine wpAny_pure ?_
  show wpAny _ _ (Builtin.Dict.updateFrom "dict.__init__" s.heap.objs.size (.ref l) [] .none) _ _ _
  unfold Builtin.Dict.updateFrom
  refine wpAny_bind (wpAny_typeOf (T := "list") ⟨_, hl1, rfl⟩ ?_)
  rw [if_pos (by decide)]
  refine wpAny_bind (keys_none hl1 hh fun h2 tk2 k2 => ?_)
  simp only [Option.isNone_none, if_true]
  refine wpAny_bind (wpAny_rule ?_)
  refine wpAny_bind (wpAny_pyIter_list (lst_is (k2 _ _ hl1)) ?_)
  dsimp only
  refine wpAny_pure ⟨plainId_quiet plain_upd_loop _, ?_⟩
  generalize hI : h2.objs.size = I
  have k3 : KeepsH (s.heap.push { cls := .type "dict", data := .dict #[] }) (h2.push { cls := .type "list_iterator", data := .fields #[.ref l, .int 0 0] }) := fun b o e => Heap.get?_push_of_some _ (k2 b o e)
  have dI : s.heap.objs.size ≠ I := by rw [← hI]; exact Nat.ne_of_lt (Heap.lt_size (k2 _ _ hnew))
  have yd : ¬ Y s.heap.objs.size := fresh_not old (size_none _)
  have T0 : TD prog w (s.heap.push { cls := .type "dict", data := .dict #[] }) Y s.heap.objs.size [] := ⟨yd, beq_eq_false_iff_ne.mpr (Nat.ne_of_gt (modules_low lim)), [], Heap.DictOfH.new s.heap, (fun x hx => by cases hx), .nil⟩
  have Inone : ∀ (hp : Heap), KeepsH hp h2 → hp.get? I = none := fun hp k => by
    cases e : hp.get? I with
    | none => rfl
    | some o => exact absurd (Heap.lt_size (k _ _ e)) (by rw [hI]; exact Nat.lt_irrefl _)
  refine upd_loop (s := s) (A := A.in1) (Y := Y) (td := td) hh (by show A.units + 1 + 1 < cLine; lia) hl rv hn ht dI (size_none _) (Inone _ fun b o e => k2 b o (kp b o e)) (fun h' tk kk T => ⟨rfl, hQ _ _ ⟨h', tk, rfl, kk⟩ (T.move fun b o e y => ⟨e, fun q => y (.inl q)⟩)⟩)
    td.length 0 _ tk2 (Nat.sub_zero _) (Nat.zero_le _) ⟨_, by rw [← hI]; exact Heap.get?_push_size _ rfl, rfl, rfl⟩ ?_ fun b o e => k3 b o (kp b o e)
  rw [List.take_zero]
  refine T0.move fun b o e y => ⟨k3 b o e, fun q => ?_⟩
  rcases q with q | q
  · exact y q
  · rw [q, Inone _ k2] at e; cases e
end
end Mine.Internal
namespace Mine.Internal
open PySem PySem.W PyProof.Rows
section
variable {prog : Program} {w : World} {A : Around} {E : Value → Shared → Prop} {s : Shared} {Y : Av} {a b : Addr}
theorem Ents.get {xs : List (List Int × Addr × Value)} {td : List (Q × Int)} (en : Ents xs td) {j : Nat} {x : List Int × Addr × Value} (h : xs[j]? = some x) : ∃ p q c t, x.1 = [p, q] ∧ x.2.2 = .int c t ∧ td[j]? = some ((p, q), c) := by
  induction en generalizing j with
  | nil => simp at h
  | cons en ih =>
    cases j with
    | zero => simp at h; subst h; exact ⟨_, _, _, _, rfl, rfl, rfl⟩
    | succ j => simp at h; obtain ⟨p, q, c, t, h1, h2, h3⟩ := ih h; exact ⟨p, q, c, t, h1, h2, by simpa using h3⟩
theorem nodK_uniq : ∀ {td : List (Q × Int)} {x y : Q × Int}, nodK td = true → x ∈ td → y ∈ td → x.1 = y.1 → x = y
  | [], _, _, _, h, _, _ => by cases h
  | z :: td, x, y, hn, hx, hy, e => by
    simp only [nodK_e1, nodK_e2, Bool.and_eq_true, Bool.not_eq_true'] at hn
    have key : ∀ u ∈ td, z.1 ≠ u.1 := fun u hu q => by
      have := List.any_eq_false.mp hn.1 u hu
      rw [sameK_eq] at this
      exact this (decide_eq_true q)
    rcases List.mem_cons.mp hx with h1 | h1 <;> rcases List.mem_cons.mp hy with h2 | h2
    · rw [h1, h2]
    · exact absurd (h1 ▸ e) (key _ h2)
    · exact absurd (h2 ▸ e.symm) (key _ h1)
    · exact nodK_uniq hn.2 h1 h2 e
theorem td_same {nm : String} {ta tb : List (Q × Int)} {Q : Bool → Shared → Prop} (hu : A.units < cLine) (Ta : TD prog w s.heap Y a ta) (Tb : TD prog w s.heap Y b tb) (hl : ta.length = tb.length) (hall : ∀ x ∈ ta, x ∈ tb) (hn : nodK tb = true) (h : Q true s) :
    wpAny (model prog w) A (Builtin.Dict.samePairs nm a b) Q E s := by
  obtain ⟨_, sa, xa, ⟨oa, es, ep, hoa, _, hda, hea, hia, hna⟩, _, ena⟩ := Ta
  obtain ⟨_, sb, xb, ⟨ob, es', ep', hob, _, hdb, heb, hib, hnb⟩, _, enb⟩ := Tb
  have hza : es.size = ta.length := by rw [← Array.length_toList, hea, List.length_map, ena.length]
  have hzb : es'.size = tb.length := by rw [← Array.length_toList, heb, List.length_map, enb.length]
  unfold Builtin.Dict.samePairs Builtin.Dict.showsAll
  rw [if_neg (show ¬ (a == sysModules) = true by rw [sa]; exact Bool.false_ne_true), if_neg (show ¬ (b == sysModules) = true by rw [sb]; exact Bool.false_ne_true)]
  refine wpAny_bind (wpAny_pure (wpAny_bind (wpAny_pure ?_)))
  refine wpAny_bind (wpAny_dictEntries hoa hda ?_)
  dsimp only
  refine wpAny_bind (wpAny_dictEntries hob hdb ?_)
  have hsz : es.size = es'.size := by rw [hza, hzb, hl]
  rw [if_neg (by rw [hsz]; simp)]
  refine wpAny_bind (wpAny_dictEpoch hoa hda ?_)
  refine wpAny_bind ?_
  rw [Std.Legacy.Range.forIn_eq_forIn_range']
  simp only [Std.Legacy.Range.size, Nat.sub_zero, Nat.add_sub_cancel, Nat.div_one]
  refine wpAny_forIn_list _ (fun rest q s' => s' = s ∧ q = (none, ()) ∧ ∀ x ∈ rest, x < es.size) _ ?_ ?_ _ _ ⟨rfl, rfl, fun x hx => by have := List.mem_range'_1.mp hx; lia⟩
  · rintro x rest q s' ⟨rfl, rfl, hr⟩
    have hlt : x < es.size := hr x List.mem_cons_self
    refine wpAny_bind (wpAny_dictEntries hoa hda ?_)
    rw [Array.getElem?_eq_getElem hlt]
    have hxl : x < xa.length := by rw [ena.length, ← hza]; exact hlt
    obtain ⟨p, q', c, t, h1, h2, h3⟩ := ena.get (List.getElem?_eq_getElem hxl)
    have hent : es[x] = ⟨(ik prog w).hash [p, q'], .ref xa[x].2.1, .int c t⟩ := by
      have := entry_at hea x
      rw [Array.getElem?_eq_getElem hlt, List.getElem?_eq_getElem hxl, Option.map_some, Option.some.injEq] at this
      rw [this]; unfold entryOfKey; rw [h1, h2]
    have hkey : IsTupleKey (intKind prog w) s'.heap [p, q'] xa[x].2.1 := by have := hia _ (List.getElem_mem hxl); rw [h1] at this; exact this
    have hin : ((p, q'), c) ∈ tb := hall _ (List.mem_of_getElem? h3)
    simp only [hent]
    refine wpAny_bind (wpAny_holding (wpAny_bind (wpAny_dictFind_heap (knd := ik prog w) hu hkey hob hdb heb hib hnb (fun hno => ?_) fun j y hj => ?_)))
    · exfalso
      rcases enb.at (p, q') with ⟨_, h⟩ | ⟨ad, c', t', h, _⟩
      · exact h _ hin rfl
      · rw [atKey_none_of_get (by exact hno)] at h; cases h
    · obtain ⟨p2, q2, c2, t2, g1, g2, g3⟩ := enb.get hj
      have e1 : p = p2 ∧ q' = q2 := by simpa using g1
      obtain ⟨rfl, rfl⟩ := e1
      have e2 := nodK_uniq hn hin (List.mem_of_getElem? g3) rfl
      have e3 : c = c2 := by simpa using e2
      subst e3
      have hent2 : es'[j]? = some ⟨(ik prog w).hash [p, q'], .ref y.1, .int c t2⟩ := by
        rw [entry_at heb j, hj, Option.map_some]
        have : y.2 = .int c t2 := g2
        unfold entryOfKey; simp only [this]
      refine wpAny_bind (wpAny_dictEntries hob hdb ?_)
      rw [hent2]
      refine wpAny_holding (wpAny_eqBool_int ?_)
      rw [beq_self_eq_true]
      show wpAny _ _ (if (!true) = true then _ else _) _ _ _
      rw [if_neg (by decide)]
      refine wpAny_bind (wpAny_dictEpoch hoa hda ?_)
      rw [if_neg (by simp)]
      exact wpAny_pure ⟨rfl, rfl, fun z hz => hr z (List.mem_cons_of_mem _ hz)⟩
  · rintro q s' ⟨rfl, rfl, _⟩
    exact wpAny_pure h
theorem td_eq {ta tb : List (Q × Int)} {Q : Value → Shared → Prop} (hu : A.units + 10 < cLine) (Ta : TD prog w s.heap Y a ta) (Tb : TD prog w s.heap Y b tb) (hl : ta.length = tb.length) (hall : ∀ x ∈ ta, x ∈ tb) (hn : nodK tb = true) (h : Q (.bool true) s) :
    wpAny (model prog w) A (compareOp .Eq (.ref a) (.ref b)) Q E s := by
  have tA : s.TypeIs (.ref a) "dict" := by obtain ⟨_, _, xa, ⟨oa, es, ep, hoa, hc, _⟩, _⟩ := Ta; exact ⟨oa, hoa, hc.1⟩
  have tB : s.TypeIs (.ref b) "dict" := by obtain ⟨_, _, xa, ⟨oa, es, ep, hoa, hc, _⟩, _⟩ := Tb; exact ⟨oa, hoa, hc.1⟩
  refine wpAny_richCompare_same_room (op := .Eq) tA tB PySem.F.slot_dict_eq (wpAny_call_entry PySem.F.slot_dict_eq tA PySem.F.entry_dict_eq ?_ (PySem.F.args_dict_eq_2 _ _)) (by lia)
  show wpAny _ _ (Builtin.Dict.dictSlotArgs "__eq__" ⟨[.ref a, .ref b], []⟩ >>= _) _ _ s
  refine wpAny_bind ?_
  unfold Builtin.Dict.dictSlotArgs
  refine wpAny_bind (wpAny_notOrdered_dict tA ?_)
  show wpAny _ _ (pure (Value.ref a, Value.ref b)) _ _ s
  refine wpAny_pure ?_
  refine wpAny_bind (wpAny_isInstance (T := "dict") tB PySem.F.sub_dict_dict ?_)
  simp only [Bool.not_true, Bool.false_eq_true, if_false]
  refine wpAny_bind (wpAny_pure (wpAny_bind (wpAny_pure ?_)))
  refine wpAny_bind (td_same (by show A.units + 1 < cLine; lia) Ta Tb hl hall hn ?_)
  refine wpAny_pure ⟨_, rfl, ?_, ?_⟩
  · exact fun x => nomatch x
  · simpa using h
end
end Mine.Internal
namespace Mine.Internal
noncomputable def llC : K := o2 w_gt (kP R.s3) (kL 0)
noncomputable def llB : S := qS (qT (n_val (k_var R.s3) (n_val (o2 v_mod (k_var R.s2) (k_var R.s3)) n_nil)) (st_c t2 (st_c t3 st_n))) qK
theorem ll_stop (m : Nat) (r : R) (h3 : r.s3 = .val (.int 0)) : q_whl llC llB (m + 1) r = some (.next, r) := by
  have hc : llC r = some (.bool false) := by
    unfold llC
    simp only [o2, ox_s, kP, slP_v, h3, kL, wGt]
    rfl
  simp only [q_whl_e1, q_whl_e2, hc, tst0]
theorem ll_step {a b : Nat} (hb : 0 < b) (m : Nat) (r : R) (h2 : r.s2 = .val (.int (a : Nat))) (h3 : r.s3 = .val (.int (b : Nat))) :
    q_whl llC llB (m + 1) r = q_whl llC llB m (t3 (t2 r (.val (.int (b : Nat)))) (.val (.int ((a % b : Nat) : Int)))) := by
  have e0 : ltB 0 ((b : Nat) : Int) = true := by rw [ltB_eq]; exact decide_eq_true (by lia)
  have ez : isZ ((b : Nat) : Int) = false := by rw [isZ_eq]; exact decide_eq_false (by lia)
  have em : Int.fmod (a : Int) (b : Int) = ((a % b : Nat) : Int) := by rw [Int.fmod_eq_emod_of_nonneg _ (Int.natCast_nonneg b)]; rfl
  have hc : llC r = some (.bool true) := by
    unfold llC
    simp only [o2, ox_s, kP, slP_v, h3, kL, wGt, e0, someB_eq]
  have hbody : llB r = some (.next, t3 (t2 r (.val (.int (b : Nat)))) (.val (.int ((a % b : Nat) : Int)))) := by
    unfold llB
    simp only [qS, th_n, qK, qT, n_val, n_nil, k_var, slV_v, h2, h3, o2, ox_s, v_mod, jI, ez, cond_false, em, mkI_eq, aTV_s, stc_s, stn_n, nx_s]
  simp only [q_whl_e1, q_whl_e2, hc, tst1, hbody, th_n]
theorem mod_half {b c : Nat} (hc : 0 < c) (h : c ≤ b) : 2 * (b % c) < b := by
  have h1 := Nat.mod_lt b hc
  have h2 := Nat.div_add_mod b c
  have h3 : 1 ≤ b / c := (Nat.one_le_div_iff hc).mpr h
  have h4 : c * 1 ≤ c * (b / c) := Nat.mul_le_mul_left c h3
  lia
theorem ll_go : ∀ (n a b m : Nat) (r : R), b < 2 ^ n → 2 * n + 1 ≤ m → r.s2 = .val (.int (a : Nat)) → r.s3 = .val (.int (b : Nat)) →
    ∃ r', q_whl llC llB m r = some (.next, r') ∧ r'.s2 = .val (.int ((Nat.gcd a b : Nat) : Int)) ∧ r'.s0 = r.s0 ∧ r'.s1 = r.s1 := by
  intro n
  induction n with
  | zero =>
    intro a b m r hb hm h2 h3
    have : b = 0 := by lia
    subst this
    obtain ⟨m, rfl⟩ : ∃ k, m = k + 1 := ⟨m - 1, by lia⟩
    exact ⟨r, ll_stop m r h3, by rw [h2, Nat.gcd_zero_right], rfl, rfl⟩
  | succ n ih =>
    intro a b m r hb hm h2 h3
    obtain ⟨m, rfl⟩ : ∃ k, m = k + 2 := ⟨m - 2, by lia⟩
    by_cases hz : b = 0
    · subst hz
      exact ⟨r, ll_stop _ r h3, by rw [h2, Nat.gcd_zero_right], rfl, rfl⟩
    · have hb0 : 0 < b := Nat.pos_of_ne_zero hz
      have e1 := ll_step hb0 (m + 1) r h2 h3
      have g1 : Nat.gcd b (a % b) = Nat.gcd a b := by rw [Nat.gcd_comm a b, Nat.gcd_rec b a, Nat.gcd_comm]
      by_cases hz2 : a % b = 0
      · have e2 := ll_stop m (t3 (t2 r (.val (.int (b : Nat)))) (.val (.int ((a % b : Nat) : Int)))) (by rw [hz2]; rfl)
        refine ⟨_, e1.trans e2, ?_, rfl, rfl⟩
        show Slot.val (.int (b : Nat)) = _
        rw [← g1, hz2, Nat.gcd_zero_right]
      · have hc0 : 0 < a % b := Nat.pos_of_ne_zero hz2
        have e2 := ll_step (a := b) hc0 m (t3 (t2 r (.val (.int (b : Nat)))) (.val (.int ((a % b : Nat) : Int)))) rfl rfl
        have hh := mod_half hc0 (Nat.le_of_lt (Nat.mod_lt a hb0))
        have g2 : Nat.gcd (a % b) (b % (a % b)) = Nat.gcd a b := by rw [← g1, Nat.gcd_comm b (a % b), Nat.gcd_rec (a % b) b, Nat.gcd_comm]
        obtain ⟨r', q1, q2, q3, q4⟩ := ih (a % b) (b % (a % b)) m (t3 (t2 (t3 (t2 r (.val (.int (b : Nat)))) (.val (.int ((a % b : Nat) : Int)))) (.val (.int ((a % b : Nat) : Int)))) (.val (.int ((b % (a % b) : Nat) : Int)))) (by rw [Nat.pow_succ] at hb; lia) (by lia) rfl rfl
        exact ⟨r', (e1.trans e2).trans q1, by rw [q2, g2], q3, q4⟩
theorem L_lowest {t b : Int} (hb : 0 < b) (hs : b ≤ 10 ^ 100) : n_law_lowest [.int t, .int b] = some (eQ (lowQ t b)) := by
  obtain ⟨bn, rfl⟩ := Int.eq_ofNat_of_zero_le (Int.le_of_lt hb)
  have hA : (qT (n_val (k_abs (k_var R.s0)) (n_val (k_var R.s1) n_nil)) (st_c t2 (st_c t3 st_n))) ⟨.val (.int t), .val (.int (bn : Nat)), .un, .un, .un, .un, .un, .un, .un, .un⟩ =
      some (.next, ⟨.val (.int t), .val (.int (bn : Nat)), .val (.int ((t.natAbs : Nat) : Int)), .val (.int (bn : Nat)), .un, .un, .un, .un, .un, .un⟩) := by
    cases t <;> rfl
  have hlt : bn < 2 ^ 400 := by
    have h1 : bn ≤ 10 ^ 100 := by lia
    exact Nat.lt_of_le_of_lt h1 (Nat.lt_of_succ_le (Nat.le_of_ble_eq_true (by decide +kernel)))
  obtain ⟨r', q1, q2, q3, q4⟩ := ll_go 400 t.natAbs bn 1000 ⟨.val (.int t), .val (.int (bn : Nat)), .val (.int ((t.natAbs : Nat) : Int)), .val (.int (bn : Nat)), .un, .un, .un, .un, .un, .un⟩ hlt (by decide) rfl rfl
  have gpos : 0 < Nat.gcd t.natAbs bn := Nat.gcd_pos_of_pos_right _ (by lia)
  have gle : Nat.gcd t.natAbs bn ≤ bn := Nat.gcd_le_right _ (by lia)
  have gz : isZ ((Nat.gcd t.natAbs bn : Nat) : Int) = false := by rw [isZ_eq]; exact decide_eq_false (by lia)
  have gs : sd ((Nat.gcd t.natAbs bn : Nat) : Int) = true := sm_le (a := ((Nat.gcd t.natAbs bn : Nat) : Int)) (Int.natCast_nonneg _) (by lia)
  have hg : mgcd t ((bn : Nat) : Int) = ((Nat.gcd t.natAbs bn : Nat) : Int) := rfl
  show fin (q_then _ ((qT (n_val (k_abs (k_var R.s0)) (n_val (k_var R.s1) n_nil)) (st_c t2 (st_c t3 st_n))) ⟨.val (.int t), .val (.int (bn : Nat)), .un, .un, .un, .un, .un, .un, .un, .un⟩)) = _
  rw [hA]
  show fin (q_then _ (q_whl llC llB 1000 _)) = _
  rw [q1]
  simp only [th_n, th_r, qS, qR, kC, kN, k_var, slV_v, o2, ox_s, q2, q3, q4, v_fdiv, jI, gz, gs, cond_false, cond_true, mkI_eq, jT, cV_i, fin_r]
  rfl
end Mine.Internal
namespace Mine.Internal
theorem fit3 (l : List PV) (h : l.length ≤ 100) : fit l = some (.lst l) := by unfold fit; rw [if_pos (by simp only [LL]; lia)]
noncomputable def inX : K := o2 v_add (k_var R.s3) (k_var R.s5)
noncomputable def inB : S := qS (q_seti R.s2 t2 inX (o2 v_add (kI (kP R.s2) inX) (o2 v_mul (k_var R.s4) (k_var R.s6)))) qK
noncomputable def ouB : S := qS (q_for (g2 t5 t6) (k_enum (k_var R.s1)) inB) qK
noncomputable def RR (p q : PV) (acc : List PV) (i a j b : Slot) : R := ⟨.val p, .val q, .own acc, i, a, j, b, .un, .un, .un⟩
theorem in_step {p q : PV} {acc l : List PV} {i j : Nat} {a b x : Int} {u v : Slot} (ha : sm a = true) (hb : sm b = true) (hx : acc[i + j]? = some (.int x)) (hlt : Nat.blt (i + j) acc.length = true) :
    q_go (g2 t5 t6) inB (.tup [.int (j : Nat), .int b] :: l) (RR p q acc (.val (.int (i : Nat))) (.val (.int a)) u v) = q_go (g2 t5 t6) inB l (RR p q (acc.set (i + j) (.int (x + a * b))) (.val (.int (i : Nat))) (.val (.int a)) (.val (.int (j : Nat))) (.val (.int b))) := by
  have e1 : inX (RR p q acc (.val (.int (i : Nat))) (.val (.int a)) (.val (.int (j : Nat))) (.val (.int b))) = some (.int ((i + j : Nat) : Int)) := by
    show mkI ((i : Int) + (j : Int)) = _
    rw [mkI_eq]; rfl
  have e2 : kI (kP R.s2) inX (RR p q acc (.val (.int (i : Nat))) (.val (.int a)) (.val (.int (j : Nat))) (.val (.int b))) = some (.int x) := by
    show (ox (inX (RR p q acc (.val (.int (i : Nat))) (.val (.int a)) (.val (.int (j : Nat))) (.val (.int b)))) (isI fun k => idxV (.lst acc) k)) = _
    rw [e1]; exact hx
  have e3 : o2 v_mul (k_var R.s4) (k_var R.s6) (RR p q acc (.val (.int (i : Nat))) (.val (.int a)) (.val (.int (j : Nat))) (.val (.int b))) = some (.int (a * b)) := by
    show (bif sm a && sm b then mkI (a * b) else none) = _
    rw [ha, hb, mkI_eq]; rfl
  have e4 : o2 v_add (kI (kP R.s2) inX) (o2 v_mul (k_var R.s4) (k_var R.s6)) (RR p q acc (.val (.int (i : Nat))) (.val (.int a)) (.val (.int (j : Nat))) (.val (.int b))) = some (.int (x + a * b)) := by
    show (ox (kI (kP R.s2) inX (RR p q acc (.val (.int (i : Nat))) (.val (.int a)) (.val (.int (j : Nat))) (.val (.int b)))) fun u => ox (o2 v_mul (k_var R.s4) (k_var R.s6) (RR p q acc (.val (.int (i : Nat))) (.val (.int a)) (.val (.int (j : Nat))) (.val (.int b)))) fun v => v_add u v) = _
    rw [e2, e3]; exact mkI_eq _
  show q_then (q_go (g2 t5 t6) inB l) (q_then qK (q_seti R.s2 t2 inX (o2 v_add (kI (kP R.s2) inX) (o2 v_mul (k_var R.s4) (k_var R.s6))) (RR p q acc (.val (.int (i : Nat))) (.val (.int a)) (.val (.int (j : Nat))) (.val (.int b))))) = _
  unfold q_seti
  rw [e4, e1]
  show q_then (q_go (g2 t5 t6) inB l) (q_then qK (bif true && Nat.blt (i + j) acc.length then _ else _)) = _
  rw [hlt]; rfl
theorem ou_step {p : PV} {ql acc l : List PV} {i : Nat} {a : Int} {s t u v : Slot} {r : R} (e : q_go (g2 t5 t6) inB (enumPV 0 ql) (RR p (.lst ql) acc (.val (.int (i : Nat))) (.val (.int a)) u v) = some (.next, r)) :
    q_go (g2 t3 t4) ouB (.tup [.int (i : Nat), .int a] :: l) (RR p (.lst ql) acc s t u v) = q_go (g2 t3 t4) ouB l r := by
  show q_then (q_go (g2 t3 t4) ouB l) (q_then qK (q_go (g2 t5 t6) inB (enumPV 0 ql) (RR p (.lst ql) acc (.val (.int (i : Nat))) (.val (.int a)) u v))) = _
  rw [e]; rfl
theorem L_times22 {a b c d : Int} (ha : sm a = true) (hb : sm b = true) (hc : sm c = true) (hd : sm d = true) : n_law_times [eP [a, b], eP [c, d]] = some (eP (t22 a b c d)) := by
  have e := (ou_step (p := eP [a, b]) (ql := [.int c, .int d]) (acc := [.int 0, .int 0, .int 0]) (l := [.tup [.int (1 : Nat), .int b]]) (i := 0) (a := a) (s := .un) (t := .un) (u := .un) (v := .un) ((in_step (i := 0) (j := 0) ha hc rfl rfl).trans ((in_step (i := 0) (j := 1) ha hd rfl rfl).trans rfl))).trans
    ((ou_step (p := eP [a, b]) (ql := [.int c, .int d]) (acc := [.int (0 + a * c), .int (0 + a * d), .int 0]) (l := []) (i := 1) (a := b) ((in_step (acc := [.int (0 + a * c), .int (0 + a * d), .int 0]) (i := 1) (j := 0) hb hc rfl rfl).trans ((in_step (acc := [.int (0 + a * c), .int (0 + a * d + b * c), .int 0]) (i := 1) (j := 1) hb hd rfl rfl).trans rfl))).trans rfl)
  show fin (q_then (qS (q_frz R.s2 t2 (qR (k_var R.s2))) qK) (q_go (g2 t3 t4) ouB [.tup [.int (0 : Nat), .int a], .tup [.int (1 : Nat), .int b]] (RR (eP [a, b]) (eP [c, d]) [.int 0, .int 0, .int 0] .un .un .un .un))) = _
  rw [show q_go (g2 t3 t4) ouB [.tup [.int (0 : Nat), .int a], .tup [.int (1 : Nat), .int b]] (RR (eP [a, b]) (eP [c, d]) [.int 0, .int 0, .int 0] .un .un .un .un) = _ from e]
  rfl
theorem L_times23 {a b c d e : Int} (ha : sm a = true) (hb : sm b = true) (hc : sm c = true) (hd : sm d = true) (he : sm e = true) : n_law_times [eP [a, b], eP [c, d, e]] = some (eP (t23 a b c d e)) := by
  have q := (ou_step (p := eP [a, b]) (ql := [.int c, .int d, .int e]) (acc := [.int 0, .int 0, .int 0, .int 0]) (l := [.tup [.int (1 : Nat), .int b]]) (i := 0) (a := a) (s := .un) (t := .un) (u := .un) (v := .un) ((in_step (i := 0) (j := 0) ha hc rfl rfl).trans ((in_step (i := 0) (j := 1) ha hd rfl rfl).trans ((in_step (i := 0) (j := 2) ha he rfl rfl).trans rfl)))).trans
    ((ou_step (p := eP [a, b]) (ql := [.int c, .int d, .int e]) (acc := [.int (0 + a * c), .int (0 + a * d), .int (0 + a * e), .int 0]) (l := []) (i := 1) (a := b) ((in_step (acc := [.int (0 + a * c), .int (0 + a * d), .int (0 + a * e), .int 0]) (i := 1) (j := 0) hb hc rfl rfl).trans ((in_step (acc := [.int (0 + a * c), .int (0 + a * d + b * c), .int (0 + a * e), .int 0]) (i := 1) (j := 1) hb hd rfl rfl).trans ((in_step (acc := [.int (0 + a * c), .int (0 + a * d + b * c), .int (0 + a * e + b * d), .int 0]) (i := 1) (j := 2) hb he rfl rfl).trans rfl)))).trans rfl)
  show fin (q_then (qS (q_frz R.s2 t2 (qR (k_var R.s2))) qK) (q_go (g2 t3 t4) ouB [.tup [.int (0 : Nat), .int a], .tup [.int (1 : Nat), .int b]] (RR (eP [a, b]) (eP [c, d, e]) [.int 0, .int 0, .int 0, .int 0] .un .un .un .un))) = _
  rw [show q_go (g2 t3 t4) ouB [.tup [.int (0 : Nat), .int a], .tup [.int (1 : Nat), .int b]] (RR (eP [a, b]) (eP [c, d, e]) [.int 0, .int 0, .int 0, .int 0] .un .un .un .un) = _ from q]
  rfl
end Mine.Internal
namespace Mine.Internal
open PySem PySem.W PyProof.Rows
noncomputable def asgShp (x : Str) (W : WE) (sc : Sc) (st : Stmt) : Bool := ob2 (asg1? st) fun t v => ob (xName t) fun y => y == x && notComp v && wshp W sc v
noncomputable def asg2Shp (x1 x2 : Str) (W1 W2 : WE) (sc : Sc) (st : Stmt) : Bool := ob2 (asg1? st) fun t v => ob (xTuple t) fun ts => ob (xTuple v) fun vs => ob2 (two? vs) fun v1 v2 =>
  notStar v1 && notStar v2 && wshp W1 sc v1 && wshp W2 sc v2 && swp sc ts [v1, v2] == some (some [x1, x2])
noncomputable def ret2? (st : Stmt) : Option (Expr × Expr) := (sReturn st).bind fun o => o.bind fun v => (xTuple v).bind two?
noncomputable def retShp (p : PE) (kv : List (PE × PE)) (sc : Sc) (st : Stmt) : Bool := ob2 (ret2? st) fun e1 e2 => ob2 (xDict e2) fun ks vs => notStar e1 && mdOk p .val && shp p sc [e1] && dshp kv sc ks vs
noncomputable def retNShp (p : PE) (x : Str) (sc : Sc) (st : Stmt) : Bool := ob2 (ret2? st) fun e1 e2 => ob (xName e2) fun y => notStar e1 && mdOk p .val && shp p sc [e1] && y == x
noncomputable def toldShp (x : Str) (c : PE) (kv1 kv2 : List (PE × PE)) (sc : Sc) (st : Stmt) : Bool := ob2 (asg1? st) fun t v => ob (xName t) fun y => ob3 (xIfExp v) fun t a b => ob2 (xDict a) fun ks vs => ob2 (xDict b) fun ks' vs' =>
  y == x && mdOk c .tst && shp c sc [t] && dshp kv1 sc ks vs && dshp kv2 sc ks' vs'
@[elab_as_elim] theorem asgShp_el {x : Str} {W : WE} {sc : Sc} {st : Stmt} {P : Stmt → Prop} (h : asgShp x W sc st = true) (k : ∀ yp v p, notComp v = true → wshp W sc v = true → P (.Assign [.Name x yp] v p)) : P st := by
  refine ob2_t h fun t v h1 h => ob_t h fun y h2 h => b3 h fun e nc ws => ?_
  cases eq_of_beq e
  refine asg1_el h1 fun p => ?_
  exact xName_el h2 fun q => k q v p nc ws
@[elab_as_elim] theorem asg2Shp_el {x1 x2 : Str} {W1 W2 : WE} {sc : Sc} {st : Stmt} {P : Stmt → Prop} (h : asg2Shp x1 x2 W1 W2 sc st = true)
    (k : ∀ ts k1 p1 v1 v2 k2 p2 p, notStar v1 = true → notStar v2 = true → wshp W1 sc v1 = true → wshp W2 sc v2 = true → swp sc ts [v1, v2] = some (some [x1, x2]) → P (.Assign [.Tuple ts k1 p1] (.Tuple [v1, v2] k2 p2) p)) : P st := by
  refine ob2_t h fun t v h1 h => ob_t h fun ts h2 h => ob_t h fun vs h3 h => ob2_t h fun v1 v2 h4 h => b5 h fun n1 n2 w1 w2 sw => ?_
  cases two_eq h4
  refine asg1_el h1 fun p => ?_
  refine xTuple_el h2 fun k1 p1 => ?_
  exact xTuple_el h3 fun k2 p2 => k ts k1 p1 v1 v2 k2 p2 p n1 n2 w1 w2 (eq_of_beq sw)
@[elab_as_elim] theorem ret2_el {st : Stmt} {a b : Expr} {P : Stmt → Prop} (h : ret2? st = some (a, b)) (k : ∀ k' p' p, P (.Return (some (.Tuple [a, b] k' p')) p)) : P st := by
  refine bnd h fun o h1 h => bnd h fun v h2 h => bnd h fun vs h3 h => ?_
  cases two_eq h
  cases h2
  refine sReturn_el h1 fun p => ?_
  exact xTuple_el h3 fun k' p' => k k' p' p
@[elab_as_elim] theorem toldShp_el {x : Str} {c : PE} {kv1 kv2 : List (PE × PE)} {sc : Sc} {st : Stmt} {P : Stmt → Prop} (h : toldShp x c kv1 kv2 sc st = true)
    (k : ∀ yp t ks vs p1 ks' vs' p2 p3 p, mdOk c .tst = true → shp c sc [t] = true → dshp kv1 sc ks vs = true → dshp kv2 sc ks' vs' = true → P (.Assign [.Name x yp] (.IfExp t (.Dict ks vs p1) (.Dict ks' vs' p2) p3) p)) : P st := by
  refine ob2_t h fun t v h1 h => ob_t h fun y h2 h => ob3_t h fun t' a b h3 h => ob2_t h fun ks vs h4 h => ob2_t h fun ks' vs' h5 h => b5 h fun e mc sh d1 d2 => ?_
  cases eq_of_beq e
  refine asg1_el h1 fun p => ?_
  refine xName_el h2 fun q => ?_
  refine xIfExp_el h3 fun p3 => ?_
  refine xDict_el h4 fun p1 => ?_
  exact xDict_el h5 fun p2 => k q t' ks vs p1 ks' vs' p2 p3 p mc sh d1 d2
section
variable {prog : Program} {w : World} {A : Around} {hB : Heap} {mg mb : Str → Option Value} {n : Nat} {D : Den} {s s0 : Shared} {X Y : Av} {env : Env} {sc : Sc} {ρ : List Slot} {m : Str → Option Value} {h h' : Heap} {pa la : Addr} {k : Nat} {st : Stmt} {rest : List Stmt} {R : Flow → Shared → Prop}
theorem St.put {i : Nat} {x : Str} {v : Value} {sl : Slot} {s : Shared} (O : Ok env sc) (S : St hB Y env sc pa la s.heap m ρ k) (u : Upd pa s0 s) (hL : s0.heap.get? env.locals = none) (hi : sc.get i = some (x, false)) (hx : x ≠ nPool) (hnew : slOk s.heap Y v sl) {Q : Unit → Shared → Prop}
    (hQ : ∀ s', St hB Y env sc pa la s'.heap (put m x v) (pset ρ i sl) k → Upd pa s0 s' → Heap.SameBut env.locals s.heap s'.heap → Q () s') : wpAny (model prog w) A (storeName env x v) Q NoE s := by
  refine S.F.store O hi hnew fun h' tk F' hs => ?_
  have ne : pa ≠ env.locals := S.ne
  refine hQ { s with heap := h', toks := tk } ⟨F', ?_, S.yp, ?_⟩ ?_ hs
  · exact S.P.mono (fun o e => (hs.2 pa ne).trans e) fun b o e y => ⟨(hs.2 b (by rintro rfl; exact y S.F.locY)).trans e, y⟩
  · show (if nPool = x then some v else m nPool) = _
    rw [if_neg (fun q => hx q.symm)]; exact S.mp
  · obtain ⟨⟨h1, t1, rfl⟩, kk⟩ := u
    exact ⟨⟨h', tk, rfl⟩, fun b o hb e => (hs.2 b (by rintro rfl; rw [hL] at e; cases e)).trans (kk b o hb e)⟩
theorem st_asg {x : Str} {i : Nat} {W : WE} {Q : PV → Prop} (B : Bg prog w A hB mg mb (n + 1) D) (G2 : Gs2 hB mg mb) (Dw : Dr hB mg) (O : Ok env sc) (hs : asgShp x W sc st = true) (hi : sc.get i = some (x, false)) (hx : x ≠ nPool) (hq : wq D ρ W Q) (hk : k + wd W ≤ 100)
    (S : St hB Y env sc pa la s.heap m ρ k) (u : Upd pa s0 s) (hL : s0.heap.get? env.locals = none)
    (next : ∀ p m' s', Q p → St hB Y env sc pa la s'.heap m' (pset ρ i (.val p)) (k + wd W) → Upd pa s0 s' → wpAny (model prog w) A (execs rest env) R NoE s') : wpAny (model prog w) A (execs (st :: rest) env) R NoE s := by
  refine asgShp_el hs fun yp v p nc ws => ?_
  refine wpAny_execs_cons (wpAny_Assign_Name (wpAny_mono (w_ok B G2 Dw O W v Q k s ws hq hk S) (fun v1 s1 h1 => ?_) eid) (swaps_none nc))
  exact an3 h1 fun h u1 S1 => ex2 h fun p hp rp => S1.put O (u.trans u1) hL hi hx (sl := .val p) rp fun s' S' u' o0 => next p _ s' hp S' u'
theorem two_asg {x1 x2 : Str} {ts : List Expr} {k1 k2 : Nat} {p1 p2 pos : Pos} {v1 v2 : Expr} {Q : Flow → Shared → Prop} (hd : A.handled = none) (O : Ok env sc) (n1 : notStar v1 = true) (n2 : notStar v2 = true) (sw : swp sc ts [v1, v2] = some (some [x1, x2]))
    (h : wpAny (model prog w) A (eval v1 env) (fun x s1 => wpAny (model prog w) A (eval v2 env) (fun y s2 => ∀ h', KeepsH s2.heap h' → wpAny (model prog w) A (storeName env x2 y) (fun o0 s => wpAny (model prog w) A (storeName env x1 x) (fun o0 s => Q .next s) NoE s) NoE { s2 with heap := h' }) NoE s1) NoE s) :
    wpAny (model prog w) A (exec (.Assign [.Tuple ts k1 p1] (.Tuple [v1, v2] k2 p2) pos) env) Q NoE s := by
  refine Assign_Tuple_swapped (names := [x1, x2]) (wpAny_Tuple ?_) swaps_tup (swp_eq O sw)
  rw [backTo_cons n1, backTo_cons n2]
  refine Calls.spliced_cons (wpAny_mono h (fun x s1 h1 => Calls.spliced_cons (wpAny_mono h1 (fun y s2 h2 => Calls.spliced_nil ⟨Nat.le_of_ble_eq_true rfl, ?_⟩) eid)) eid)
  refine unpackItems_tuple (items := [x, y].toArray) hd ⟨_, Heap.get?_push_size _ rfl, rfl, 0, rfl⟩ fun h' hx' => assign_binds (xs := [x2, x1]) (vs := [y, x]) rfl (h2 h' fun b o e => ?_)
  have kp := Heap.get?_push_of_some { cls := .type "tuple", data := .seq [x, y].toArray } e
  exact hx' b o (Nat.ne_of_lt (Heap.lt_size kp)) kp
theorem st_asg2 {x1 x2 : Str} {i j : Nat} {W1 W2 : WE} {Q : PV → PV → Prop} (B : Bg prog w A hB mg mb (n + 1) D) (G2 : Gs2 hB mg mb) (Dw : Dr hB mg) (O : Ok env sc) (hs : asg2Shp x1 x2 W1 W2 sc st = true) (hi : sc.get i = some (x1, false)) (hj : sc.get j = some (x2, false)) (hx1 : x1 ≠ nPool) (hx2 : x2 ≠ nPool)
    (hq : wq D ρ W1 fun p => wq D ρ W2 fun q => Q p q) (hk : k + wd W1 + wd W2 ≤ 100) (S : St hB Y env sc pa la s.heap m ρ k) (u : Upd pa s0 s) (hL : s0.heap.get? env.locals = none)
    (next : ∀ p q m' s', Q p q → St hB Y env sc pa la s'.heap m' (pset (pset ρ j (.val q)) i (.val p)) (k + wd W1 + wd W2) → Upd pa s0 s' → wpAny (model prog w) A (execs rest env) R NoE s') : wpAny (model prog w) A (execs (st :: rest) env) R NoE s := by
  refine asg2Shp_el hs fun ts k1 p1 v1 v2 k2 p2 pos n1 n2 w1 w2 sw => ?_
  refine wpAny_execs_cons (two_asg B.R.hd O n1 n2 sw (wpAny_mono (w_ok B G2 Dw O W1 v1 _ k s w1 hq (Nat.le_trans (Nat.le_add_right _ _) hk) S) (fun x s1 h1 => ?_) eid))
  refine an3 h1 fun h u1 S1 => ex2 h fun p hp rp => ?_
  refine wpAny_mono (w_ok B G2 Dw O W2 v2 _ _ s1 w2 hp hk S1) (fun y s2 h2 h' kx => ?_) eid
  refine an3 h2 fun h u2 S2 => ex2 h fun q hQ rq => ?_
  refine (S2.keeps kx).put (s := { s2 with heap := h' }) O (((u.trans u1).trans u2).trans (.of ⟨h', s2.toks, rfl, kx⟩)) hL hj hx2 (sl := .val q) (rq.keeps kx) fun s4 S4 u4 hs4 => ?_
  exact S4.put O u4 hL hi hx1 (sl := .val p) (Rep.sameBut hs4 S.F.locY ((u2.rep S.yp rp).keeps kx)) fun s5 S5 u5 o0 => next p q _ s5 hQ S5 u5
noncomputable def Built (prog : Program) (w : World) (Y : Av) (pa la : Addr) (s0 : Shared) (f : List Int) (td : List (Q × Int)) (k : Nat) (v : Value) (s' : Shared) : Prop :=
  (∃ t fv d, v = .ref t ∧ IsTup s'.heap t #[fv, .ref d] ∧ Rep s'.heap Y fv (eP f) ∧ TD prog w s'.heap Y d td) ∧ Upd pa s0 s' ∧ Pool Y s'.heap pa la k
theorem st_ret {p : PE} {kv : List (PE × PE)} {f : List Int} {td : List (Q × Int)} (B : Bg prog w A hB mg mb n D) (lim : hB.NoLimit) (O : Ok env sc) (hs : retShp p kv sc st = true) (hp : pev D ρ p = some (eP f)) (hd : dev D ρ kv td) (hkv : kv.length ≤ 15) (ht : td.length ≤ 1000) (hn : nodK td = true)
    (S : St hB Y env sc pa la s.heap m ρ k) (u : Upd pa s0 s) (hR : ∀ v s', Built prog w Y pa la s0 f td k v s' → R (.ret v) s') : wpAny (model prog w) A (execs (st :: rest) env) R NoE s := by
  refine ob2_t hs fun e1 e2 hr hs => ob2_t hs fun ks vs hd' hs => b4 hs fun n1 m1 s1 s2 => ?_
  refine ret2_el hr fun k1 p1 pos => ?_
  refine xDict_el hd' fun dp => ?_
  refine wpAny_execs_cons (wpAny_Return_some (wpAny_Tuple ?_))
  rw [backTo_cons n1, backTo_cons rfl]
  refine Calls.spliced_cons (wpAny_mono (S.F.eval B O m1 s1 hp) (fun x t1 h1 => ?_) eid)
  have S1 := S.keeps (Keeps.heap' h1.1)
  refine Calls.spliced_cons (wpAny_mono (disp_ok B lim O S1.F s2 hd hkv ht hn) (fun y t2 h2 => Calls.spliced_nil ?_) eid)
  refine an2 h2 fun k2 h2 => ex2 h2 fun d e T => ?_
  cases e
  have S2 := S1.keeps (Keeps.heap' k2)
  have kp : KeepsH t2.heap (t2.heap.push { cls := .type "tuple", data := .seq [x, .ref d].toArray }) := fun o0 o0 e => Heap.get?_push_of_some _ e
  exact ⟨Nat.le_of_ble_eq_true rfl, hR _ _ ⟨⟨_, x, d, rfl, ⟨_, Heap.get?_push_size _ rfl, rfl, 0, rfl⟩, (h1.2.keeps (Keeps.heap' k2)).keeps kp, T.keeps kp⟩, (u.trans (.of (keeps_trans h1.1 k2))).trans (.of (keeps_push t2 _)), (S2.keeps kp).P⟩⟩
theorem st_retN {p : PE} {x : Str} {i : Nat} {f : List Int} {td : List (Q × Int)} {d : Addr} (B : Bg prog w A hB mg mb n D) (O : Ok env sc) (hs : retNShp p x sc st = true) (hi : sc.get i = some (x, false)) (hp : pev D ρ p = some (eP f)) (hm : m x = some (.ref d)) (T : TD prog w s.heap Y d td)
    (S : St hB Y env sc pa la s.heap m ρ k) (u : Upd pa s0 s) (hR : ∀ v s', Built prog w Y pa la s0 f td k v s' → R (.ret v) s') : wpAny (model prog w) A (execs (st :: rest) env) R NoE s := by
  refine ob2_t hs fun e1 e2 hr hs => ob_t hs fun y hy hs => b4 hs fun n1 m1 s1 e => ?_
  cases eq_of_beq e
  refine ret2_el hr fun k1 p1 pos => ?_
  refine xName_el hy fun yp => ?_
  refine wpAny_execs_cons (wpAny_Return_some (wpAny_Tuple ?_))
  rw [backTo_cons n1, backTo_cons rfl]
  refine Calls.spliced_cons (wpAny_mono (S.F.eval B O m1 s1 hp) (fun x t1 h1 => ?_) eid)
  have S1 := S.keeps (Keeps.heap' h1.1)
  have T1 := T.keeps (Keeps.heap' h1.1)
  refine Calls.spliced_cons (S1.F.name O hi hm (Calls.spliced_nil ?_))
  have kp : KeepsH t1.heap (t1.heap.push { cls := .type "tuple", data := .seq [x, .ref d].toArray }) := fun o0 o0 e => Heap.get?_push_of_some _ e
  exact ⟨Nat.le_of_ble_eq_true rfl, hR _ _ ⟨⟨_, x, d, rfl, ⟨_, Heap.get?_push_size _ rfl, rfl, 0, rfl⟩, h1.2.keeps kp, T1.keeps kp⟩, (u.trans (.of h1.1)).trans (.of (keeps_push t1 _)), (S1.keeps kp).P⟩⟩
theorem st_told {x : Str} {i : Nat} {c : PE} {b : Bool} {kv1 kv2 : List (PE × PE)} {td1 td2 : List (Q × Int)} (B : Bg prog w A hB mg mb n D) (lim : hB.NoLimit) (O : Ok env sc) (hs : toldShp x c kv1 kv2 sc st = true) (hi : sc.get i = some (x, false)) (hx : x ≠ nPool) (hc : pev D ρ c = some (.bool b))
    (h1 : dev D ρ kv1 td1) (h2 : dev D ρ kv2 td2) (l1 : kv1.length ≤ 15) (l2 : kv2.length ≤ 15) (t1 : td1.length ≤ 1000) (t2 : td2.length ≤ 1000) (n1 : nodK td1 = true) (n2 : nodK td2 = true) (S : St hB Y env sc pa la s.heap m ρ k) (u : Upd pa s0 s) (hL : s0.heap.get? env.locals = none)
    (next : ∀ d s', TD prog w s'.heap Y d (if b then td1 else td2) → St hB Y env sc pa la s'.heap (put m x (.ref d)) (pset ρ i .un) k → Upd pa s0 s' → wpAny (model prog w) A (execs rest env) R NoE s') : wpAny (model prog w) A (execs (st :: rest) env) R NoE s := by
  refine toldShp_el hs fun yp t ks vs p1 ks' vs' p2 p3 pos mc sh d1 d2 => ?_
  have fin : ∀ (v : Value) (s' s1 : Shared), Keeps s s1 → Keeps s1 s' → (∃ d, v = .ref d ∧ TD prog w s'.heap Y d (if b then td1 else td2)) → wpAny (model prog w) A (storeName env x v) (fun o0 s'' => wpAny (model prog w) A (execs rest env) R NoE s'') NoE s' := by
    rintro v s' s1 k1 k2 ⟨d, rfl, T⟩
    exact (S.keeps (Keeps.heap' (keeps_trans k1 k2))).put O (u.trans (.of (keeps_trans k1 k2))) hL hi hx (sl := .un) trivial fun s'' S'' u'' hs'' => next d s'' (T.move fun b o e y' => ⟨(hs''.2 b (by rintro rfl; exact y' S.F.locY)).trans e, y'⟩) S'' u''
  refine wpAny_execs_cons (wpAny_Assign_Name (wpAny_IfExp (wpAny_mono (S.F.test B O mc sh hc) (fun r s1 h1' => ?_) eid)) rfl)
  have k1 := h1'.1
  have S1 := S.keeps (Keeps.heap' k1)
  have eb := h1'.2
  cases r with
  | true => exact wpAny_mono (disp_ok B lim O S1.F d1 h1 l1 t1 n1) (fun v s' h => fin v s' s1 k1 h.1 (by rw [← eb]; exact h.2)) eid
  | false => exact wpAny_mono (disp_ok B lim O S1.F d2 h2 l2 t2 n2) (fun v s' h => fin v s' s1 k1 h.1 (by rw [← eb]; exact h.2)) eid
end
end Mine.Internal
namespace Mine.Internal
open PySem PySem.W PyProof.Rows
noncomputable def nmBuilt : Str := Str.ofString "_law_built"
noncomputable def nForm : Str := Str.ofString "form"
noncomputable def nSign : Str := Str.ofString "sign"
noncomputable def nMore : Str := Str.ofString "more"
noncomputable def nTop : Str := Str.ofString "top"
noncomputable def nBot : Str := Str.ofString "bottom"
noncomputable def nRoot : Str := Str.ofString "root"
noncomputable def nOff : Str := Str.ofString "is_off"
noncomputable def nTold : Str := Str.ofString "told"
noncomputable def slB : List Str := [nPool, nForm, nSign, nMore, nTop, nBot, nRoot, nOff, nTold]
noncomputable def pe_list : List PE → PE
  | [] => .nil
  | a :: r => .cons a (pe_list r)
noncomputable def p10 (k : Int) : PE := .bin .pow (.lit 10) (.lit k)
noncomputable def W1a : WE := .draw 4
noncomputable def W1b : WE := .idx (.pure (.lst (pe_list [.lit 1, .neg (.lit 1)]))) (.draw 2)
noncomputable def W2 : WE := .bin .add (.pure (.lit 1)) (.draw 30)
noncomputable def W3a : WE := .pure (.bin .mul (.var 2) (.bin .add (p10 39) (.var 3)))
noncomputable def W3b : WE := .idx (.pure (.lst (pe_list [.lit 1, .lit 3, .bin .add (p10 20) (.lit 1), .bin .add (.bin .mul (.lit 7) (p10 39)) (.bin .mul (.lit 7) (.var 3))]))) (.draw 4)
noncomputable def P0 : PE := .lst (pe_list [.bin .sub (.lit 0) (.var 4), .var 5])
noncomputable def kvL (c : Int) : List (PE × PE) := [(.call .f_law_lowest (pe_list [.var 4, .var 5]), .lit c)]
noncomputable def W4a : WE := .pure (.bin .add (p10 5) (.var 3))
noncomputable def W4b : WE := .draw 2
noncomputable def C4 : PE := .cmp .eq (.var 7) (.lit 1)
noncomputable def kv4 : List (PE × PE) := [(.tup (pe_list [.bin .sub (.lit 0) (.var 6), .lit 1]), .lit 1), (.tup (pe_list [.var 6, .lit 1]), .lit 1)]
noncomputable def P1 : PE := .lst (pe_list [.bin .sub (.lit 0) (.bin .mul (.var 2) (.bin .add (.bin .mul (.var 6) (.var 6)) (.var 7))), .lit 0, .var 2])
noncomputable def W5a : WE := .pure (.bin .mul (.var 2) (.bin .add (p10 5) (.var 3)))
noncomputable def W5b : WE := .bin .add (.pure (.bin .add (p10 5) (.lit 1))) (.draw 9)
noncomputable def P2 : PE := .call .f_law_times (pe_list [P0, P0])
noncomputable def W6 : WE := .pure (.bin .add (p10 10) (.var 3))
noncomputable def W7 : WE := .bin .mul (.pure (.var 2)) (.bin .add (.pure (.bin .mul (.lit 3) (.var 5))) (.bin .mul (.draw 2) (.pure (.bin .fdiv (.var 5) (.lit 6)))))
noncomputable def P3 : PE := .call .f_law_times (pe_list [P0, .lst (pe_list [.neg (.lit 10), .lit 0, .lit 1])])
noncomputable def isForm (c : Int) (sc : Sc) (t : Expr) : Bool := shp (.cmp .eq (.var 1) (.lit c)) sc [t]
noncomputable def ifShp (c : Int) (sc : Sc) (f : List Stmt → Bool) (g : List Stmt → Bool) : List Stmt → Bool := bC fun st rest => ob3 (sIf st) fun t body orelse => isForm c sc t && bN orelse && f body && g rest
noncomputable def f0Shp (sc : Sc) : List Stmt → Bool := bC fun a r => asg2Shp nTop nBot W3a W3b sc a && bC (fun b o0 => retShp P0 (kvL 1) sc b) r
noncomputable def f1Shp (sc : Sc) : List Stmt → Bool := bC fun a r => asg2Shp nRoot nOff W4a W4b sc a && bC (fun b r => toldShp nTold C4 [] kv4 sc b && bC (fun c o0 => retNShp P1 nTold sc c) r) r
noncomputable def f2Shp (sc : Sc) : List Stmt → Bool := bC fun a r => asg2Shp nTop nBot W5a W5b sc a && bC (fun b o0 => retShp P2 (kvL 2) sc b) r
noncomputable def f3Shp (sc : Sc) : List Stmt → Bool := bC fun a r => asgShp nBot W6 sc a && bC (fun b r => asgShp nTop W7 sc b && bC (fun c o0 => retShp P3 (kvL 1) sc c) r) r
noncomputable def restShp (sc : Sc) : List Stmt → Bool := ifShp 0 sc (f0Shp sc) (ifShp 1 sc (f1Shp sc) (ifShp 2 sc (f2Shp sc) (f3Shp sc)))
noncomputable def builtShp (d : DefRec) : Bool := chkPlain nmBuilt [nPool] slB d && bC (fun a r => asg2Shp nForm nSign W1a W1b (plSc d slB) a && bC (fun b r => asgShp nMore W2 (plSc d slB) b && restShp (plSc d slB) r) r) d.body
end Mine.Internal
namespace Mine.Internal
open PySem PySem.W PyProof.Rows
structure AllCases : Prop where
  c0 : ∀ s m j : Int, s = 1 ∨ s = -1 → 1 ≤ m → m ≤ 30 → 0 ≤ j → j < 4 → chk (frm0 s m j) = true
  c1 : ∀ s m j : Int, s = 1 ∨ s = -1 → 1 ≤ m → m ≤ 30 → 0 ≤ j → j < 2 → chk (frm1 s m j) = true
  c2 : ∀ s m j : Int, s = 1 ∨ s = -1 → 1 ≤ m → m ≤ 30 → 0 ≤ j → j < 9 → chk (frm2 s m j) = true
  c3 : ∀ s m j : Int, s = 1 ∨ s = -1 → 1 ≤ m → m ≤ 30 → 0 ≤ j → j < 2 → chk (frm3 s m j) = true
theorem rank_lt (f : Fn) : f.rank < 60 := by cases f <;> exact Nat.le_of_ble_eq_true rfl
theorem sm_abs {a : Int} (h0 : -(10 ^ 100) ≤ a) (h : a ≤ 10 ^ 100) : sm a = true := by
  unfold sm
  refine Nat.ble_eq_true_of_le (Nat.le_trans (m := 10 ^ 100) (by lia) (Nat.le_of_ble_eq_true (by decide +kernel)))
theorem sm_sg {sg a : Int} (hs : sg = 1 ∨ sg = -1) (h0 : 0 ≤ a) (h1 : a ≤ 10 ^ 100) : sm (0 - sg * a) = true := by
  rcases hs with rfl | rfl
  · exact sm_abs (by lia) (by lia)
  · exact sm_abs (by lia) (by lia)
theorem mul_of {a b : Int} (ha : sm a = true) (hb : sm b = true) : mul a b = some (a * b) := by unfold mul; rw [ha, hb]; rfl
theorem pev_p10 {D : Den} {ρ : List Slot} {k : Int} (h0 : 0 ≤ k) (h1 : k ≤ 100) : pev D ρ (p10 k) = some (.int (10 ^ k.toNat)) := by
  have : pow? 10 k = some (10 ^ k.toNat) := by
    unfold pow?
    rw [show sm 10 = true from sm_abs (by decide) (by decide), decide_eq_true h0, decide_eq_true h1]; rfl
  simp only [p10, pv_lit, pv_bin, Option.bind_some, bP, this, Option.map_some]
theorem e39 : (10 : Int) ^ 39 = 1000000000000000000000000000000000000000 := by decide
theorem e10 : (10 : Int) ^ 10 = 10000000000 := by decide
theorem e5 : (10 : Int) ^ 5 = 100000 := by decide
theorem e100 : (10 : Int) ^ 100 = 10000000000000000000000000000000000000000000000000000000000000000000000000000000000000000000000000000 := by decide
section
variable {D : Den} {ρ : List Slot}
theorem wq_pure {p : PE} {v : PV} {Q : PV → Prop} (h : pev D ρ p = some v) (hQ : Q v) : wq D ρ (.pure p) Q := ⟨v, h, hQ⟩
theorem pick2 {r : Int} (h0 : 0 ≤ r) (h1 : r < 2) : r = 0 ∨ r = 1 := by lia
theorem pick4 {r : Int} (h0 : 0 ≤ r) (h1 : r < 4) : r = 0 ∨ r = 1 ∨ r = 2 ∨ r = 3 := by lia
theorem wq1 {Q : PV → PV → Prop} (h : ∀ fo sg : Int, 0 ≤ fo → fo < 4 → sg = 1 ∨ sg = -1 → Q (.int fo) (.int sg)) : wq D ρ W1a fun p => wq D ρ W1b fun q => Q p q := by
  refine ⟨by decide, fun fo f0 f1 => ⟨.lst [.int 1, .int (-1)], rfl, by decide, fun r r0 r1 => ?_⟩⟩
  rcases pick2 r0 r1 with rfl | rfl
  · exact ⟨.int 1, rfl, h fo 1 f0 f1 (.inl rfl)⟩
  · exact ⟨.int (-1), rfl, h fo (-1) f0 f1 (.inr rfl)⟩
theorem wq2 {Q : PV → Prop} (h : ∀ mo : Int, 1 ≤ mo → mo ≤ 30 → Q (.int mo)) : wq D ρ W2 Q :=
  ⟨.int 1, rfl, by decide, fun r r0 r1 => ⟨.int (1 + r), rfl, h _ (by lia) (by lia)⟩⟩
theorem wq3 {Q : PV → PV → Prop} {sg mo : Int} (hs : sg = 1 ∨ sg = -1) (m1 : 1 ≤ mo) (m2 : mo ≤ 30) (h2 : pget ρ 2 = .val (.int sg)) (h3 : pget ρ 3 = .val (.int mo))
    (h : ∀ j : Int, 0 ≤ j → j < 4 → Q (.int (sg * (10 ^ 39 + mo))) (.int (bot0 mo j))) : wq D ρ W3a fun p => wq D ρ W3b fun q => Q p q := by
  have p39 : pev D ρ (p10 39) = some (.int (10 ^ 39)) := pev_p10 (by decide) (by decide)
  have p20 : pev D ρ (p10 20) = some (.int (10 ^ 20)) := pev_p10 (by decide) (by decide)
  have b1 : sm sg = true := by rcases hs with rfl | rfl <;> exact sm_abs (by decide) (by decide)
  have b2 : sm (10 ^ 39 + mo) = true := by refine sm_abs ?_ ?_ <;> rw [e39, e100] <;> lia
  have b3 : sm 7 = true := sm_abs (by decide) (by decide)
  have b4 : sm (10 ^ 39) = true := sm_abs (by decide) (by decide)
  have b5 : sm mo = true := by refine sm_abs ?_ ?_ <;> rw [e100] <;> lia
  refine wq_pure (v := .int (sg * (10 ^ 39 + mo))) ?_ ?_
  · simp only [pv_var, pv_bin, p39, h2, h3, Option.bind_some, bA, bM, mul_of b1 b2, Option.map_some]
  · refine ⟨.lst [.int 1, .int 3, .int (10 ^ 20 + 1), .int (7 * 10 ^ 39 + 7 * mo)], ?_, by decide, fun r r0 r1 => ?_⟩
    · simp only [pe_list, pv_lit, pv_var, pv_bin, pv_nil, pv_cons, pv_lst, p39, p20, h3, Option.bind_some, bA, bM, mul_of b3 b4, mul_of b3 b5, Option.map_some, jT, jN]
      exact fit3 _ (by simp)
    · rcases pick4 r0 r1 with rfl | rfl | rfl | rfl
      · exact ⟨.int 1, rfl, h 0 (by decide) (by decide)⟩
      · exact ⟨.int 3, rfl, h 1 (by decide) (by decide)⟩
      · exact ⟨_, rfl, h 2 (by decide) (by decide)⟩
      · exact ⟨_, rfl, h 3 (by decide) (by decide)⟩
theorem wq4 {Q : PV → PV → Prop} {mo : Int} (h3 : pget ρ 3 = .val (.int mo)) (h : ∀ j : Int, 0 ≤ j → j < 2 → Q (.int (10 ^ 5 + mo)) (.int j)) : wq D ρ W4a fun p => wq D ρ W4b fun q => Q p q := by
  have p5 : pev D ρ (p10 5) = some (.int (10 ^ 5)) := pev_p10 (by decide) (by decide)
  refine wq_pure (v := .int (10 ^ 5 + mo)) ?_ ⟨by decide, fun r r0 r1 => h r r0 r1⟩
  simp only [pv_var, pv_bin, p5, h3, Option.bind_some, bA]
theorem wq5 {Q : PV → PV → Prop} {sg mo : Int} (hs : sg = 1 ∨ sg = -1) (m1 : 1 ≤ mo) (m2 : mo ≤ 30) (h2 : pget ρ 2 = .val (.int sg)) (h3 : pget ρ 3 = .val (.int mo))
    (h : ∀ k : Int, 0 ≤ k → k < 9 → Q (.int (sg * (10 ^ 5 + mo))) (.int (10 ^ 5 + 1 + k))) : wq D ρ W5a fun p => wq D ρ W5b fun q => Q p q := by
  have p5 : pev D ρ (p10 5) = some (.int (10 ^ 5)) := pev_p10 (by decide) (by decide)
  have b1 : sm sg = true := by rcases hs with rfl | rfl <;> exact sm_abs (by decide) (by decide)
  have b2 : sm (10 ^ 5 + mo) = true := by refine sm_abs ?_ ?_ <;> rw [e5, e100] <;> lia
  refine wq_pure (v := .int (sg * (10 ^ 5 + mo))) ?_ ⟨.int (10 ^ 5 + 1), ?_, by decide, fun r r0 r1 => ⟨_, rfl, h r r0 r1⟩⟩
  · simp only [pv_var, pv_bin, p5, h2, h3, Option.bind_some, bA, bM, mul_of b1 b2, Option.map_some]
  · simp only [pv_lit, pv_bin, p5, Option.bind_some, bA]
theorem wq6 {Q : PV → Prop} {mo : Int} (h3 : pget ρ 3 = .val (.int mo)) (h : Q (.int (10 ^ 10 + mo))) : wq D ρ W6 Q := by
  have p5 : pev D ρ (p10 10) = some (.int (10 ^ 10)) := pev_p10 (by decide) (by decide)
  refine wq_pure (v := .int (10 ^ 10 + mo)) ?_ h
  simp only [pv_var, pv_bin, p5, h3, Option.bind_some, bA]
theorem wq7 {Q : PV → Prop} {sg mo : Int} (hs : sg = 1 ∨ sg = -1) (m1 : 1 ≤ mo) (m2 : mo ≤ 30) (h2 : pget ρ 2 = .val (.int sg)) (h5 : pget ρ 5 = .val (.int (10 ^ 10 + mo)))
    (h : ∀ o : Int, 0 ≤ o → o < 2 → Q (.int (top3 sg mo o))) : wq D ρ W7 Q := by
  have b1 : sm sg = true := by rcases hs with rfl | rfl <;> exact sm_abs (by decide) (by decide)
  have b2 : sm (10 ^ 10 + mo) = true := by refine sm_abs ?_ ?_ <;> rw [e10, e100] <;> lia
  have b3 : sm 3 = true := sm_abs (by decide) (by decide)
  have b6 : sd 6 = true := sm_abs (a := 6) (by decide) (by decide)
  have hfd : Int.fdiv (10 ^ 10 + mo) 6 = (10 ^ 10 + mo) / 6 := Int.fdiv_eq_ediv_of_nonneg _ (by decide)
  have b7 : sm (Int.fdiv (10 ^ 10 + mo) 6) = true := by rw [hfd]; refine sm_abs ?_ ?_ <;> rw [e10, e100] <;> lia
  refine ⟨.int sg, by simp only [pv_var, h2], .int (3 * (10 ^ 10 + mo)), by simp only [pv_lit, pv_var, pv_bin, h5, Option.bind_some, bM, mul_of b3 b2, Option.map_some], by decide, fun o o0 o1 => ⟨.int (Int.fdiv (10 ^ 10 + mo) 6), ?_, .int (o * Int.fdiv (10 ^ 10 + mo) 6), ?_, .int (3 * (10 ^ 10 + mo) + o * Int.fdiv (10 ^ 10 + mo) 6), rfl, .int (top3 sg mo o), ?_, h o o0 o1⟩⟩
  · simp only [pv_lit, pv_var, pv_bin, h5, Option.bind_some, bF, if_neg (show ¬ (6 : Int) = 0 by decide), b6, if_true]
  · have bo : sm o = true := by refine sm_abs ?_ ?_ <;> rw [e100] <;> lia
    simp only [bM, mul_of bo b7, Option.map_some]
  · have b8 : sm (3 * (10 ^ 10 + mo) + o * Int.fdiv (10 ^ 10 + mo) 6) = true := by
      rw [hfd]
      rcases pick2 o0 o1 with rfl | rfl <;> (refine sm_abs ?_ ?_ <;> rw [e10, e100] <;> lia)
    simp only [bM, mul_of b1 b8, Option.map_some, top3]
theorem pev_P0 {t b : Int} (h4 : pget ρ 4 = .val (.int t)) (h5 : pget ρ 5 = .val (.int b)) : pev D ρ P0 = some (eP [0 - t, b]) := by
  simp only [P0, pe_list, pv_lit, pv_var, pv_bin, pv_nil, pv_cons, pv_lst, h4, h5, Option.bind_some, bS, jT, jN]
  exact fit3 _ (by simp)
theorem DF_low (args : List PV) : DF .f_law_lowest args = n_law_lowest args := rfl
theorem dev_kvL {t b c : Int} (h4 : pget ρ 4 = .val (.int t)) (h5 : pget ρ 5 = .val (.int b)) (hb : 0 < b) (hs : b ≤ 10 ^ 100) : dev DF ρ (kvL c) [(lowQ t b, c)] := by
  refine ⟨?_, rfl, trivial⟩
  simp only [pe_list, pv_var, pv_nil, pv_cons, pv_call, h4, h5, Option.bind_some, DF_low, L_lowest hb hs, jT, jN]
theorem pev_P1 {sg r o : Int} (hs : sg = 1 ∨ sg = -1) (r0 : 0 ≤ r) (r1 : r ≤ 10 ^ 6) (o0 : 0 ≤ o) (o1 : o < 2) (h2 : pget ρ 2 = .val (.int sg)) (h6 : pget ρ 6 = .val (.int r)) (h7 : pget ρ 7 = .val (.int o)) : pev D ρ P1 = some (eP [0 - sg * (r * r + o), 0, sg]) := by
  have b1 : sm sg = true := by rcases hs with rfl | rfl <;> exact sm_abs (by decide) (by decide)
  have br : sm r = true := sm_abs (by lia) (by lia)
  have hrr : r * r ≤ 10 ^ 6 * 10 ^ 6 := Int.mul_le_mul r1 r1 r0 (by decide)
  have hr0 : 0 ≤ r * r := Int.mul_nonneg r0 r0
  have bs : sm (r * r + o) = true := by
    refine sm_abs ?_ ?_
    · rw [e100]; lia
    · rw [e100]; rw [show (10 : Int) ^ 6 * 10 ^ 6 = 1000000000000 by decide] at hrr; lia
  simp only [P1, pe_list, pv_lit, pv_var, pv_bin, pv_nil, pv_cons, pv_lst, h2, h6, h7, Option.bind_some, bA, bS, bM, mul_of br br, Option.map_some, mul_of b1 bs, jT, jN]
  exact fit3 _ (by simp)
theorem dev_kv4 {r : Int} (h6 : pget ρ 6 = .val (.int r)) : dev D ρ kv4 [((0 - r, 1), 1), ((r, 1), 1)] := by
  refine ⟨?_, rfl, ?_, rfl, trivial⟩
  · simp only [pe_list, pv_lit, pv_var, pv_bin, pv_nil, pv_cons, pv_tup, h6, Option.bind_some, bS, jT, jN]
  · simp only [pe_list, pv_lit, pv_var, pv_nil, pv_cons, pv_tup, h6, Option.bind_some, jT, jN]
theorem pev_P2 {t b : Int} (h4 : pget ρ 4 = .val (.int t)) (h5 : pget ρ 5 = .val (.int b)) (ht : sm (0 - t) = true) (hb : sm b = true) : pev DF ρ P2 = some (eP (t22 (0 - t) b (0 - t) b)) := by
  simp only [P2, pe_list, pv_nil, pv_cons, pv_call, pev_P0 h4 h5, Option.bind_some, jT]
  exact L_times22 ht hb ht hb
theorem pev_P3 {t b : Int} (h4 : pget ρ 4 = .val (.int t)) (h5 : pget ρ 5 = .val (.int b)) (ht : sm (0 - t) = true) (hb : sm b = true) : pev DF ρ P3 = some (eP (t23 (0 - t) b (-10) 0 1)) := by
  have e : fit [PV.int (-10), PV.int 0, PV.int 1] = some (eP [-10, 0, 1]) := fit3 _ (by decide)
  simp only [P3, pe_list, pv_lit, pv_neg, pv_nil, pv_cons, pv_lst, pv_call, pev_P0 h4 h5, Option.bind_some, e, jI, jT, jN]
  exact L_times23 ht hb (sm_abs (by decide) (by decide)) (sm_abs (by decide) (by decide)) (sm_abs (by decide) (by decide))
end
end Mine.Internal
namespace Mine.Internal
open PySem PySem.W PyProof.Rows
section
variable {prog : Program} {w : World} {A : Around} {hB : Heap} {mg mb : Str → Option Value} {n : Nat} {D : Den} {s s0 : Shared} {X Y : Av} {env : Env} {sc : Sc} {ρ : List Slot} {m : Str → Option Value} {h h' : Heap} {pa la : Addr} {k : Nat} {st : Stmt} {rest : List Stmt} {R : Flow → Shared → Prop}
theorem bgF (G2 : Gs2 hB mg mb) (Rm : Room 60 A) : Bg prog w A hB mg mb 60 DF := ⟨G2.toGs, Rm, fun f args r h => all_contracts G2 60 f args r (rank_lt f) h⟩
theorem st_form {c fo : Int} {sts : List Stmt} {f g : List Stmt → Bool} (B : Bg prog w A hB mg mb n D) (O : Ok env sc) (hs : ifShp c sc f g sts = true) (h1 : pget ρ 1 = .val (.int fo)) (S : St hB Y env sc pa la s.heap m ρ k) (u : Upd pa s0 s)
    (yes : ∀ body s' R', f body = true → St hB Y env sc pa la s'.heap m ρ k → Upd pa s0 s' → (∀ v s', R (.ret v) s' → R' (.ret v) s') → wpAny (model prog w) A (execs body env) R' NoE s')
    (no : ∀ rest s', g rest = true → St hB Y env sc pa la s'.heap m ρ k → Upd pa s0 s' → wpAny (model prog w) A (execs rest env) R NoE s') : wpAny (model prog w) A (execs sts env) R NoE s := by
  refine bC_el hs fun st rest h => ob3_t h fun t body orelse hi h => b4 h fun hf hn hb hr => ?_
  refine sIf_el hi fun pos => ?_
  refine bN_el hn ?_
  have hv : pev D ρ (.cmp .eq (.var 1) (.lit c)) = some (.bool (decide (fo = c))) := by
    rw [pv_cmp, pv_lit, pX h1]
    show (match (match pget ρ 1 with | .own l => some l | _ => none) with | some l => some (PV.lst l) | none => some (PV.int fo)).bind _ = _
    rw [h1]; rfl
  refine wpAny_execs_cons (wpAny_If (wpAny_mono (S.F.test B O rfl hf hv) (fun r s1 h1 => ?_) eid))
  have S1 := S.keeps (Keeps.heap' h1.1)
  have u1 := u.trans (.of h1.1)
  cases r with
  | true => exact yes body s1 _ hb S1 u1 fun o0 o0 h => h
  | false => exact wpAny_execs_nil (no rest s1 hr S1 u1)
noncomputable def rho (fo sg mo : Int) : List Slot := [.un, .val (.int fo), .val (.int sg), .val (.int mo), .un, .un, .un, .un, .un]
section
variable {fo sg mo : Int} {sts : List Stmt} (B : Bg prog w A hB mg mb 60 DF) (G2 : Gs2 hB mg mb) (Dw : Dr hB mg) (O : Ok env sc) (g : ∀ i x, slB[i]? = some x → sc.get i = some (x, false)) (hL : s0.heap.get? env.locals = none) (AC : AllCases) (hs : sg = 1 ∨ sg = -1) (m1 : 1 ≤ mo) (m2 : mo ≤ 30)
  (S : St hB Y env sc pa la s.heap m (rho fo sg mo) 3) (u : Upd pa s0 s) (fin : ∀ f td k v s', caseB f td = true → k ≤ 10 → Built prog w Y pa la s0 f td k v s' → R (.ret v) s')
include B G2 Dw O g hL AC hs m1 m2 S u fin
theorem f0_ok (h : f0Shp sc sts = true) : wpAny (model prog w) A (execs sts env) R NoE s := by
  refine bC_el h fun a r h => b2 h fun h4 h => bC_el h fun b r h5 => ?_
  refine st_asg2 (n := 59) (Q := fun p q => ∃ j : Int, p = .int (sg * (10 ^ 39 + mo)) ∧ q = .int (bot0 mo j) ∧ 0 ≤ j ∧ j < 4) B G2 Dw O h4 (g 4 _ rfl) (g 5 _ rfl) (by decide) (by decide) (wq3 hs m1 m2 rfl rfl fun j j0 j1 => ⟨j, rfl, rfl, j0, j1⟩) (by decide) S u hL fun p q m3 s4 hQ S4 U4 => ?_
  refine ex4 hQ fun j e1 e2 j0 j1 => ?_
  cases e1
  cases e2
  have hbp : 0 < bot0 mo j ∧ bot0 mo j ≤ 10 ^ 100 := by
    rcases pick4 j0 j1 with rfl | rfl | rfl | rfl
    · exact ⟨show (0 : Int) < 1 by decide, show (1 : Int) ≤ 10 ^ 100 by decide⟩
    · exact ⟨show (0 : Int) < 3 by decide, show (3 : Int) ≤ 10 ^ 100 by decide⟩
    · exact ⟨show (0 : Int) < 10 ^ 20 + 1 by decide, show (10 : Int) ^ 20 + 1 ≤ 10 ^ 100 by decide⟩
    · show 0 < 7 * 10 ^ 39 + 7 * mo ∧ 7 * 10 ^ 39 + 7 * mo ≤ 10 ^ 100
      rw [e39, e100]; omega
  exact st_ret B G2.lim O h5 (pev_P0 (t := sg * (10 ^ 39 + mo)) (b := bot0 mo j) rfl rfl) (dev_kvL rfl rfl hbp.1 hbp.2) (Nat.le_of_ble_eq_true rfl) (Nat.le_of_ble_eq_true rfl) rfl S4 U4 fun v s' Bt => fin _ _ _ v s' (AC.c0 sg mo j hs m1 m2 j0 j1) (Nat.le_of_ble_eq_true rfl) Bt
theorem f1_ok (h : f1Shp sc sts = true) : wpAny (model prog w) A (execs sts env) R NoE s := by
  refine bC_el h fun a r h => b2 h fun h7 h => bC_el h fun b r h => b2 h fun h8 h => bC_el h fun c r h9 => ?_
  refine st_asg2 (n := 59) (Q := fun p q => ∃ j : Int, p = .int (10 ^ 5 + mo) ∧ q = .int j ∧ 0 ≤ j ∧ j < 2) B G2 Dw O h7 (g 6 _ rfl) (g 7 _ rfl) (by decide) (by decide) (wq4 rfl fun j j0 j1 => ⟨j, rfl, rfl, j0, j1⟩) (by decide) S u hL fun p q m3 s5 hQ S5 U5 => ?_
  refine ex4 hQ fun j e1 e2 j0 j1 => ?_
  cases e1
  cases e2
  have hr : 0 ≤ (10 : Int) ^ 5 + mo ∧ (10 : Int) ^ 5 + mo ≤ 10 ^ 6 := by rw [e5, show (10 : Int) ^ 6 = 1000000 by decide]; lia
  have hnd : nodK [((0 - ((10 : Int) ^ 5 + mo), (1 : Int)), (1 : Int)), ((10 ^ 5 + mo, 1), 1)] = true := by
    simp only [nodK_e1, nodK_e2, List.any_cons, List.any_nil, sameK_eq, Bool.or_false, Bool.and_true, Bool.not_eq_true', decide_eq_false_iff_not, Prod.mk.injEq, Bool.not_false]
    rw [e5]; lia
  have hC : pev DF (pset (pset (rho fo sg mo) 7 (.val (.int j))) 6 (.val (.int (10 ^ 5 + mo)))) C4 = some (.bool (decide (j = 1))) := rfl
  refine st_told (b := decide (j = 1)) B G2.lim O h8 (g 8 _ rfl) (by decide) hC (td1 := []) trivial (dev_kv4 (r := 10 ^ 5 + mo) rfl) (Nat.le_of_ble_eq_true rfl) (Nat.le_of_ble_eq_true rfl) (Nat.le_of_ble_eq_true rfl) (Nat.le_of_ble_eq_true rfl) rfl hnd S5 U5 hL fun dd s6 T S6 U6 => ?_
  refine st_retN B O h9 (g 8 _ rfl) (pev_P1 hs hr.1 hr.2 j0 j1 rfl rfl rfl) (if_pos rfl) T S6 U6 fun v s' Bt => fin _ _ _ v s' ?_ (Nat.le_of_ble_eq_true rfl) Bt
  have e := AC.c1 sg mo j hs m1 m2 j0 j1
  unfold chk frm1 at e
  by_cases q : j = 1
  · rw [if_pos q] at e
    rw [if_pos (decide_eq_true q)]; exact e
  · rw [if_neg q] at e
    rw [if_neg (fun x => q (of_decide_eq_true x))]; exact e
theorem f2_ok (h : f2Shp sc sts = true) : wpAny (model prog w) A (execs sts env) R NoE s := by
  refine bC_el h fun a r h => b2 h fun h4 h => bC_el h fun b r h5 => ?_
  refine st_asg2 (n := 59) (Q := fun p q => ∃ j : Int, p = .int (sg * (10 ^ 5 + mo)) ∧ q = .int (10 ^ 5 + 1 + j) ∧ 0 ≤ j ∧ j < 9) B G2 Dw O h4 (g 4 _ rfl) (g 5 _ rfl) (by decide) (by decide) (wq5 hs m1 m2 rfl rfl fun j j0 j1 => ⟨j, rfl, rfl, j0, j1⟩) (by decide) S u hL fun p q m3 s6 hQ S6 U6 => ?_
  refine ex4 hQ fun j e1 e2 j0 j1 => ?_
  cases e1
  cases e2
  have hb0 : 0 < (10 : Int) ^ 5 + 1 + j ∧ (10 : Int) ^ 5 + 1 + j ≤ 10 ^ 100 := by rw [e5, e100]; lia
  have ht : sm (0 - sg * (10 ^ 5 + mo)) = true := sm_sg hs (by rw [e5]; lia) (by rw [e5, e100]; lia)
  exact st_ret B G2.lim O h5 (pev_P2 (t := sg * (10 ^ 5 + mo)) (b := 10 ^ 5 + 1 + j) rfl rfl ht (sm_abs (by lia) hb0.2)) (dev_kvL rfl rfl hb0.1 hb0.2) (Nat.le_of_ble_eq_true rfl) (Nat.le_of_ble_eq_true rfl) rfl S6 U6 fun v s' Bt => fin _ _ _ v s' (AC.c2 sg mo j hs m1 m2 j0 j1) (Nat.le_of_ble_eq_true rfl) Bt
theorem f3_ok (h : f3Shp sc sts = true) : wpAny (model prog w) A (execs sts env) R NoE s := by
  refine bC_el h fun a r h => b2 h fun h13 h => bC_el h fun b r h => b2 h fun h14 h => bC_el h fun c r h15 => ?_
  refine st_asg (n := 59) (Q := fun p => p = .int (10 ^ 10 + mo)) B G2 Dw O h13 (g 5 _ rfl) (by decide) (wq6 rfl rfl) (by decide) S u hL fun p m3 s6 hQ S6 U6 => ?_
  cases hQ
  refine st_asg (n := 59) (Q := fun p => ∃ j : Int, p = .int (top3 sg mo j) ∧ 0 ≤ j ∧ j < 2) B G2 Dw O h14 (g 4 _ rfl) (by decide) (wq7 hs m1 m2 rfl rfl fun j j0 j1 => ⟨j, rfl, j0, j1⟩) (by decide) S6 U6 hL fun p m4 s7 hQ S7 U7 => ?_
  refine ex3 hQ fun j e j0 j1 => ?_
  cases e
  have hb0 : 0 < (10 : Int) ^ 10 + mo ∧ (10 : Int) ^ 10 + mo ≤ 10 ^ 100 := by rw [e10, e100]; lia
  have ht : sm (0 - top3 sg mo j) = true := by
    unfold top3
    rw [Int.fdiv_eq_ediv_of_nonneg _ (by decide)]
    rcases pick2 j0 j1 with rfl | rfl
    · exact sm_sg hs (by rw [e10]; lia) (by rw [e10, e100]; lia)
    · exact sm_sg hs (by rw [e10]; lia) (by rw [e10, e100]; lia)
  exact st_ret B G2.lim O h15 (pev_P3 (t := top3 sg mo j) (b := 10 ^ 10 + mo) rfl rfl ht (sm_abs (by lia) hb0.2)) (dev_kvL rfl rfl hb0.1 hb0.2) (Nat.le_of_ble_eq_true rfl) (Nat.le_of_ble_eq_true rfl) rfl S7 U7 fun v s' Bt => fin _ _ _ v s' (AC.c3 sg mo j hs m1 m2 j0 j1) (Nat.le_of_ble_eq_true rfl) Bt
theorem rest_ok (h : restShp sc sts = true) : wpAny (model prog w) A (execs sts env) R NoE s := by
  refine st_form (fo := fo) B O h rfl S u (fun body s' R' hf S u hR => f0_ok B G2 Dw O g hL AC hs m1 m2 S u (fun f td k v s' a b c => hR _ _ (fin f td k v s' a b c)) hf) fun rest s' h S u => ?_
  refine st_form (fo := fo) B O h rfl S u (fun body s' R' hf S u hR => f1_ok B G2 Dw O g hL AC hs m1 m2 S u (fun f td k v s' a b c => hR _ _ (fin f td k v s' a b c)) hf) fun rest s' h S u => ?_
  exact st_form (fo := fo) B O h rfl S u (fun body s' R' hf S u hR => f2_ok B G2 Dw O g hL AC hs m1 m2 S u (fun f td k v s' a b c => hR _ _ (fin f td k v s' a b c)) hf) fun rest s' h S u => f3_ok B G2 Dw O g hL AC hs m1 m2 S u fin h
end
theorem built_fm {d : DefRec} (kB : KeepsH hB s0.heap) (bY : ∀ b o, hB.get? b = some o → ¬ Y b) (old : ∀ b, Y b → ∃ o, s0.heap.get? b = some o) (yp : Y pa) (P : Pool Y s0.heap pa la ((0 : Nat) : Int)) (k1 : KeepsH s0.heap h) (hn : h.Ns env.locals m) (hL : s0.heap.get? env.locals = none) (hp : m nPool = some (.ref pa)) :
    St hB (fun b => Y b ∨ b = env.locals) env (plSc d slB) pa la h m [.un, .un, .un, .un, .un, .un, .un, .un, .un] 0 := by
  have ne : ∀ b o, s0.heap.get? b = some o → ¬ Y b → ¬ (Y b ∨ b = env.locals) := fun b o e y q => q.elim y fun q => no_none (hL.symm.trans (q ▸ e))
  refine ⟨⟨hn, fun b o e => k1 b o (kB b o e), fun b o e => ne b o (kB b o e) (bY b o e), fun b y => y.elim (fun y => (old b y).imp fun o e => k1 b o e) fun q => ?_, .inr rfl, fun i x e => ex1 (plSc_get e) fun o0 h => (nomatch h.1), fun i sl hi => ?_⟩, P.mono (fun o e => k1 _ o e) fun b o e y => ⟨k1 b o e, ne b o e y⟩, .inl yp, hp⟩
  · cases q; exact ex1 hn fun o h => ex1 h fun o0 h => ex1 h fun o0 h => ⟨o, h.1⟩
  · cases hi
    match i with
    | 0 | 1 | 2 | 3 | 4 | 5 | 6 | 7 | 8 => trivial
    | i + 9 => trivial
theorem built_call (G2 : Gs2 hB mg mb) (Dw : Dr hB mg) (AC : AllCases) {d : DefRec} (hc : builtShp d = true) {a : Addr} {o : Obj} {pm code doc : Value} (ho : hB.get? a = some o) (hd : o.data = .func (Calls.docDef d.name d.params d.body d.scope pm code doc)) (hcr : hB.CodeRec code d.name)
    (Rm : Room 61 A) (kB : KeepsH hB s0.heap) (bY : ∀ b o, hB.get? b = some o → ¬ Y b) (old : ∀ b, Y b → ∃ o, s0.heap.get? b = some o) (yp : Y pa) (P : Pool Y s0.heap pa la ((0 : Nat) : Int)) :
    wpAny (model prog w) A (call (.ref a) [.ref pa]) (fun v s' => ∃ f td k, caseB f td = true ∧ k ≤ 10 ∧ Built prog w Y pa la s0 f td k v s') NoE s0 := by
  refine b2 hc fun hc hb => ?_
  have R0 : Room 60 A := ⟨Rm.hd, by have := Rm.dp; lia, by have := Rm.un; lia⟩
  refine enter hc G2.lim kB R0 ho hd hcr rfl (fun env h₁ tk m O k1 hn hL hmm R' o0 => ?_) Rm
  have B : Bg prog w (A.deeper env) hB mg mb 60 DF := bgF G2 R'
  have g : ∀ i x, slB[i]? = some x → (plSc d slB).get i = some (x, false) := fun o0 o0 h => plSc_at h
  have S0 := built_fm (d := d) kB bY old yp P k1 hn hL (hmm 0 _ _ rfl rfl)
  have U0 : Upd pa s0 { s0 with heap := h₁, toks := tk } := ⟨⟨h₁, tk, rfl⟩, fun b o o0 e => k1 b o e⟩
  revert hb
  generalize d.body = body
  intro hb
  refine bC_el hb fun a r h => b2 h fun h1 h => bC_el h fun b r h => b2 h fun h2 h => ?_
  refine st_asg2 (n := 59) (Q := fun p q => ∃ fo sg : Int, p = .int fo ∧ q = .int sg ∧ (sg = 1 ∨ sg = -1)) B G2 Dw O h1 (g 1 _ rfl) (g 2 _ rfl) (by decide) (by decide) (wq1 fun fo sg f0 f1 f2 => ⟨fo, sg, rfl, rfl, f2⟩) (by decide) S0 U0 hL fun p q m1 s1' hQ S1 U1 => ?_
  refine ex1 hQ fun fo hQ => ex3 hQ fun sg e1 e2 hs => ?_
  cases e1
  cases e2
  refine st_asg (n := 59) (Q := fun p => ∃ mo : Int, p = .int mo ∧ 1 ≤ mo ∧ mo ≤ 30) B G2 Dw O h2 (g 3 _ rfl) (by decide) (wq2 fun mo m1 m2 => ⟨mo, rfl, m1, m2⟩) (by decide) S1 U1 hL fun p m2 s2' hQ S2 U2 => ?_
  refine ex3 hQ fun mo e mo1 mo2 => ?_
  cases e
  refine rest_ok (fo := fo) B G2 Dw O g hL AC hs mo1 mo2 S2 U2 (fun f td k v s' h hk Bt => ?_) h
  have sub : ∀ b o, s'.heap.get? b = some o → ¬ (Y b ∨ b = env.locals) → s'.heap.get? b = some o ∧ ¬ Y b := fun b o e q => ⟨e, fun y => q (.inl y)⟩
  obtain ⟨⟨t, fv, dd, e1, e2, e3, e4⟩, u, P'⟩ := Bt
  exact ⟨f, td, k, h, hk, ⟨t, fv, dd, e1, e2, e3.mono sub, e4.move sub⟩, u, P'.mono (fun o e => e) sub⟩
end
end Mine.Internal
namespace Mine.Internal
open PySem PySem.W PyProof.Rows
structure Gs3 (mg mb : Str → Option Value) : Prop where
  dt : mg (Str.ofString "dict") = none ∧ mb (Str.ofString "dict") = some (.type "dict")
  it : mg (Str.ofString "int") = none ∧ mb (Str.ofString "int") = some (.type "int")
noncomputable def ChgY (Y : Av) (s s' : Shared) : Prop := (∃ h tk, s' = { s with heap := h, toks := tk }) ∧ ∀ b o, s.heap.get? b = some o → ¬ Y b → s'.heap.get? b = some o
section
variable {prog : Program} {w : World} {A : Around} {E : Value → Shared → Prop} {hB : Heap} {mg mb : Str → Option Value} {n : Nat} {D : Den} {s s0 : Shared} {X Y : Av} {env : Env} {sc : Sc} {ρ : List Slot} {m : Str → Option Value} {h h' : Heap} {pa la d : Addr} {k : Nat} {st : Stmt} {rest : List Stmt} {R : Flow → Shared → Prop}
theorem ChgY.trans {a b c : Shared} (x : ChgY Y a b) (y : ChgY Y b c) : ChgY Y a c := by
  obtain ⟨⟨h, t, rfl⟩, k⟩ := x
  obtain ⟨⟨h', t', rfl⟩, k'⟩ := y
  exact ⟨⟨h', t', rfl⟩, fun b o e yb => k' b o (k b o e yb) yb⟩
theorem ChgY.of {s s' : Shared} (k : Keeps s s') : ChgY Y s s' := by
  obtain ⟨h, t, rfl, k⟩ := k; exact ⟨⟨h, t, rfl⟩, fun b o e o0 => k b o e⟩
theorem ChgY.upd {s s' : Shared} (u : Upd pa s s') (yp : Y pa) : ChgY Y s s' := ⟨u.1, fun b o e y => u.2 b o (by rintro rfl; exact y yp) e⟩
theorem ChgY.td {s s' : Shared} (c : ChgY Y s s') {td : List (Q × Int)} (T : TD prog w s.heap Y d td) : TD prog w s'.heap Y d td := T.move fun b o e y => ⟨c.2 b o e y, y⟩
theorem ChgY.rep {s s' : Shared} (c : ChgY Y s s') {v : Value} {p : PV} (r : Rep s.heap Y v p) : Rep s'.heap Y v p := r.mono fun b o e y => ⟨c.2 b o e y, y⟩
theorem Fm.put (O : Ok env sc) (F : Fm hB Y env sc s.heap m ρ) {i : Nat} {x : Str} {v : Value} {sl : Slot} {Q : Unit → Shared → Prop} (hi : sc.get i = some (x, false)) (hnew : slOk s.heap Y v sl)
    (hQ : ∀ s', Fm hB Y env sc s'.heap (put m x v) (pset ρ i sl) → Upd env.locals s s' → Q () s') : wpAny (model prog w) A (storeName env x v) Q NoE s :=
  F.store O hi hnew fun h' tk F' hs => hQ { s with heap := h', toks := tk } F' ⟨⟨h', tk, rfl⟩, fun b o hb e => (hs.2 b hb).trans e⟩
theorem asgP {x : Str} {i : Nat} {p : PE} {v : PV} (B : Bg prog w A hB mg mb n D) (O : Ok env sc) (hs : asgShp x (.pure p) sc st = true) (hi : sc.get i = some (x, false)) (hv : pev D ρ p = some v) (F : Fm hB Y env sc s.heap m ρ)
    (next : ∀ u s', Fm hB Y env sc s'.heap (put m x u) (pset ρ i (.val v)) → Upd env.locals s s' → wpAny (model prog w) A (execs rest env) R NoE s') : wpAny (model prog w) A (execs (st :: rest) env) R NoE s := by
  refine asgShp_el hs fun yp e pos nc ws => b2 ws fun m1 s1 => ?_
  exact wpAny_execs_cons (wpAny_Assign_Name (wpAny_mono (F.eval B O m1 s1 hv) (fun v1 s1 h1 => (F.keeps (Keeps.heap' h1.1)).put O hi (sl := .val v) h1.2 fun s' F' c => next v1 s' F' ((Upd.of h1.1).trans c)) eid) (swaps_none nc))
theorem asg2P {x1 x2 : Str} {i j : Nat} {p1 p2 : PE} {v1 v2 : PV} (B : Bg prog w A hB mg mb n D) (O : Ok env sc) (hs : asg2Shp x1 x2 (.pure p1) (.pure p2) sc st = true) (hi : sc.get i = some (x1, false)) (hj : sc.get j = some (x2, false)) (hv1 : pev D ρ p1 = some v1) (hv2 : pev D ρ p2 = some v2) (F : Fm hB Y env sc s.heap m ρ)
    (next : ∀ u1 u2 s', Fm hB Y env sc s'.heap (put (put m x2 u2) x1 u1) (pset (pset ρ j (.val v2)) i (.val v1)) → Upd env.locals s s' → wpAny (model prog w) A (execs rest env) R NoE s') : wpAny (model prog w) A (execs (st :: rest) env) R NoE s := by
  refine asg2Shp_el hs fun ts k1 q1 e1 e2 k2 q2 pos n1 n2 w1 w2 sw => b2 w1 fun m1 w1 => b2 w2 fun m2 w2 => ?_
  refine wpAny_execs_cons (two_asg B.R.hd O n1 n2 sw (wpAny_mono (F.eval B O m1 w1 hv1) (fun x s1 h1 => ?_) eid))
  have F1 := F.keeps (Keeps.heap' h1.1)
  refine wpAny_mono (F1.eval B O m2 w2 hv2) (fun y s2 h2 h' kx => ?_) eid
  refine ((F1.keeps (Keeps.heap' h2.1)).keeps kx).put (s := { s2 with heap := h' }) O hj (sl := .val v2) (h2.2.keeps kx) fun s4 F4 c4 => ?_
  exact F4.put O hi (sl := .val v1) (c4.rep F.locY ((h1.2.keeps (Keeps.heap' h2.1)).keeps kx)) fun s5 F5 c5 => next x y s5 F5 (((((Upd.of h1.1).trans (.of h2.1)).trans (.of ⟨h', s2.toks, rfl, kx⟩)).trans c4).trans c5)
theorem td_len {td : List (Q × Int)} {Q : Value → Shared → Prop} (T : TD prog w s.heap Y d td) (hl : td.length ≤ 1000) (h : Q (.int td.length (s.toks + 1)) { s with toks := s.toks + 1 + 1 }) : wpAny (model prog w) A (call (.builtin "len") [.ref d]) Q E s := by
  obtain ⟨_, sm, xs, ⟨o, es, ep, ho, hc, hd, he, _, _⟩, _, en⟩ := T
  have hT : s.TypeIs (.ref d) "dict" := ⟨o, ho, hc.1⟩
  have hz : es.size = td.length := by rw [← Array.length_toList, he, List.length_map, en.length]
  refine Calls.call_function_entry kind_len plain_len entry_len (args_len1 _) ?_
  unfold Builtin.«len»
  refine wpAny_bind (m := oneArg "len" _) (wpAny_pure ?_)
  refine wpAny_bind (m := callSpecial? (.ref d) (Str.ofString "__len__")) (wpAny_callSpecial?_slot (name := Str.ofString "__len__") hT PySem.F.slot_dict_len
    (call_meetsIn PySem.F.slot_dict_len hT PySem.F.entry_dict_len (PySem.F.args_dict_len_1 _) (S := fun A R s' => s'.heap.get? d = some o ∧ R (.ok (.ret (.int td.length s'.toks))) { s' with toks := s'.toks + 1 }) (.of_wp fun A R s' ⟨ho', h⟩ => ?_) ⟨ho, ?_⟩))
  · show wpAny _ _ (dictSize d >>= _) _ _ s'
    unfold dictSize
    refine wpAny_bind (wpAny_bind (wpAny_dictEntries ho' hd (wpAny_pure ?_)))
    show wpAny _ _ (Builtin.Dict.pendingCount d >>= _) _ _ s'
    refine wpAny_bind (wpAny_pendingCount_other sm ?_)
    simp only [hz, Int.natCast_zero, Int.add_zero]
    exact wpAny_bind (wpAny_mkInt (wpAny_pure ⟨_, rfl, h⟩))
  · show wpAny _ _ _ _ _ { s with toks := s.toks + 1 }
    refine wpAny_bind (wpAny_holding (wpAny_pure ?_))
    refine wpAny_bind (wpAny_letGo ?_)
    show wpAny _ _ (if ((td.length : Nat) : Int) < 0 then _ else _) _ _ _
    rw [if_neg (by lia)]
    show wpAny _ _ (if ((td.length : Nat) : Int) ≥ 2 ^ 63 then _ else _) _ _ _
    rw [if_neg (by lia)]
    exact wpAny_bind (wpAny_mkInt (wpAny_pure ⟨_, rfl, h⟩))
end
end Mine.Internal
namespace Mine.Internal
open PySem PySem.W PyProof.Rows
noncomputable def PZ : PE := .lst (pe_list [.tup (pe_list [.tup (pe_list [.lit 0, .lit 1]), .lit 1])])
noncomputable def dictXShp (sc : Sc) (e : Expr) : Bool := ob (call1? e (Str.ofString "dict")) fun b => ob3 (isBin? b) fun l o r => ob (call1? l (Str.ofString "list")) fun c => ob3 (meth? c) fun x nm as =>
  x == nTold && nm == "items" && bN as && sc.glob (Str.ofString "dict") && o == .Add && shp PZ sc [r] && true && sc.glob (Str.ofString "list")
@[elab_as_elim] theorem call1_el {e a : Expr} {x : Str} {P : Expr → Prop} (h : call1? e x = some a) (k : ∀ q p, notStar a = true → P (.Call (.Name x q) [a] [] p)) : P e := by
  obtain ⟨n, q, p, rfl⟩ := call1_eq h; exact k q p n
@[elab_as_elim] theorem meth_el {e : Expr} {x m : Str} {as : List Expr} {P : Expr → Prop} (h : meth? e = some (x, m, as)) (k : ∀ p ap cp, (ap.endLine == cp.line) = true → P (.Call (.Attribute (.Name x p) m ap) as [] cp)) : P e := by
  obtain ⟨p, ap, cp, rfl, hl⟩ := meth_eq h; exact k p ap cp hl
section
variable {prog : Program} {w : World} {A : Around} {E : Value → Shared → Prop} {hB : Heap} {mg mb : Str → Option Value} {n : Nat} {D : Den} {s s0 : Shared} {X Y : Av} {env : Env} {sc : Sc} {ρ : List Slot} {m : Str → Option Value} {h h' : Heap} {pa la d : Addr} {k : Nat} {st : Stmt} {rest : List Stmt} {R : Flow → Shared → Prop}
theorem td_is {td : List (Q × Int)} (T : TD prog w s.heap Y d td) : s.TypeIs (.ref d) "dict" ∧ ∀ a, Value.ref d = .ref a → ∃ ob, s.heap.get? a = some ob ∧ ob.dict = none := by
  obtain ⟨_, _, xs, ⟨o, es, ep, ho, hc, _⟩, _⟩ := T
  exact ⟨⟨o, ho, hc.1⟩, fun a ha => by cases ha; exact ⟨o, ho, hc.2.1⟩⟩
theorem dictX_ok (B : Bg prog w A hB mg mb n D) (lim : hB.NoLimit) (G3 : Gs3 mg mb) (O : Ok env sc) {e : Expr} {td : List (Q × Int)} (hs : dictXShp sc e = true) (F : Fm hB Y env sc s.heap m ρ) {i : Nat} (hi : sc.get i = some (nTold, false)) (hm : m nTold = some (.ref d)) (T : TD prog w s.heap Y d td) (ht : td.length ≤ 900) (hn : nodK (td ++ [((0, 1), 1)]) = true) :
    wpAny (model prog w) A (eval e env) (fun v s' => Keeps s s' ∧ ∃ d', v = .ref d' ∧ TD prog w s'.heap Y d' (td ++ [((0, 1), 1)])) NoE s := by
  refine ob_t hs fun b h1 h => ob3_t h fun l o r h2 h => ob_t h fun c h3 h => ob3_t h fun x nm as h4 h => b8 h fun e1 e2 e3 g1 e4 sr o0 g2 => ?_
  refine call1_el h1 fun q pos nsb => ?_
  refine wpAny_Call_NameR (name_blt B.G O F.base g1 G3.dt ?_)
  rw [backTo_cons nsb]
  refine PySem.callWith_type rfl (Calls.evalArgs_plain (Calls.spliced_cons ?_))
  refine xBinOp_el h2 fun pb => wpAny_BinOp ?_
  cases eq_of_beq e1
  cases eq_of_beq e2
  cases eq_of_beq e4
  refine call1_el h3 fun q2 pos2 nsc => ?_
  refine meth_el h4 fun xp ap cp hline => bN_el (l := as) e3 ?_
  refine call_t1 (x := "list") B.G O F.base (by decide) g2 rfl ?_
  refine wpAny_Call_method rfl rfl hline PySem.F.plainAttrs_dict PySem.F.slot_dict_items PySem.F.type_dict_items (F.name O hi hm ⟨(td_is T).1, (td_is T).2, ?_⟩)
  refine Calls.callWith_builtin rfl (PyProof.Rows.evalArgs_none (items_list B.R.hd F.old T (Nat.le_trans ht (Nat.le_of_ble_eq_true rfl)) fun v1 s1 h1 => ?_))
  have F1 := F.keeps (Keeps.heap' h1.1)
  have hz : pev D ρ PZ = some (.lst ([(((0 : Int), (1 : Int)), (1 : Int))].map eR)) := rfl
  refine wpAny_mono (F1.eval B O rfl sr hz) (fun v2 s2 h2 => ?_) eid
  have F2 := F1.keeps (Keeps.heap' h2.1)
  have hl : (td ++ [(((0 : Int), (1 : Int)), (1 : Int))]).length ≤ 1000 := by rw [List.length_append]; exact Nat.le_trans (Nat.add_le_add_right ht 1) (Nat.le_of_ble_eq_true rfl)
  have hadd : bop .add (.lst (td.map eR)) (.lst ([(((0 : Int), (1 : Int)), (1 : Int))].map eR)) = some (.lst ((td ++ [((0, 1), 1)]).map eR)) := by
    rw [List.map_append]
    exact if_pos (by rw [← List.map_append, List.length_map]; exact Nat.le_trans hl (Nat.le_of_ble_eq_true rfl))
  refine wpAny_mono (bop_ok (n := n) (o := .add) F2.old hadd (h1.2.keeps (Keeps.heap' h2.1)) h2.2) (fun v3 s3 h3 => Calls.spliced_nil ?_) eid
  have k3 := keeps_trans h1.1 (keeps_trans h2.1 h3.1)
  have F3 := F2.keeps (Keeps.heap' h3.1)
  refine hid fun Z hZ => ?_
  obtain ⟨l3, vs, nl, rfl, e1, e2, e3, e4⟩ := h3.2.isLst
  exact hZ (dict_of (Y := Y) B.R.hd (by have := B.R.un; simp only [cLine]; omega) (lim.keeps F3.base) F3.old e1 e4 hn hl fun d' s4 k4 T4 => ⟨keeps_trans k3 k4, d', rfl, T4⟩)
end
end Mine.Internal
namespace Mine.Internal
open PySem PySem.W PyProof.Rows
noncomputable def nScript : Str := Str.ofString "script"
noncomputable def cellTg : List (Nat × Str) := [(8, Str.ofString "cell")]
noncomputable def un9 : List Slot := [.un, .un, .un, .un, .un, .un, .un, .un, .un]
noncomputable def sliceShp (it : Expr) : Bool := ob2 (isUpto? it) fun v u => ob (xName v) fun x => x == nScript && isInt? u == some 12
noncomputable def eltShp (sc : Sc) (el : Expr) : Bool := ob2 (isCall? el) fun f as => ob (one? as) fun c => f == Str.ofString "int" && sc.glob f && shp (.var 8) sc [c] && notStar c
noncomputable def compXShp (sc : Sc) (e : Expr) : Bool := ob2 (isComp? e) fun el t => ob (xName t.1) fun x => x == Str.ofString "cell" && compOk sc t.2.2.2 cellTg && notSet t.2.1 && sliceShp t.2.1 && eltShp (sc.comp t.2.2.2 cellTg) el && bN t.2.2.1
noncomputable def slI : Slot → Option PV
  | .val v => isI (fun a => some (.int a)) v
  | _ => none
noncomputable def cf (ρ : List Slot) : Option PV := slI (pget ρ 8)
section
variable {prog : Program} {w : World} {A : Around} {E : Value → Shared → Prop} {hB : Heap} {mg mb : Str → Option Value} {n : Nat} {D : Den} {s s0 : Shared} {X Y : Av} {env : Env} {sc : Sc} {ρ : List Slot} {m : Str → Option Value} {h h' : Heap} {pa la d : Addr} {k : Nat} {st : Stmt} {rest : List Stmt} {R : Flow → Shared → Prop}
theorem ints_repL {h : Heap} {Y : Av} {vs : List Value} {ns : List Int} (i : IntsAre vs ns) : RepL h Y vs (ns.map PV.int) := by
  induction i with
  | nil => exact .nil
  | cons n t _ ih => exact .cons (.int n t) ih
theorem comp_go : ∀ l : List Int, compIfGo (clr (.one 8) (hide un9)) (.one 8) cf (fun o0 => some (.bool true)) (l.map PV.int) = some (l.map PV.int)
  | [] => rfl
  | x :: l => by
    show ((compIfGo (clr (.one 8) (hide un9)) (.one 8) cf (fun o0 => some (.bool true)) (l.map PV.int)).map fun z => PV.int x :: z) = _
    rw [comp_go l]; rfl
theorem sliceShp_inv {it : Expr} (h : sliceShp it = true) : ∃ xp k1 p1 q p, it = .Subscript (.Name nScript xp) (.Slice none (some (.Constant (.int 12) k1 p1)) none q) p := by
  refine ob2_t h fun v u h1 h => ob_t h fun x h2 h => b2 h fun e1 e2 => ?_
  cases eq_of_beq e1
  obtain ⟨q, p, rfl⟩ := isUpto_eq h1
  obtain ⟨k1, p1, rfl⟩ := isInt_eq (eq_of_beq e2)
  exact xName_el (P := fun v => ∃ xp k1' p1' q' p', Expr.Subscript v (.Slice none (some (.Constant (.int 12) k1 p1)) none q) p = .Subscript (.Name nScript xp) (.Slice none (some (.Constant (.int 12) k1' p1')) none q') p') h2 fun xp => ⟨xp, k1, p1, q, p, rfl⟩
theorem slice_eq (vs : List Value) : slicePick vs.toArray none (some 12) none = (vs.take 12).toArray := slicePick_upto' vs.toArray 12
theorem slX_ok (B : Bg prog w A hB mg mb n D) (O : Ok env sc) {it : Expr} {xp : Pos} {sa : Addr} {vs : List Value} {ns : List Int} (hs : sliceShp it = true) (F : Fm hB Y env sc s.heap m un9) (hi : sc.get 1 = some (nScript, false)) (hm : m nScript = some (.ref sa))
    (hl : s.heap.IsList sa vs.toArray) (ia : IntsAre vs ns) (hn : vs.length ≤ 1000) :
    wpAny (model prog w) A (eval it env) (fun v s' => Keeps s s' ∧ ∃ h0, KeepsH s.heap h0 ∧ KeepsH h0 s'.heap ∧ ItF prog w A (.Name (Str.ofString "cell") xp) (.one 8) [Str.ofString "cell"] h0 Y ((ns.take 12).map PV.int) v s') NoE s := by
  refine hid fun Z hZ => ?_
  obtain ⟨xp, k1, p1, q, p, rfl⟩ := sliceShp_inv hs
  refine hZ (slice_ok (F.name O hi hm ?_))
  rw [evalPart_none]
  refine wpAny_pure ?_
  rw [evalPart_some]
  refine wpAny_Constant_int ?_
  have r12 : RepL s.heap Y (vs.take 12) ((ns.take 12).map PV.int) := List.map_take ▸ (ints_repL ia).take 12
  have g : Gd { s with toks := s.toks + 1 } Y (.lst ((ns.take 12).map PV.int)) _ _ := gd_slice (s := { s with toks := s.toks + 1 }) (vs' := vs.take 12) (sl := { cls := .type "slice", data := .fields #[.none, .int 12 s.toks, .none] }) F.old rfl r12 (by rw [List.length_take]; exact Nat.le_trans (Nat.min_le_left _ _) (Nat.le_of_ble_eq_true rfl))
  refine ⟨sa, vs.toArray, none, some 12, rfl, hl, by rw [List.size_toArray]; exact Nat.le_trans hn (Nat.le_of_ble_eq_true rfl), .none, .int _ _, ?_⟩
  rw [slice_eq]
  have k := keeps_trans (keeps_tok s (s.toks + 1)) g.1
  have old' : ∀ b, Y b → ∃ o, (((s.heap.push { cls := .type "slice", data := .fields #[.none, .int 12 s.toks, .none] }).push { cls := .type "list", data := .seq (vs.take 12).toArray })).get? b = some o := fun b y => (F.old b y).imp fun o e => Keeps.heap' k b o e
  exact ⟨k, _, Keeps.heap' k, eid, itf_one (itb_lst B.R.hd old' g.2)⟩
theorem cf_t {ρ : List Slot} {y : PV} (h : cf ρ = some y) : ∃ a, pget ρ 8 = .val (.int a) ∧ y = .int a := by
  unfold cf at h
  revert h
  generalize pget ρ 8 = sl
  intro h
  cases sl with
  | val v => exact isI_t h fun i hi e => ⟨i, congrArg Slot.val hi, (Option.some.inj e).symm⟩
  | _ => exact no_none h
theorem eltX_ok (B : Bg prog w A hB mg mb n D) (G3 : Gs3 mg mb) {el : Expr} {X Y Z : Av} {y : PV} (hs : eltShp sc el = true) (O : Ok env sc) (I : Inv hB X env sc s.heap Y Z ρ) (hy : cf ρ = some y) : wpAny (model prog w) A (eval el env) (Gd s Y y) NoE s := by
  refine ob2_t hs fun f as h1 h => ob_t h fun c h2 h => b4 h fun e1 g1 sh nst => ?_
  cases eq_of_beq e1
  cases one_eq h2
  refine call_el h1 fun q p => ex2 (cf_t hy) fun a ha e => ?_
  cases e
  refine wpAny_Call_NameR (name_blt B.G O I.base g1 G3.it ?_)
  rw [backTo_cons nst]
  refine PySem.callWith_type rfl (Calls.evalArgs_plain (Calls.spliced_cons (wpAny_mono ((snd_all B (.var 8)).e _ _ _ _ _ _ _ _ _ O I rfl sh (pX ha)) (fun v1 s1 h1 => Calls.spliced_nil ?_) eid)))
  obtain ⟨t, rfl⟩ := h1.2.isInt
  exact call_int_int h1
theorem compX_ok (B : Bg prog w A hB mg mb n D) (G3 : Gs3 mg mb) (O : Ok env sc) {e : Expr} {sa : Addr} {vs : List Value} {ns : List Int} (hs : compXShp sc e = true) (F : Fm hB Y env sc s.heap m un9) (hi : sc.get 1 = some (nScript, false)) (hm : m nScript = some (.ref sa))
    (hl : s.heap.IsList sa vs.toArray) (ia : IntsAre vs ns) (hn : vs.length ≤ 1000) : wpAny (model prog w) A (eval e env) (Gd s Y (.lst ((ns.take 12).map PV.int))) NoE s := by
  refine ob2_t hs fun el tg h1 h => ob_t h fun x h2 h => b6 h fun e1 hc ns' hsl hel hb => ?_
  obtain ⟨tg, it, fs, inner⟩ := tg
  cases eq_of_beq e1
  obtain ⟨pos, rfl⟩ := isComp_eq h1
  refine bN_el (l := fs) hb ?_
  have h2 : xName tg = some (Str.ofString "cell") := h2
  refine xName_el h2 fun xp => ?_
  exact comp_ok (t := .one 8) (nm := cellTg) (l := (ns.take 12).map PV.int) (f := cf) (c := fun o0 => some (.bool true)) B.R.hd O (F.inv (X := Y) fun o0 x => x) rfl hc (by rw [List.length_map, List.length_take]; exact Nat.le_trans (Nat.min_le_left _ _) (Nat.le_of_ble_eq_true rfl)) (notSet_fold ns') (slX_ok B O hsl F hi hm hl ia hn) (comp_go _)
    (fun env' X' Y' Z' ρ' s' b o0 o0 hb => wpAny_tests_nil ⟨keeps_refl _, by cases hb; rfl⟩) (fun env' X' Y' Z' ρ' s' y O' I' hy => eltX_ok B G3 hel O' I' hy)
end
end Mine.Internal
namespace Mine.Internal
open PySem PySem.W PyProof.Rows
noncomputable def nF : Str := Str.ofString "f"
noncomputable def nPairs : Str := Str.ofString "pairs"
noncomputable def nAt : Str := Str.ofString "at"
noncomputable def nOne : Str := Str.ofString "one"
noncomputable def nOther : Str := Str.ofString "other"
noncomputable def slL : List Str := [nPool, nScript, nF, nTold, nPairs, nAt, nOne, nOther]
noncomputable def lawSc (names : List (Str × NameKind)) : Sc := { names := names, slots := slL.map fun x => some (x, false) }
noncomputable def poolShp (sc : Sc) (st : Stmt) : Bool := ob2 (asg1? st) fun t v => ob (xName t) fun y => ob (xList v) fun vs => ob2 (two? vs) fun lc z => y == nPool && isInt? z == some 0 && compXShp sc lc && notStar lc
noncomputable def unpShp (sc : Sc) (st : Stmt) : Bool := ob2 (asg1? st) fun t v => ob (xTuple t) fun ts => ob2 (isCall? v) fun f as => ob (one? as) fun a => ob (xName a) fun x => notTup v && (nms? sc [2, 3] ts == some [(2, nF), (3, nTold)]) && f == nmBuilt && sc.glob f && x == nPool
noncomputable def isEq : CmpOp → Bool
  | .Eq => true
  | _ => false
theorem isEq_eq {o : CmpOp} (h : isEq o = true) : o = .Eq := by cases o <;> first | rfl | exact no_ff h
noncomputable def drawT (sc : Sc) (t : Expr) : Bool := ob3 (isCmp? t) fun l o r => isEq o && wshp (.draw 2) sc l && isInt? r == some 1
noncomputable def PZf : PE := .bin .add (.lst (pe_list [.lit 0])) (.var 2)
noncomputable def zShp (sc : Sc) (st : Stmt) : Bool := ob2 (asg1? st) fun t v => ob (xTuple t) fun ts => ob (xTuple v) fun vs => ob2 (two? vs) fun e1 e2 => notStar e1 && notStar e2 && shp PZf sc [e1] && dictXShp sc e2 && swp sc ts [e1, e2] == some (some [nF, nTold])
noncomputable def PRoots : PE := .call .f_rational_roots (pe_list [.var 2])
noncomputable def PIt : PE := .rng2 (.lit 1) (.len (.var 4))
noncomputable def POne : PE := .idx (.idx (.var 4) (.bin .sub (.var 5) (.lit 1))) (.lit 0)
noncomputable def POther : PE := .idx (.idx (.var 4) (.var 5)) (.lit 0)
noncomputable def PGe : PE := .cmp .ge (.bin .mul (.idx (.var 6) (.lit 0)) (.idx (.var 7) (.lit 1))) (.bin .mul (.idx (.var 7) (.lit 0)) (.idx (.var 6) (.lit 1)))
noncomputable def forShp (sc : Sc) (st : Stmt) : Bool := ob3 (sFor st) fun tg iter r => ob (xName tg) fun x => bN r.2 && x == nAt && notSet iter && shp PIt sc [iter] && bC (fun b1 bs => bC (fun b2 bs => ob3 (sIf b2) fun tb o0 orelse => bN bs && bN orelse && asg2Shp nOne nOther (.pure POne) (.pure POther) sc b1 && shp PGe sc [tb]) bs) r.1
noncomputable def c1Shp (sc : Sc) (e : Expr) : Bool := ob3 (isCmp? e) fun l o r => ob (xName r) fun x => ob2 (isCall? l) fun f as => ob (one? as) fun a => isEq o && x == nTold && f == Str.ofString "dict" && sc.glob f && notStar a && shp (.var 4) sc [a]
noncomputable def c2Shp (sc : Sc) (e : Expr) : Bool := ob3 (isCmp? e) fun l o r => ob2 (isCall? r) fun f as => ob (one? as) fun a => ob (xName a) fun x => isEq o && shp (.len (.var 4)) sc [l] && f == Str.ofString "len" && sc.glob f && x == nTold
noncomputable def isAnd : BoolOp → Bool
  | .And => true
  | _ => false
theorem isAnd_eq {o : BoolOp} (h : isAnd o = true) : o = .And := by cases o <;> first | rfl | exact no_ff h
noncomputable def endShp (sc : Sc) (st : Stmt) : Bool := ob (sReturn st) fun o => ob o fun v => ob2 (xBoolOp v) fun op vs => ob2 (two? vs) fun a b => isAnd op && c1Shp sc a && c2Shp sc b
noncomputable def lawShp (sc : Sc) : List Stmt → Bool := bC fun s1 r => poolShp sc s1 && bC (fun s2 r => unpShp sc s2 && bC (fun s3 r => ob3 (sIf s3) fun t3 b3 orelse => bC (fun a3 bs => bN orelse && bN bs && drawT sc t3 && zShp sc a3 && bC (fun s4 r => asgShp nPairs (.pure PRoots) sc s4 && bC (fun s5 r => forShp sc s5 && bC (fun s6 o0 => endShp sc s6) r) r) r) b3) r) r
noncomputable def chkLaw (names : List (Str × NameKind)) (body : List Stmt) : Bool := slL.all (fun x => names.lookup x == some .local && !(x == ("__debug__" : Str))) && lawShp (lawSc names) body
end Mine.Internal
namespace Mine.Internal
open PySem PySem.W PyProof.Rows
noncomputable def Sh (a b : Shared) : Prop := ∃ h tk, b = { a with heap := h, toks := tk }
structure Bu (hB : Heap) (mg : Str → Option Value) : Prop where
  ok : ∃ a d o pm code doc, mg nmBuilt = some (.ref a) ∧ builtShp d = true ∧ hB.get? a = some o ∧ o.data = .func (Calls.docDef d.name d.params d.body d.scope pm code doc) ∧ hB.CodeRec code d.name
noncomputable def slotF (p : PV) : List Slot := [.un, .un, .val p, .un, .un, .un, .un, .un, .un]
section
variable {prog : Program} {w : World} {A : Around} {E : Value → Shared → Prop} {hB : Heap} {mg mb : Str → Option Value} {n : Nat} {D : Den} {s s0 : Shared} {X Y : Av} {env : Env} {sc : Sc} {ρ : List Slot} {m : Str → Option Value} {h h' : Heap} {pa la d : Addr} {k : Nat} {st : Stmt} {rest : List Stmt} {R : Flow → Shared → Prop}
theorem Sh.trans {a b c : Shared} (x : Sh a b) (y : Sh b c) : Sh a c := by
  obtain ⟨h, t, rfl⟩ := x
  obtain ⟨h', t', rfl⟩ := y
  exact ⟨h', t', rfl⟩
theorem Keeps.sh {a b : Shared} (k : Keeps a b) : Sh a b := by obtain ⟨h, t, e, _⟩ := k; exact ⟨h, t, e⟩
theorem St.putY (O : Ok env sc) (S : St hB Y env sc pa la s.heap m ρ k) {i : Nat} {x : Str} {v : Value} {sl : Slot} {Q : Unit → Shared → Prop} (hi : sc.get i = some (x, false)) (hx : x ≠ nPool) (hnew : slOk s.heap Y v sl)
    (hQ : ∀ s', St hB Y env sc pa la s'.heap (Mine.Internal.put m x v) (pset ρ i sl) k → ChgY Y s s' → Q () s') : wpAny (model prog w) A (storeName env x v) Q NoE s := by
  refine S.F.store O hi hnew fun h' tk F' hs => ?_
  have ne : pa ≠ env.locals := S.ne
  refine hQ { s with heap := h', toks := tk } ⟨F', S.P.mono (fun o e => (hs.2 pa ne).trans e) fun b o e y => ⟨(hs.2 b (by rintro rfl; exact y S.F.locY)).trans e, y⟩, S.yp, ?_⟩ ⟨⟨h', tk, rfl⟩, fun b o e y => (hs.2 b (by rintro rfl; exact y S.F.locY)).trans e⟩
  show (if nPool = x then some v else m nPool) = _
  rw [if_neg (fun q => hx q.symm)]; exact S.mp
theorem un9_get (i : Nat) : pget un9 i = .un := by
  match i with
  | 0 | 1 | 2 | 3 | 4 | 5 | 6 | 7 | 8 => rfl
  | i + 9 => rfl
theorem pool_end {s1 : Shared} {x : Value} {ns : List Int} {Q : Unit → Shared → Prop} (O : Ok env sc) (h1 : Gd s (fun b => b = env.locals) (.lst (ns.map PV.int)) x s1) (F : Fm hB (fun b => b = env.locals) env sc s.heap m un9) (h0 : sc.get 0 = some (nPool, false))
    (next : ∀ pa la m' s', St hB (fun b => b = env.locals ∨ b = pa) env sc pa la s'.heap m' un9 0 → Sh s s' → Q () s') :
    wpAny (model prog w) A (storeName env nPool (.ref s1.heap.objs.size)) Q NoE { s1 with heap := s1.heap.push { cls := .type "list", data := .seq [x, .int 0 s1.toks].toArray }, toks := s1.toks + 1 } := by
  have F1 := F.keeps (Keeps.heap' h1.1)
  have kp : KeepsH s1.heap (s1.heap.push { cls := .type "list", data := .seq [x, .int 0 s1.toks].toArray }) := fun o0 o0 e => Heap.get?_push_of_some _ e
  have hp : (s1.heap.push { cls := .type "list", data := .seq [x, .int 0 s1.toks].toArray }).get? s1.heap.objs.size = some (lstO [x, .int 0 s1.toks] 0) := Heap.get?_push_size _ rfl
  have npB : ∀ b o, hB.get? b = some o → b ≠ s1.heap.objs.size := fun b o e => Nat.ne_of_lt (Heap.lt_size (F1.base b o e))
  have neL : s1.heap.objs.size ≠ env.locals := ex1 (F1.old _ F1.locY) fun o e => (Nat.ne_of_lt (Heap.lt_size e)).symm
  refine hid fun Z hZ => ?_
  obtain ⟨la, ws, nl, rfl, e1, e2, e3, e4⟩ := h1.2.isLst
  refine hZ ((F1.keeps kp).put (s := { s1 with heap := s1.heap.push { cls := .type "list", data := .seq [.ref la, .int 0 s1.toks].toArray }, toks := s1.toks + 1 }) O h0 (sl := .un) trivial fun s' F' c => ?_)
  refine next s1.heap.objs.size la _ s' ⟨⟨F'.ns, F'.base, fun b o e q => q.elim (F'.baseY b o e) (npB b o e), fun b q => q.elim (F'.old b) fun q => q ▸ ⟨_, c.2 _ _ neL hp⟩, .inl rfl, F'.plain, fun i sl hi => ?_⟩, ⟨⟨0, s1.toks, c.2 _ _ neL hp⟩, ns, ?_⟩, .inr rfl, if_pos rfl⟩ ?_
  · cases hi; rw [un9_get i]; trivial
  · exact .lst (c.2 _ _ (fun q => e2 q) (kp _ _ e1)) (fun q => q.elim e2 (Nat.ne_of_lt (Heap.lt_size e1))) e3 (rep_ints e4)
  · exact Sh.trans (Keeps.sh h1.1) (Sh.trans (a := s1) ⟨_, _, rfl⟩ c.1)
theorem pool_ok (B : Bg prog w A hB mg mb n D) (G3 : Gs3 mg mb) (O : Ok env sc) {sa : Addr} {vs : List Value} {ns : List Int} (hs : poolShp sc st = true) (F : Fm hB (fun b => b = env.locals) env sc s.heap m un9) (h0 : sc.get 0 = some (nPool, false)) (h1 : sc.get 1 = some (nScript, false)) (hm : m nScript = some (.ref sa))
    (hl : s.heap.IsList sa vs.toArray) (ia : IntsAre vs ns) (hn : vs.length ≤ 1000)
    (next : ∀ pa la m' s', St hB (fun b => b = env.locals ∨ b = pa) env sc pa la s'.heap m' un9 0 → Sh s s' → wpAny (model prog w) A (execs rest env) R NoE s') : wpAny (model prog w) A (execs (st :: rest) env) R NoE s := by
  refine ob2_t hs fun t v hst h => ob_t h fun y ht h => ob_t h fun vs hv h => ob2_t h fun lc z h2 h => b4 h fun e1 hz hc n1 => ?_
  cases eq_of_beq e1
  cases two_eq h2
  refine asg1_el hst fun pos => ?_
  refine xName_el ht fun yp => ?_
  refine xList_el hv fun lp => ?_
  refine intc_el (eq_of_beq hz) fun kc pc => ?_
  refine wpAny_execs_cons (wpAny_Assign_Name (wpAny_List ?_) rfl)
  rw [backTo_cons n1, backTo_cons rfl]
  refine Calls.spliced_cons (wpAny_mono (compX_ok B G3 O hc F h1 hm hl ia hn) (fun x s1 h1 => ?_) eid)
  refine Calls.spliced_cons (wpAny_Constant_int (Calls.spliced_nil ⟨Nat.le_of_ble_eq_true rfl, ?_⟩))
  exact pool_end O h1 F h0 fun pa la m' s' S sh => next pa la m' s' S sh
theorem unpShp_inv (hs : unpShp sc st = true) : ∃ ts kt tp q xp p pos, st = .Assign [.Tuple ts kt tp] (.Call (.Name nmBuilt q) [.Name nPool xp] [] p) pos ∧ nms? sc [2, 3] ts = some [(2, nF), (3, nTold)] ∧ sc.glob nmBuilt = true := by
  refine ob2_t hs fun t v hst h => ob_t h fun ts ht h => ob2_t h fun f as hc h => ob_t h fun a h1 h => ob_t h fun x hx h => b5 h fun o0 hnm e1 g1 e2 => ?_
  cases eq_of_beq e1
  cases eq_of_beq e2
  cases one_eq h1
  refine asg1_el hst fun pos => ?_
  refine xTuple_el ht fun kt tp => ?_
  refine call_el hc fun q p => ?_
  exact xName_el hx fun xp => ⟨ts, kt, tp, q, xp, p, pos, rfl, eq_of_beq hnm, g1⟩
theorem unp_ok (G2 : Gs2 hB mg mb) (Dw : Dr hB mg) (Bw : Bu hB mg) (AC : AllCases) (Rm : Room 61 A) (O : Ok env sc) (hs : unpShp sc st = true) (S : St hB Y env sc pa la s.heap m un9 0) (h0 : sc.get 0 = some (nPool, false)) (h2 : sc.get 2 = some (nF, false)) (h3 : sc.get 3 = some (nTold, false))
    (next : ∀ f td k d m' s', caseB f td = true → k ≤ 10 → St hB Y env sc pa la s'.heap m' (slotF (eP f)) k → m' nTold = some (.ref d) → TD prog w s'.heap Y d td → Sh s s' → wpAny (model prog w) A (execs rest env) R NoE s') : wpAny (model prog w) A (execs (st :: rest) env) R NoE s := by
  refine hid fun Z hZ => ?_
  obtain ⟨ts, kt, tp, q, xp, p, pos, rfl, hnm, g1⟩ := unpShp_inv hs
  obtain ⟨a, dd, o, pm, code, doc, ha, hds, ho, hd, hcr⟩ := Bw.ok
  refine hZ (wpAny_execs_cons (Assign_Tuple ?_ swaps_tup (stores_tup rfl)))
  refine call_f G2.toGs O S.F.base ha ho hd g1 ⟨_, _, rfl, rfl⟩ ?_
  rw [backTo_cons rfl]
  refine Calls.spliced_cons (S.F.name O h0 S.mp (Calls.spliced_nil ⟨eid, ?_⟩))
  refine wpAny_mono (built_call (s0 := s) (Y := Y) G2 Dw AC hds ho hd hcr Rm S.F.base S.F.baseY S.F.old S.yp S.P) (fun v s' h => ?_) eid
  refine hid fun Z hZ => ?_
  obtain ⟨f, td, k, hcase, hk, ⟨t, fv, d, rfl, hT, rf, T⟩, u, P'⟩ := h
  obtain ⟨a1, a2⟩ := assignEach_names (env := env) hnm
  refine hZ (assign_Tuple_tuple Rm.hd hT (by rw [a1]; rfl) a2 fun h' hx => ?_)
  have kx : KeepsH s'.heap h' := fun b o e => hx b o (Nat.ne_of_lt (Heap.lt_size e)) e
  refine assign_names hnm rfl ?_
  refine ((S.upd u P').keeps kx).putY (s := { s' with heap := h' }) O h2 (by decide) (sl := .val (eP f)) (rf.keeps kx) fun s3 S3 c3 => ?_
  refine S3.putY O h3 (by decide) (sl := .un) trivial fun s4 S4 c4 => ?_
  exact next f td k d _ s4 hcase hk S4 (if_pos rfl) (c4.td (c3.td (T.keeps kx))) (Sh.trans u.1 (Sh.trans (a := s') (b := { s' with heap := h' }) ⟨_, _, rfl⟩ (Sh.trans c3.1 c4.1)))
end
end Mine.Internal
namespace Mine.Internal
open PySem PySem.W PyProof.Rows
theorem case_z {f : List Int} {td : List (Q × Int)} (h : caseB f td = true) (z : Bool) : nodK (withZ z td) = true ∧ (withZ z td).length ≤ 10 := by
  obtain ⟨_, _, _, _, _, hz⟩ := case_ok h
  obtain ⟨res, _, hg⟩ := hz z
  simp only [goodB, Bool.and_eq_true] at hg
  have h1 := Nat.eq_of_beq_eq_true hg.1.1.1.2
  have h2 := Nat.le_of_ble_eq_true hg.1.1.2
  exact ⟨hg.1.1.1.1.2, by rw [← h1]; exact h2⟩
section
variable {prog : Program} {w : World} {A : Around} {E : Value → Shared → Prop} {hB : Heap} {mg mb : Str → Option Value} {n : Nat} {D : Den} {s s0 : Shared} {X Y : Av} {env : Env} {sc : Sc} {ρ : List Slot} {m : Str → Option Value} {h h' : Heap} {pa la d : Addr} {k : Nat} {st : Stmt} {rest : List Stmt} {R : Flow → Shared → Prop}
theorem drawT_ok (B : Bg prog w A hB mg mb (n + 1) D) (G2 : Gs2 hB mg mb) (Dw : Dr hB mg) (O : Ok env sc) {t : Expr} (hs : drawT sc t = true) (hk : k ≤ 50) (S : St hB Y env sc pa la s.heap m ρ k) :
    wpAny (model prog w) A (isTrue t env (eval t env)) (fun o0 s' => St hB Y env sc pa la s'.heap m ρ (k + 1) ∧ ChgY Y s s') NoE s := by
  refine ob3_t hs fun l o r hc h => b3 h fun ho hw hi => ?_
  cases isEq_eq ho
  refine cmp_el hc fun p => ?_
  refine intc_el (eq_of_beq hi) fun kc pc => ?_
  refine wpAny_isTrue_Compare1 (wpAny_mono (w_ok B G2 Dw O (.draw 2) l (fun p => ∃ r, p = .int r) k s hw ⟨by decide, fun r o0 o0 => ⟨r, rfl⟩⟩ (Nat.le_trans (Nat.add_le_add_right hk 1) (Nat.le_of_ble_eq_true rfl)) S) (fun v1 s1 h1 => ?_) eid) (marks_co .eq _)
  refine an3 h1 fun h u1 S1 => ex2 h fun q hq rp => ex1 hq fun r hr => wpAny_Constant_int ?_
  cases hr
  refine wpAny_mono (cop_ok (s := { s1 with toks := s1.toks + 1 }) (Y := Y) (o := .eq) (b := decide (r = 1)) B.R rfl (.inl rp) (.int 1 _)) (fun v3 s3 h3 => ?_) eid
  rw [h3.2]
  exact wpAny_truthy_bool ⟨S1.keeps (Keeps.heap' h3.1), (ChgY.upd u1 S.yp).trans (ChgY.trans (b := { s1 with toks := s1.toks + 1 }) ⟨⟨s1.heap, _, rfl⟩, fun o0 o0 e o0 => e⟩ (.of h3.1))⟩
theorem pevZ {f : List Int} (hf : f.length ≤ 150) : pev DF (slotF (eP f)) PZf = some (eP (0 :: f)) :=
  if_pos (by rw [List.length_append, List.length_map]; exact Nat.le_trans (Nat.add_le_add_left hf _) (Nat.le_of_ble_eq_true rfl))
theorem zA_ok (B : Bg prog w A hB mg mb n DF) (G2 : Gs2 hB mg mb) (G3 : Gs3 mg mb) (O : Ok env sc) {f : List Int} {td : List (Q × Int)} (hs : zShp sc st = true) (hcase : caseB f td = true) (S : St hB Y env sc pa la s.heap m (slotF (eP f)) k) (h2 : sc.get 2 = some (nF, false)) (h3 : sc.get 3 = some (nTold, false))
    (hm : m nTold = some (.ref d)) (T : TD prog w s.heap Y d td)
    (next : ∀ d' m' s', St hB Y env sc pa la s'.heap m' (slotF (eP (0 :: f))) k → m' nTold = some (.ref d') → TD prog w s'.heap Y d' (withZ true td) → Sh s s' → R .next s') : wpAny (model prog w) A (execs [st] env) R NoE s := by
  rw [exec_one]
  refine ob2_t hs fun t v hst h => ob_t h fun ts ht h => ob_t h fun vs hv' h => ob2_t h fun e1 e2 h2' h => b5 h fun n1 n2 s1 s2 sw => ?_
  cases two_eq h2'
  refine asg1_el hst fun pos => ?_
  refine xTuple_el ht fun k1 p1 => ?_
  refine xTuple_el hv' fun k2 p2 => ?_
  have hf : f.length ≤ 150 := by obtain ⟨_, _, _, _, hf, _⟩ := case_ok hcase; exact hf
  have zz := case_z hcase true
  have zl' : td.length ≤ 900 := Nat.le_trans (Nat.le_trans (Nat.le_add_right _ _) (by have := zz.2; rwa [show withZ true td = td ++ [((0, 1), 1)] from rfl, List.length_append] at this : td.length + 1 ≤ 10)) (Nat.le_of_ble_eq_true rfl)
  refine two_asg B.R.hd O n1 n2 (eq_of_beq sw) (wpAny_mono (S.F.eval B O rfl s1 (pevZ hf)) (fun x t1 h1 => ?_) eid)
  have S1 := S.keeps (Keeps.heap' h1.1)
  refine wpAny_mono (dictX_ok B G2.lim G3 O s2 S1.F h3 hm (T.keeps (Keeps.heap' h1.1)) zl' zz.1) (fun y t2 hy h' kx => ?_) eid
  refine an2 hy fun k2 hy => ex2 hy fun d' e T2 => ?_
  cases e
  refine ((S1.keeps (Keeps.heap' k2)).keeps kx).putY (s := { t2 with heap := h' }) O h3 (by decide) (sl := .un) trivial fun s4 S4 c4 => ?_
  refine S4.putY O h2 (by decide) (sl := .val (eP (0 :: f))) (c4.rep ((h1.2.keeps (Keeps.heap' k2)).keeps kx)) fun s5 S5 c5 => ?_
  refine next d' _ s5 S5 ?_ (c5.td (c4.td (T2.keeps kx))) (Sh.trans (Keeps.sh (keeps_trans h1.1 k2)) (Sh.trans (a := t2) (b := { t2 with heap := h' }) ⟨_, _, rfl⟩ (Sh.trans c4.1 c5.1)))
  exact (if_neg (by decide)).trans (if_pos rfl)
theorem z_ok {t : Expr} {a3 : Stmt} {pos : Pos} {f : List Int} {td : List (Q × Int)} (B : Bg prog w A hB mg mb (n + 1) DF) (G2 : Gs2 hB mg mb) (G3 : Gs3 mg mb) (Dw : Dr hB mg) (O : Ok env sc) (ht : drawT sc t = true) (hz : zShp sc a3 = true) (hcase : caseB f td = true) (hk : k ≤ 50) (S : St hB Y env sc pa la s.heap m (slotF (eP f)) k)
    (h2 : sc.get 2 = some (nF, false)) (h3 : sc.get 3 = some (nTold, false)) (hm : m nTold = some (.ref d)) (T : TD prog w s.heap Y d td)
    (next : ∀ (z : Bool) d' m' s', Fm hB Y env sc s'.heap m' (slotF (eP (bif z then 0 :: f else f))) → m' nTold = some (.ref d') → TD prog w s'.heap Y d' (withZ z td) → Sh s s' → wpAny (model prog w) A (execs rest env) R NoE s') :
    wpAny (model prog w) A (execs (.If t [a3] [] pos :: rest) env) R NoE s := by
  refine wpAny_execs_cons (wpAny_If (wpAny_mono (drawT_ok B G2 Dw O ht hk S) (fun r s1 h1 => ?_) eid))
  cases r with
  | true => exact zA_ok B G2 G3 O hz hcase h1.1 h2 h3 hm (h1.2.td T) fun d' m' s' S' hm' T' sh => next true d' m' s' S'.F hm' T' (Sh.trans h1.2.1 sh)
  | false => exact wpAny_execs_nil (next false d m s1 h1.1.F hm (h1.2.td T) h1.2.1)
end
end Mine.Internal
namespace Mine.Internal
open PySem PySem.W PyProof.Rows
noncomputable def slotP (p : PV) : List Slot := [.un, .un, .un, .un, .val p, .un, .un, .un, .un]
section
variable {prog : Program} {w : World} {A : Around} {E : Value → Shared → Prop} {hB : Heap} {mg mb : Str → Option Value} {n : Nat} {D : Den} {s s0 : Shared} {X Y : Av} {env : Env} {sc : Sc} {ρ : List Slot} {m : Str → Option Value} {h h' : Heap} {pa la d : Addr} {k : Nat} {st : Stmt} {rest : List Stmt}
theorem Fm.wider {W : Av} (F : Fm hB Y env sc h m ρ) (k : KeepsH h h') (hw : ∀ b, W b → h.get? b = none) (he : ∀ b, W b → ∃ o, h'.get? b = some o) : Fm hB (fun b => Y b ∨ W b) env sc h' m ρ := by
  have F' := F.keeps k
  refine ⟨F'.ns, F'.base, fun b o e q => q.elim (F.baseY b o e) fun q => ?_, fun b q => q.elim (F'.old b) (he b), .inl F.locY, F.plain, fun i sl hi => ?_⟩
  · exact no_some ((F.base b o e).symm.trans (hw b q))
  · have := F.vals i sl hi
    cases sl with
    | un => trivial
    | own l => exact this
    | val p =>
      obtain ⟨x, v, h1, h2, h3⟩ := this
      exact ⟨x, v, h1, h2, h3.mono fun b o e y => ⟨k b o e, fun q => q.elim y fun q => no_none ((hw b q).symm.trans e)⟩⟩
theorem TD.wider {W : Av} {td : List (Q × Int)} (T : TD prog w h Y d td) (k : KeepsH h h') (hw : ∀ b, W b → h.get? b = none) : TD prog w h' (fun b => Y b ∨ W b) d td :=
  T.move fun b o e y => ⟨k b o e, fun q => q.elim y fun q => no_none ((hw b q).symm.trans e)⟩
set_option tactic.hygienic true in
theorem loop_ok {R : Result → Shared → Prop} {tg : Expr} {ix : Nat} {x : Str} {itv : Value} {h0 : Heap} {items : List PV} {fp wr : List Addr} {St : Nat → Heap → Prop} {body : List Stmt} (W : FeedW prog w A tg (.one ix) [x] itv h0 Y items fp wr St) (J : Shared → Prop)
    (hstep : ∀ (i : Nat) (hi : i < items.length) (s : Shared), J s → St i s.heap → ∀ v h' tk, Rep h0 Y v items[i] → St (i + 1) h' → (∀ b o, b ∉ wr → s.heap.get? b = some o → h'.get? b = some o) →
      wpAny (model prog w) A (storeName env x v) (fun o0 s2 => wpAny (model prog w) A (execs body env) (fun f s3 => f = .next ∧ J s3 ∧ St (i + 1) s3.heap) NoE s2) NoE { s with heap := h', toks := tk })
    (hend : ∀ s h' tk, J s → (∀ b o, b ∉ wr → s.heap.get? b = some o → h'.get? b = some o) → R (.ok .next) { s with heap := h', toks := tk }) :
    ∀ (k i : Nat) (s : Shared), items.length - i = k → i ≤ items.length → J s → St i s.heap → codeAny (model prog w) A (.forLoop tg itv body [] env) R s := by
  intro k
  induction k with
  | zero =>
    intro i s hk hi hJ hS
    have : i = items.length := by lia
    subst this
    exact for_step (W.done _ _ hS fun h' tk hk' => hend s h' tk hJ hk')
  | succ k ih =>
    intro i s hk hi hJ hS
    have hlt : i < items.length := by lia
    refine for_step (wpAny_mono (W.item i items[i] [items[i]] env s ?Q (List.getElem?_eq_getElem hlt) rfl hS ?k) ?m eid)
    case m =>
      intro r s1 h1
      cases r with
      | none => exact h1.elim
      | some v => exact h1
    intro us h' tk hus hul st' hk'
    cases hus with | cons rv q => ?_
    cases q
    rename_i v
    show wpAny (model prog w) A (storeName env x v) (fun o0 s2 => StoreAll (model prog w) A env [] [] _ s2) NoE _
    refine wpAny_mono (hstep i hlt s hJ hS v h' tk rv st' hk') (fun o0 s2 h2 => ?_) eid
    refine wpAny_mono h2 (fun f s3 h3 => ?_) eid
    obtain ⟨rfl, hJ3, hS3⟩ := h3
    exact ih (i + 1) s3 (by lia) hlt hJ3 hS3
theorem asc_at : ∀ {res : List (Q × Int)} {i : Nat} (h : i + 1 < res.length), ascB res = true → res[i].1.1 * res[i + 1].1.2 < res[i + 1].1.1 * res[i].1.2
  | a :: b :: r, 0, _, h => by
    have this := b2 (show (ltB (imul a.1.1 b.1.2) (imul b.1.1 a.1.2) && ascB (b :: r)) = true from h) fun x o0 => x
    rw [ltB_eq, imul_eq, imul_eq] at this
    exact of_decide_eq_true this
  | a :: b :: r, i + 1, hi, h => by
    exact asc_at (res := b :: r) (i := i) (by simpa using hi) (b2 (show (ltB (imul a.1.1 b.1.2) (imul b.1.1 a.1.2) && ascB (b :: r)) = true from h) fun o0 y => y)
theorem smF_all {res : List (Q × Int)} (h : res.all smQ = true) {i : Nat} (hi : i < res.length) : sm res[i].1.1 = true ∧ sm res[i].1.2 = true := by
  have := List.all_eq_true.mp h _ (List.getElem_mem hi)
  simp only [smQ, Bool.and_eq_true, smF_eq] at this
  exact this
noncomputable def slotI (p : PV) (i : Nat) : List Slot := [.un, .un, .un, .un, .val p, .val (.int ((i + 1 : Nat) : Int)), .un, .un, .un]
theorem pidx_nat {l : List PV} {i : Nat} : pidx l (i : Int) = l[i]? := if_pos (Int.natCast_nonneg i)
theorem eR_at {res : List (Q × Int)} {i : Nat} (hi : i < res.length) : (res.map eR)[i]? = some (eR res[i]) := by
  rw [List.getElem?_map, List.getElem?_eq_getElem hi]; rfl
theorem one_at {res : List (Q × Int)} {i : Nat} (hi : i < res.length) : pev D (slotI (.lst (res.map eR)) i) POne = some (.tup [.int res[i].1.1, .int res[i].1.2]) := by
  have p1 : pidx (res.map eR) ((((i + 1 : Nat) : Int)) - 1) = some (eR res[i]) := by
    rw [show (((i + 1 : Nat) : Int)) - 1 = (i : Int) from by have := Int.add_sub_cancel (i : Int) 1; exact this, pidx_nat, eR_at hi]
  show ((pidx (res.map eR) ((((i + 1 : Nat) : Int)) - 1)).bind fun x => isS (fun l => pidx l 0) x) = _
  rw [p1]; rfl
theorem other_at {res : List (Q × Int)} {i : Nat} (hi : i + 1 < res.length) : pev D (slotI (.lst (res.map eR)) i) POther = some (.tup [.int res[i + 1].1.1, .int res[i + 1].1.2]) := by
  show ((pidx (res.map eR) (((i + 1 : Nat) : Int))).bind fun x => isS (fun l => pidx l 0) x) = _
  rw [pidx_nat, eR_at hi]; rfl
theorem ge_at {r : List PV} {i : Nat} {a b c d : Int} (ha : sm a = true) (hb : sm b = true) (hc : sm c = true) (hd : sm d = true) (h : a * d < c * b) :
    pev D (pset (pset (slotI (.lst r) i) 7 (.val (.tup [.int c, .int d]))) 6 (.val (.tup [.int a, .int b]))) PGe = some (.bool false) := by
  show (((mul a d).map PV.int).bind fun x => ((mul c b).map PV.int).bind fun y => (cop .ge x y).map PV.bool) = _
  rw [mul_of ha hd, mul_of hc hb]
  show some (PV.bool (decide (c * b ≤ a * d))) = _
  rw [decide_eq_false (Int.not_le.mpr h)]
theorem body_ok (B : Bg prog w A hB mg mb n D) (O : Ok env sc) {b1 : Stmt} {tb : Expr} {bb : List Stmt} {pos : Pos} {res : List (Q × Int)} {i : Nat} (hi : i + 1 < res.length) (ha : ascB res = true) (hsm : res.all smQ = true) (s1 : asg2Shp nOne nOther (.pure POne) (.pure POther) sc b1 = true) (s2 : shp PGe sc [tb] = true)
    (h6 : sc.get 6 = some (nOne, false)) (h7 : sc.get 7 = some (nOther, false)) (F : Fm hB Y env sc s.heap m (slotI (.lst (res.map eR)) i)) :
    wpAny (model prog w) A (execs [b1, .If tb bb [] pos] env) (fun f s' => f = .next ∧ ∃ u1 u2, Fm hB Y env sc s'.heap (put (put m nOther u2) nOne u1) (slotP (.lst (res.map eR))) ∧ Upd env.locals s s') NoE s := by
  have hi0 : i < res.length := Nat.lt_of_succ_lt hi
  refine asg2P B O s1 h6 h7 (one_at hi0) (other_at hi) F fun u1 u2 t1 F1 c1 => ?_
  have a := smF_all hsm hi0
  have b := smF_all hsm hi
  refine wpAny_execs_cons (wpAny_If (wpAny_mono (F1.test B O rfl s2 (ge_at a.1 a.2 b.1 b.2 (asc_at hi ha))) (fun r t2 h2 => ?_) eid))
  have k2 := h2.1
  cases h2.2
  refine wpAny_execs_nil (wpAny_execs_nil ⟨rfl, u1, u2, (F1.keeps (Keeps.heap' k2)).less fun j => ?_, c1.trans (.of k2)⟩)
  match j with
  | 0 | 1 | 2 | 3 => exact .inl rfl
  | 4 => exact .inl rfl
  | 5 | 6 | 7 => exact .inr rfl
  | 8 => exact .inl rfl
  | j + 9 => exact .inl rfl
end
end Mine.Internal
namespace Mine.Internal
open PySem PySem.W PyProof.Rows
section
variable {prog : Program} {w : World} {A : Around} {E : Value → Shared → Prop} {hB : Heap} {mg mb : Str → Option Value} {n : Nat} {D : Den} {s s0 : Shared} {X Y : Av} {env : Env} {sc : Sc} {ρ : List Slot} {m : Str → Option Value} {h h' : Heap} {pa la d : Addr} {k : Nat} {st : Stmt} {rest : List Stmt} {R : Flow → Shared → Prop}
theorem forShp_inv (hs : forShp sc st = true) : ∃ xp iter b1 tb bb ip pos, st = .For (.Name nAt xp) iter [b1, .If tb bb [] ip] [] pos ∧ notSet iter = true ∧ shp PIt sc [iter] = true ∧ asg2Shp nOne nOther (.pure POne) (.pure POther) sc b1 = true ∧ shp PGe sc [tb] = true := by
  refine ob3_t hs fun tg iter r h1 h => ob_t h fun x h2 h => b5 h fun hn e ns si hb => ?_
  obtain ⟨body, orelse⟩ := r
  cases eq_of_beq e
  refine sFor_el h1 fun pos => ?_
  refine xName_el h2 fun xp => ?_
  refine bN_el (l := orelse) hn ?_
  refine bC_el (l := body) hb fun b1 bs h => bC_el h fun b2 bs h => ob3_t h fun tb bb oe h3 h => b4 h fun n1 n2 s1 s2 => ?_
  refine sIf_el h3 fun ip => ?_
  exact bN_el n1 (bN_el n2 ⟨xp, iter, b1, tb, bb, ip, pos, rfl, ns, si, s1, s2⟩)
theorem it_at {res : List (Q × Int)} {i : Nat} (hi : i < (rngPV 1 res.length).length) : i + 1 < res.length ∧ (rngPV 1 res.length)[i] = .int ((i + 1 : Nat) : Int) := by
  have hlen : (rngPV 1 res.length).length = res.length - 1 := by rw [rng_len]; omega
  have this : (rngPV 1 res.length)[i]? = some (.int ((i + 1 : Nat) : Int)) := by
    rw [rng_get, if_pos (by omega)]
    congr 2; omega
  rw [List.getElem?_eq_getElem hi] at this
  exact ⟨by omega, Option.some.inj this⟩
theorem Fm.narrow {W : Av} {p : PV} (F : Fm hB (fun b => Y b ∨ W b) env sc h m ρ) (nY : ∀ b, Y b → ¬ W b) (lY : Y env.locals) (bB : ∀ b o, hB.get? b = some o → ¬ Y b ∧ ¬ W b) (hk : ∀ b o, ¬ W b → h.get? b = some o → h'.get? b = some o) : Fm hB Y env sc h' m ρ := by
  refine ⟨?_, fun b o e => hk b o (bB b o e).2 (F.base b o e), fun b o e => (bB b o e).1, fun b y => (F.old b (.inl y)).imp fun o e => hk b o (nY b y) e, lY, F.plain, fun i sl hi => ?_⟩
  · obtain ⟨o, es, ep, ho, r⟩ := F.ns; exact ⟨o, es, ep, hk _ _ (nY _ lY) ho, r⟩
  · have := F.vals i sl hi
    cases sl with
    | un => trivial
    | own l => exact this
    | val p => exact ex1 this fun x h => ex3 h fun v q1 q2 q3 => ⟨x, v, q1, q2, q3.mono fun b o e y => ⟨hk b o (fun q => y (.inr q)) e, fun q => y (.inl q)⟩⟩
noncomputable def Jt (prog : Program) (w : World) (hB : Heap) (Y : Av) (env : Env) (sc : Sc) (d : Addr) (p : PV) (td : List (Q × Int)) (s t : Shared) : Prop := ∃ m', Fm hB Y env sc t.heap m' (slotP p) ∧ m' nTold = some (.ref d) ∧ TD prog w t.heap Y d td ∧ Sh s t
theorem for_step_ok (B : Bg prog w A hB mg mb n D) (O : Ok env sc) {res td : List (Q × Int)} {wr : List Addr} {t : Shared} {tk : Nat} {i : Nat} {v : Value} {b1 : Stmt} {tb : Expr} {bb : List Stmt} {ip : Pos} {h0 : Heap} (ha : ascB res = true) (hsm : res.all smQ = true) (h5 : sc.get 5 = some (nAt, false)) (h6 : sc.get 6 = some (nOne, false)) (h7 : sc.get 7 = some (nOther, false))
    (s1 : asg2Shp nOne nOther (.pure POne) (.pure POther) sc b1 = true) (s2 : shp PGe sc [tb] = true) (hi : i + 1 < res.length) (rv : Rep h0 X v (.int ((i + 1 : Nat) : Int))) (J : Jt prog w hB Y env sc d (.lst (res.map eR)) td s t)
    (hk : ∀ b o, b ∉ wr → t.heap.get? b = some o → h'.get? b = some o) (nL : env.locals ∉ wr) (wY : ∀ b, b ∈ wr → Y b) (ex : ∀ b, b ∈ wr → ∃ o, h'.get? b = some o) :
    wpAny (model prog w) A (storeName env nAt v) (fun o0 s2 => wpAny (model prog w) A (execs [b1, .If tb bb [] ip] env) (fun f s3 => f = .next ∧ Jt prog w hB Y env sc d (.lst (res.map eR)) td s s3 ∧ ∀ b, b ≠ env.locals → ∀ o, h'.get? b = some o → s3.heap.get? b = some o) NoE s2) NoE { t with heap := h', toks := tk } := by
  refine ex1 J fun m' J => an4 J fun F' hm' T' sh => isInt_el rv fun tv => ?_
  have F1 : Fm hB Y env sc h' m' (slotP (.lst (res.map eR))) := F'.move (fun b o e hb => hk b o (hb.elim (fun hb q => hb (wY b q)) fun q => q ▸ nL) e) fun b y => by
    by_cases hb : b ∈ wr
    · exact ex b hb
    · exact (F'.old b y).imp fun o e => hk b o hb e
  have T1 : TD prog w h' Y d td := T'.move fun b o e y => ⟨hk b o (fun q => y (wY b q)) e, y⟩
  refine F1.put (s := { t with heap := h', toks := tk }) O h5 (sl := .val (.int ((i + 1 : Nat) : Int))) (.int _ _) fun t3 F3 c3 => ?_
  refine wpAny_mono (body_ok B O hi ha hsm s1 s2 h6 h7 F3) (fun f t4 h4 => ?_) eid
  refine an2 h4 fun e h4 => ex1 h4 fun u1 h4 => ex2 h4 fun u2 F4 c4 => ?_
  cases e
  have c34 : Upd env.locals { t with heap := h', toks := tk } t4 := c3.trans c4
  refine ⟨rfl, ⟨_, F4, ?_, T1.move fun b o e y => ⟨c34.2 b o (fun q => y (q ▸ F'.locY)) e, y⟩, Sh.trans sh (Sh.trans (a := t) ⟨_, _, rfl⟩ c34.1)⟩, fun b hb o e => c34.2 b o hb e⟩
  exact (if_neg (by decide)).trans ((if_neg (by decide)).trans ((if_neg (by decide)).trans hm'))
theorem for_ok (B : Bg prog w A hB mg mb n D) (O : Ok env sc) {res td : List (Q × Int)} (hs : forShp sc st = true) (ha : ascB res = true) (hsm : res.all smQ = true) (hl : res.length ≤ 10) (h5 : sc.get 5 = some (nAt, false)) (h6 : sc.get 6 = some (nOne, false)) (h7 : sc.get 7 = some (nOther, false))
    (F : Fm hB Y env sc s.heap m (slotP (.lst (res.map eR)))) (hm : m nTold = some (.ref d)) (T : TD prog w s.heap Y d td)
    (next : ∀ m' s', Fm hB Y env sc s'.heap m' (slotP (.lst (res.map eR))) → m' nTold = some (.ref d) → TD prog w s'.heap Y d td → Sh s s' → wpAny (model prog w) A (execs rest env) R NoE s') : wpAny (model prog w) A (execs (st :: rest) env) R NoE s := by
  refine hid fun Z hZ => ?_
  obtain ⟨xp, iter, b1, tb, bb, ip, pos, rfl, ns, si, s1, s2⟩ := forShp_inv hs
  have hv : pev D (slotP (.lst (res.map eR))) PIt = some (.itr (rngPV 1 res.length)) := by
    show (if (0 : Int) ≤ 1 ∧ (1 : Int) ≤ LL ∧ 0 ≤ (((res.map eR).length : Nat) : Int) ∧ (((res.map eR).length : Nat) : Int) ≤ LL then some (PV.itr (rngPV 1 (((res.map eR).length : Nat) : Int))) else none) = _
    rw [List.length_map, if_pos (by simp only [LL]; lia)]
  refine hZ (wpAny_execs_cons (wpAny_For (wpAny_mono (itF_of (t := .one 5) (tg := .Name nAt xp) (it := iter) (nm := [(5, nAt)]) (X := Y) B.R.hd (snd_all B PIt) rfl O (F.inv fun o0 x => x) rfl si (.inr hv)) (fun v t1 h1 => ?_) eid) (notSet_fold ns)))
  refine an2 h1 fun k1 h1 => ex3 h1 fun h0 g1 g2 hF => ?_
  refine wpAny_mono hF (fun itv t2 h2 => ?_) eid
  refine hid fun Z hZ => ?_
  obtain ⟨k2, fp, wr, St', W, st0, hfp⟩ := h2
  have k12 := keeps_trans k1 k2
  have nws : ∀ b o, s.heap.get? b = some o → b ∉ wr := fun b o e q => no_some ((g1 b o e).symm.trans (W.new b q))
  have hw : ∀ b, b ∈ wr → s.heap.get? b = none := fun b hb => by
    cases e : s.heap.get? b with
    | none => rfl
    | some o => exact absurd hb (nws b o e)
  have nY : ∀ b, Y b → b ∉ wr := fun b y q => (hfp b (W.sub b q)).1 y
  have nL : env.locals ∉ wr := nY _ F.locY
  have J0 : Jt prog w hB (fun b => Y b ∨ b ∈ wr) env sc d (.lst (res.map eR)) td s t2 := ⟨m, F.wider (W := fun b => b ∈ wr) (Keeps.heap' k12) hw (fun b hb => W.ex 0 _ st0 b hb), hm, T.wider (W := fun b => b ∈ wr) (Keeps.heap' k12) hw, Keeps.sh k12⟩
  refine hZ (loop_ok W (Jt prog w hB (fun b => Y b ∨ b ∈ wr) env sc d (.lst (res.map eR)) td s) ?_ ?_ _ 0 t2 rfl (Nat.zero_le _) J0 st0)
  · intro i hi t J hS v h' tk rv st' hk'
    have it := it_at hi
    exact wpAny_mono (for_step_ok B O ha hsm h5 h6 h7 s1 s2 it.1 (it.2 ▸ rv) J hk' nL (fun o0 q => .inr q) (W.ex _ _ st')) (fun o0 s2 h2 => wpAny_mono h2 (fun f s3 h3 => ⟨h3.1, h3.2.1, W.frame _ _ _ st' fun b hb o e => h3.2.2 b (fun q => (hfp _ hb).1 (q ▸ F.locY)) o e⟩) eid) eid
  · intro t h' tk J hk'
    refine ex1 J fun m' J => an4 J fun F' hm' T' sh => ?_
    exact next m' { t with heap := h', toks := tk } (F'.narrow (p := .none) nY F.locY (fun b o e => ⟨F.baseY b o e, nws b o (F.base b o e)⟩) fun b o nb e => hk' b o nb e) hm' (T'.move fun b o e y => ⟨hk' b o (fun q => y (.inr q)) e, fun q => y (.inl q)⟩) (Sh.trans sh ⟨_, _, rfl⟩)
theorem eqB_t {a b : Int} (h : eqB a b = true) : a = b := of_decide_eq_true ((eqB_eq a b).symm.trans h)
theorem eqQI_eq {a b : Q × Int} (h : eqQI a b = true) : a = b :=
  b3 h fun x y z => Prod.ext (Prod.ext (eqB_t x) (eqB_t y)) (eqB_t z)
theorem goodB_inv {res td : List (Q × Int)} (hg : goodB res td = true) : nodK res = true ∧ nodK td = true ∧ res.length = td.length ∧ res.length ≤ 10 ∧ ∀ x ∈ res, x ∈ td := by
  refine b2 hg fun h g7 => b6 h fun g1 g2 g3 g4 g5 g6 => ⟨g2, g3, Nat.eq_of_beq_eq_true g4, Nat.le_of_ble_eq_true g5, fun x hx => ?_⟩
  refine ex2 (List.any_eq_true.mp (List.all_eq_true.mp g7 x hx)) fun y hy e => ?_
  rw [eqQI_eq e]; exact hy
theorem c1_ok (B : Bg prog w A hB mg mb n D) (lim : hB.NoLimit) (G3 : Gs3 mg mb) (O : Ok env sc) {res td : List (Q × Int)} {a : Expr} (hs : c1Shp sc a = true) (hg : goodB res td = true) (h3 : sc.get 3 = some (nTold, false))
    (F : Fm hB Y env sc s.heap m (slotP (.lst (res.map eR)))) (hm : m nTold = some (.ref d)) (T : TD prog w s.heap Y d td) : wpAny (model prog w) A (eval a env) (fun v s' => v = .bool true ∧ Keeps s s') NoE s := by
  have hu : A.units + 10 < cLine := by have := B.R.un; simp only [cLine]; omega
  refine ob3_t hs fun l o r hc h => ob_t h fun x hx h => ob2_t h fun f as hf h => ob_t h fun e h1 h => b6 h fun ho e1 e2 gl nst se => ?_
  cases isEq_eq ho
  cases eq_of_beq e1
  cases eq_of_beq e2
  cases one_eq h1
  refine cmp_el hc fun p => ?_
  refine call_el hf fun q pos' => ?_
  refine xName_el hx fun xp => ?_
  refine an5 (goodB_inv hg) fun g2 g3 hlen hl hall => ?_
  refine wpAny_Compare1 (wpAny_Call_NameR (name_blt B.G O F.base gl G3.dt ?_)) (marks_co .eq _)
  rw [backTo_cons nst]
  refine PySem.callWith_type rfl (Calls.evalArgs_plain (Calls.spliced_cons (wpAny_mono (F.eval B O rfl se (v := .lst (res.map eR)) rfl) (fun v1 t1 h1 => Calls.spliced_nil ?_) eid)))
  have F1 := F.keeps (Keeps.heap' h1.1)
  refine hid fun Z hZ => ?_
  obtain ⟨l3, vs, nl, rfl, e1, e2, e3, e4⟩ := h1.2.isLst
  refine hZ (dict_of (Y := Y) B.R.hd hu (lim.keeps F1.base) F1.old e1 e4 g2 (Nat.le_trans hl (Nat.le_of_ble_eq_true rfl)) fun d2 t2 k2 T2 => ?_)
  have k12 := keeps_trans h1.1 k2
  exact (F1.keeps (Keeps.heap' k2)).name O h3 hm (td_eq hu T2 (T.keeps (Keeps.heap' k12)) hlen hall g3 ⟨rfl, k12⟩)
theorem c2_ok (B : Bg prog w A hB mg mb n D) (O : Ok env sc) {res td : List (Q × Int)} {a : Expr} {Q : Value → Shared → Prop} (hs : c2Shp sc a = true) (hg : goodB res td = true) (h3 : sc.get 3 = some (nTold, false))
    (F : Fm hB Y env sc s.heap m (slotP (.lst (res.map eR)))) (hm : m nTold = some (.ref d)) (T : TD prog w s.heap Y d td) (hQ : ∀ s', Sh s s' → KeepsH hB s'.heap → Q (.bool true) s') : wpAny (model prog w) A (eval a env) Q NoE s := by
  refine ob3_t hs fun l o r hc h => ob2_t h fun f as hf h => ob_t h fun e h1 h => ob_t h fun x hx h => b5 h fun ho sl e2 gl e1 => ?_
  cases isEq_eq ho
  cases eq_of_beq e1
  cases eq_of_beq e2
  cases one_eq h1
  refine cmp_el hc fun p => ?_
  refine call_el hf fun q pos' => ?_
  refine xName_el hx fun xp => ?_
  refine an5 (goodB_inv hg) fun g2 g3 hlen hl hall => ?_
  refine wpAny_Compare1 (wpAny_mono (F.eval B O rfl sl (v := .int ((res.map eR).length : Nat)) rfl) (fun v1 t2 h2 => ?_) eid) (marks_co .eq _)
  have F2 := F.keeps (Keeps.heap' h2.1)
  refine call_b1 (x := "len") B.G O F2.base (by decide) gl rfl (F2.name O h3 hm (td_len (T.keeps (Keeps.heap' h2.1)) (hlen ▸ Nat.le_trans hl (Nat.le_of_ble_eq_true rfl)) ?_))
  refine wpAny_mono (cop_ok (s := { t2 with toks := t2.toks + 1 + 1 }) (Y := Y) (o := .eq) (b := true) B.R ?_ (.inl h2.2) (.int (td.length : Nat) _)) (fun v3 t3 h3' => ?_) eid
  · rw [cE, List.length_map, hlen]; exact congrArg some (decide_eq_true rfl)
  · rw [h3'.2]
    have kB : Keeps t2 t3 := ex1 h3'.1 fun hh k => ex2 k fun tt e kk => ⟨hh, tt, e, kk⟩
    exact hQ t3 (Sh.trans (Keeps.sh h2.1) (Keeps.sh kB)) fun b o e => Keeps.heap' kB b o (F2.base b o e)
theorem end_ok (B : Bg prog w A hB mg mb n D) (lim : hB.NoLimit) (G3 : Gs3 mg mb) (O : Ok env sc) {res td : List (Q × Int)} (hs : endShp sc st = true) (hg : goodB res td = true) (h3 : sc.get 3 = some (nTold, false))
    (F : Fm hB Y env sc s.heap m (slotP (.lst (res.map eR)))) (hm : m nTold = some (.ref d)) (T : TD prog w s.heap Y d td) (hR : ∀ s', Sh s s' → KeepsH hB s'.heap → R (.ret (.bool true)) s') : wpAny (model prog w) A (execs (st :: rest) env) R NoE s := by
  refine ob_t hs fun o h1 h => ob_t h fun v h2 h => ob2_t h fun op vs h3' h => ob2_t h fun a b h4 h => b3 h fun ha sa sb => ?_
  cases isAnd_eq ha
  cases two_eq h4
  cases h2
  refine sReturn_el h1 fun pos => ?_
  refine xBoolOp_el h3' fun bp => ?_
  refine wpAny_execs_cons (wpAny_Return_some (wpAny_And2 (wpAny_mono (c1_ok B lim G3 O sa hg h3 F hm T) (fun v t1 h1 => ?_) eid)))
  cases h1.1
  have k1 := h1.2
  exact wpAny_truthy_bool (c2_ok B O sb hg h3 (F.keeps (Keeps.heap' k1)) hm (T.keeps (Keeps.heap' k1)) fun s' sh kk => hR s' (Sh.trans (Keeps.sh k1) sh) kk)
end
end Mine.Internal
namespace Mine.Internal
open PySem PySem.W PyProof.Rows
section
variable {prog : Program} {w : World} {A : Around} {E : Value → Shared → Prop} {hB : Heap} {mg mb : Str → Option Value} {n : Nat} {D : Den} {s s0 : Shared} {X Y : Av} {env : Env} {sc : Sc} {ρ : List Slot} {m : Str → Option Value} {h h' : Heap} {pa la d : Addr} {k : Nat} {R : Flow → Shared → Prop}
theorem lawSc_get {names : List (Str × NameKind)} {i : Nat} {p : Str × Bool} (h : (lawSc names).get i = some p) : ∃ x, p = (x, false) ∧ slL[i]? = some x := by
  have := Sc.get_some h
  unfold lawSc at this
  rw [List.getElem?_map] at this
  cases e : slL[i]? with
  | none => rw [e] at this; cases this
  | some x => rw [e] at this; cases this; exact ⟨x, rfl, rfl⟩
theorem law_ok {names : List (Str × NameKind)} {body : List Stmt} (hc : chkLaw names body = true) (h1 : env.scope.kind = .function) (h2 : env.scope.names = names) (h3 : env.globals = mainGlobals) (h4 : env.builtins = builtinsNs) (h5 : env.cells = []) : Ok env (lawSc names) := by
  unfold chkLaw at hc
  simp only [Bool.and_eq_true, List.all_eq_true, beq_iff_eq, Bool.not_eq_true'] at hc
  refine ⟨h1, h2, h3, h4, fun i x hi => ?_, fun i x hi => ?_, fun i j x b b' h h' => ?_, ?_⟩
  · obtain ⟨y, e, q⟩ := lawSc_get hi; cases e
    have := hc.1 x (List.mem_of_getElem? q)
    refine ⟨?_, this.2⟩
    show List.lookup x env.scope.names = _
    rw [h2]; exact this.1
  · obtain ⟨y, e, _⟩ := lawSc_get hi; cases e
  · obtain ⟨y, e, q⟩ := lawSc_get h; cases e
    obtain ⟨y', e', q'⟩ := lawSc_get h'; cases e'
    exact nodupB_inj (by decide) q q'
  · rw [h5]; exact .nil
theorem law_fm {names : List (Str × NameKind)} (hn : s.heap.Ns env.locals m) (kB : KeepsH hB s.heap) (nL : hB.get? env.locals = none) : Fm hB (fun b => b = env.locals) env (lawSc names) s.heap m un9 := by
  refine ⟨hn, kB, fun b o e q => no_none (nL.symm.trans (q ▸ e)), fun b q => ?_, rfl, fun i x e => ex1 (lawSc_get e) fun o0 h => (nomatch h.1), fun i sl hi => ?_⟩
  · cases q; exact ex1 hn fun o h => ex1 h fun o0 h => ex1 h fun o0 h => ⟨o, h.1⟩
  · cases hi; rw [un9_get]; trivial
theorem roots_ev {f : List Int} {td : List (Q × Int)} (hcase : caseB f td = true) (z : Bool) : ∃ res, pev DF (slotF (eP (bif z then 0 :: f else f))) PRoots = some (.lst (res.map eR)) ∧ goodB res (withZ z td) = true := by
  obtain ⟨c0, g, rfl, hz, hf, hres⟩ := case_ok hcase
  obtain ⟨res, hr, hg⟩ := hres z
  exact ⟨res, L_roots hz hf hr, hg⟩
theorem law_end (B : Bg prog w A hB mg mb n DF) (lim : hB.NoLimit) (G3 : Gs3 mg mb) {names : List (Str × NameKind)} {s4 s5 s6 : Stmt} {rest : List Stmt} {f : List Int} {td : List (Q × Int)} {z : Bool} (O : Ok env (lawSc names)) (p5 : asgShp nPairs (.pure PRoots) (lawSc names) s4 = true) (p6 : forShp (lawSc names) s5 = true) (p7 : endShp (lawSc names) s6 = true) (hcase : caseB f td = true)
    (F : Fm hB Y env (lawSc names) s.heap m (slotF (eP (bif z then 0 :: f else f)))) (hm : m nTold = some (.ref d)) (T : TD prog w s.heap Y d (withZ z td)) (hR : ∀ s', Sh s s' → KeepsH hB s'.heap → R (.ret (.bool true)) s') : wpAny (model prog w) A (execs (s4 :: s5 :: s6 :: rest) env) R NoE s := by
  refine ex2 (roots_ev hcase z) fun res hr hg => ?_
  refine asgP (i := 4) B O p5 rfl hr F fun u t4 F4 c4 => ?_
  have F4' : Fm hB Y env (lawSc names) t4.heap (put m nPairs u) (slotP (.lst (res.map eR))) := F4.less fun j => by
    match j with
    | 0 | 1 | 3 => exact .inl rfl
    | 2 => exact .inr rfl
    | 4 => exact .inl rfl
    | 5 | 6 | 7 | 8 => exact .inl rfl
    | j + 9 => exact .inl rfl
  refine b2 hg fun h o0 => b6 h fun g1 o0 o0 o0 g5 g6 => ?_
  refine for_ok B O p6 g1 g6 (Nat.le_of_ble_eq_true g5) rfl rfl rfl F4' ((if_neg (by decide)).trans hm) ((ChgY.upd c4 F.locY).td T) fun m5 t5 F5 hm5 T5 sh5 => ?_
  exact end_ok B lim G3 O p7 hg rfl F5 hm5 T5 fun s' sh' k' => hR s' (Sh.trans c4.1 (Sh.trans sh5 sh')) k'
theorem lawShp_inv {body : List Stmt} (h : lawShp sc body = true) : ∃ s1 s2 t3 a3 p3 s4 s5 s6 rest, body = s1 :: s2 :: .If t3 [a3] [] p3 :: s4 :: s5 :: s6 :: rest ∧ poolShp sc s1 = true ∧ unpShp sc s2 = true ∧ drawT sc t3 = true ∧ zShp sc a3 = true ∧ asgShp nPairs (.pure PRoots) sc s4 = true ∧ forShp sc s5 = true ∧ endShp sc s6 = true := by
  refine bC_el h fun s1 r h => b2 h fun h1 h => bC_el h fun s2 r h => b2 h fun h2 h => bC_el h fun s3 r h => ob3_t h fun t3 b3 oe hi h => bC_el (l := b3) (P := fun b3 => sIf s3 = some (t3, b3, oe) → _) h (fun a3 bs h hi => b5 h fun n1 n2 h3 h4 h => bC_el h fun s4 r h => b2 h fun h5 h => bC_el h fun s5 r h => b2 h fun h6 h => bC_el h fun s6 r h7 => ?_) hi
  refine sIf_el hi fun p3 => ?_
  exact bN_el n1 (bN_el n2 ⟨s1, s2, t3, a3, p3, s4, s5, s6, r, rfl, h1, h2, h3, h4, h5, h6, h7⟩)
theorem law_body (G2 : Gs2 hB mg mb) (G3 : Gs3 mg mb) (Dw : Dr hB mg) (Bw : Bu hB mg) (AC : AllCases) {names : List (Str × NameKind)} {body : List Stmt} (hc : chkLaw names body = true) (O : Ok env (lawSc names)) (Rm : Room 61 A) (hn : s.heap.Ns env.locals m) (kB : KeepsH hB s.heap) (nL : hB.get? env.locals = none)
    {sa : Addr} {vs : List Value} {ns : List Int} (hm : m nScript = some (.ref sa)) (hl : s.heap.IsList sa vs.toArray) (ia : IntsAre vs ns) (hlen : vs.length ≤ 1000) (hR : ∀ s', Sh s s' → KeepsH hB s'.heap → R (.ret (.bool true)) s') : wpAny (model prog w) A (execs body env) R NoE s := by
  have B : Bg prog w A hB mg mb 60 DF := bgF G2 ⟨Rm.hd, by have := Rm.dp; lia, by have := Rm.un; lia⟩
  refine hid fun Z hZ => ?_
  obtain ⟨s1, s2, t3, a3, p3, s4, s5, s6, rest, rfl, h1, h2, h3, h4, h5, h6, h7⟩ := lawShp_inv (b2 hc fun o0 h => h)
  refine hZ (pool_ok B G3 O h1 (law_fm hn kB nL) rfl rfl hm hl ia hlen fun pa la m1 t1 S1 sh1 => ?_)
  refine unp_ok G2 Dw Bw AC Rm O h2 S1 rfl rfl rfl fun f td k d m2 t2 hcase hk S2 hm2 T2 sh2 => ?_
  refine z_ok (n := 59) B G2 G3 Dw O h3 h4 hcase (Nat.le_trans hk (Nat.le_of_ble_eq_true rfl)) S2 rfl rfl hm2 T2 fun z d' m3 t3 F3 hm3 T3 sh3 => ?_
  exact law_end B G2.lim G3 O h5 h6 h7 hcase F3 hm3 T3 fun s' sh k' => hR s' (Sh.trans sh1 (Sh.trans sh2 (Sh.trans sh3 sh))) k'
end
end Mine.Internal
namespace Mine.Internal
open PySem PySem.W PyProof.Rows
noncomputable def bltNames : List String := ["abs", "len", "max", "any", "isinstance"]
noncomputable def typNames : List String := ["list", "range", "enumerate", "reversed", "str", "dict", "int"]
noncomputable def freeChk (p : Program) (loose : List Str) (x : Str) : Bool :=
  !startupNames.contains x && !loose.contains x && !((recsOf p).map (·.name)).contains x && !((litsOf p).map (·.1)).contains x && !((clssOf p loose).map (·.name)).contains x
noncomputable def isWI (a : Int) (d : WData) : Bool := match d with
  | .int x => x == a
  | _ => false
noncomputable def isPr (a b : Int) (d : WData) : Bool := match d with
  | .tuple l => ob2 (two? l) fun x y => isWI a x && isWI b y
  | _ => false
theorem isWI_eq {a : Int} {d : WData} (h : isWI a d = true) : d = .int a := by
  cases d with
  | int x => exact congrArg WData.int (eq_of_beq h)
  | _ => exact no_ff h
theorem isPr_eq {a b : Int} {d : WData} (h : isPr a b d = true) : d = .tuple [.int a, .int b] := by
  cases d with
  | tuple l => exact ob2_t (o := two? l) h fun x y h2 h => b2 h fun p q => by rw [two_eq h2, isWI_eq p, isWI_eq q]
  | _ => exact no_ff h
noncomputable def litChk (p : Program) (x : Str) (a b : Int) : Bool := (wlitsOf p).any fun c => c.1 == x && isPr a b c.2
noncomputable def recsChk (rs : List DefRec) : Bool := Fn.all.all fun f => rs.any fun d => d.name == Str.ofString f.name && chkDef f d
noncomputable def drawChk (rs : List DefRec) : Bool := rs.any fun d => d.name == nmDraw && drawShp d
noncomputable def builtChk (rs : List DefRec) : Bool := rs.any fun d => d.name == nmBuilt && builtShp d
noncomputable def freesChk (p : Program) (loose : List Str) : Bool := (bltNames ++ typNames).all fun x => freeChk p loose (Str.ofString x)
theorem fn_at (f : Fn) : Fn.all[f.ctorIdx]? = some f := by cases f <;> rfl
theorem fn_all (f : Fn) : f ∈ Fn.all := List.mem_of_getElem? (fn_at f)
section
variable {p : Program} {loose : List Str} {mean : ExcName → Option Value} {mg mb : Str → Option Value} {h : Heap}
theorem free_of (T : Top p loose mean mg mb h) {x : Str} (hc : freeChk p loose x = true) : mg x = none := by
  have nc : ∀ {l : List Str}, (!l.contains x) = true → x ∉ l := fun {l} q hm => by rw [List.contains_iff_mem.mpr hm] at q; exact no_ff q
  exact b5 hc fun a b c d e => T.free x (nc a) (nc b) (nc c) (nc d) (nc e)
noncomputable def rdP (R : WRecords) (cl : Str → Option Addr) (h : Heap) (v : Value) : WData → Prop
  | .int i => ∃ t, v = .int i t
  | .tuple xs => ∃ a o vs n as', v = .ref a ∧ h.get? a = some o ∧ o.cls = .type "tuple" ∧ o.data = .seq vs n ∧ ReadsAllW R cl h vs.toList xs as'
  | _ => True
theorem rd_inv {R : WRecords} {cl : Str → Option Addr} {v : Value} {d : WData} {as : List Addr} (r : ReadsW R cl h v d as) : rdP R cl h v d := by
  cases r with
  | int i t => exact ⟨t, rfl⟩
  | tuple a b c d => exact ⟨_, _, _, _, _, rfl, a, b, c, d⟩
  | _ => exact True.intro
theorem rda_inv {R : WRecords} {cl : Str → Option Addr} {vs : List Value} {ds : List WData} {as : List Addr} (r : ReadsAllW R cl h vs ds as) : match ds with
  | [] => vs = []
  | d :: ds => ∃ v vs' as bs, vs = v :: vs' ∧ ReadsW R cl h v d as ∧ ReadsAllW R cl h vs' ds bs := by
  cases r with
  | nil => rfl
  | cons a b => exact ⟨_, _, _, _, rfl, a, b⟩
theorem reads_two {R : WRecords} {cl : Str → Option Addr} {as : List Addr} {vs : List Value} {x y : Int} (q : ReadsAllW R cl h vs [.int x, .int y] as) : ∃ t t', vs = [.int x t, .int y t'] := by
  obtain ⟨v, vs, _, _, rfl, q1, q⟩ := rda_inv q
  obtain ⟨u, vs, _, _, rfl, q2, q⟩ := rda_inv q
  cases (rda_inv q : vs = [])
  obtain ⟨t, rfl⟩ := rd_inv q1
  obtain ⟨t', rfl⟩ := rd_inv q2
  exact ⟨t, t', rfl⟩
theorem lit_rep (W : TopW p mg h) {x : Str} {a b : Int} (hc : litChk p x a b = true) : ∃ v, mg x = some v ∧ Rep h (fun o0 => False) v (.tup [.int a, .int b]) := by
  refine ex2 (List.any_eq_true.mp hc) fun c hm hx => b2 hx fun e ht => ex2 (W.lits _ hm) fun v hv hr => ⟨v, eq_of_beq e ▸ hv, ?_⟩
  rw [isPr_eq ht] at hr
  obtain ⟨ad, o, vs, n, as', rfl, e, c, dt, q⟩ := rd_inv hr
  obtain ⟨t, t', hl⟩ := reads_two q
  refine .tup (vs := vs.toList) e c (by rw [dt, Array.toArray_toList]) (fun z => z) ?_ ?_
  · rw [hl]; exact Nat.le_of_ble_eq_true rfl
  · rw [hl]; exact .cons (.int _ _) (.cons (.int _ _) .nil)
theorem blt_boot : ∀ x ∈ bltNames, bootBuiltins (Str.ofString x) = some (.builtin x) ∧ (Str.ofString x == Str.ofString "__name__") = false := by
  intro x hx
  simp only [bltNames, List.mem_cons, List.not_mem_nil, or_false] at hx
  rcases hx with rfl | rfl | rfl | rfl | rfl <;> exact ⟨by kernel_rfl, by decide⟩
theorem typ_boot : ∀ x ∈ typNames, bootBuiltins (Str.ofString x) = some (.type x) ∧ (Str.ofString x == Str.ofString "__name__") = false := by
  intro x hx
  simp only [typNames, List.mem_cons, List.not_mem_nil, or_false] at hx
  rcases hx with rfl | rfl | rfl | rfl | rfl | rfl | rfl <;> exact ⟨by kernel_rfl, by decide⟩
theorem top_all (T : Top p loose mean mg mb h) (W : TopW p mg h) (V : ∃ t, mg (Str.ofString "MOST_DIVIDED") = some (.int 10000000000 t)) (c1 : recsChk (recsOf p) = true) (c2 : drawChk (recsOf p) = true) (c3 : builtChk (recsOf p) = true) (c4 : freesChk p loose = true) (c5 : litChk p (Str.ofString "HALF") 1 2 = true) (c6 : litChk p (Str.ofString "R0") 0 1 = true) :
    Gs2 h mg mb ∧ Gs3 mg mb ∧ Dr h mg ∧ Bu h mg := by
  have fr : ∀ x ∈ bltNames ++ typNames, mg (Str.ofString x) = none := fun x hx => free_of T (List.all_eq_true.mp c4 x hx)
  have nb : ∀ x ∈ bltNames, mb (Str.ofString x) = some (.builtin x) := fun x hx => by
    rw [T.builtins _ (fun q => by have := (blt_boot x hx).2; rw [q] at this; exact absurd this (by decide))]; exact (blt_boot x hx).1
  have nt : ∀ x ∈ typNames, mb (Str.ofString x) = some (.type x) := fun x hx => by
    rw [T.builtins _ (fun q => by have := (typ_boot x hx).2; rw [q] at this; exact absurd this (by decide))]; exact (typ_boot x hx).1
  have fns : ∀ f : Fn, ∃ a o d pm code doc, mg (Str.ofString f.name) = some (.ref a) ∧ h.get? a = some o ∧ o.data = .func (Calls.docDef d.name d.params d.body d.scope pm code doc) ∧ h.CodeRec code d.name ∧ chkDef f d = true := fun f => by
    obtain ⟨d, hd, q⟩ := List.any_eq_true.mp (List.all_eq_true.mp c1 f (fn_all f))
    simp only [Bool.and_eq_true, beq_iff_eq] at q
    obtain ⟨a, o, pm, code, doc, h1, h2, h3, h4⟩ := T.fn d hd
    exact ⟨a, o, d, pm, code, doc, q.1 ▸ h1, h2, h3, h4, q.2⟩
  refine ⟨⟨⟨T.g, T.b, fun x hx => ?_, fun x hx => ?_, fun g => ?_, fun f => ?_⟩, T.nolimit, fns⟩, ⟨?_, ?_⟩, ⟨?_⟩, ⟨?_⟩⟩
  · exact ⟨fr x (List.mem_append_left _ hx), nb x hx⟩
  · have hx' : x ∈ typNames := by
      simp only [List.mem_cons, List.not_mem_nil, or_false] at hx
      rcases hx with rfl | rfl | rfl | rfl | rfl <;> decide
    exact ⟨fr x (List.mem_append_right _ hx'), nt x hx'⟩
  · cases g with
    | half => exact lit_rep W c5
    | r0 => exact lit_rep W c6
    | most => obtain ⟨t, ht⟩ := V; exact ⟨_, ht, .int _ _⟩
  · obtain ⟨a, o, d, pm, code, doc, h1, h2, h3, _⟩ := fns f
    exact ⟨a, o, _, h1, h2, h3⟩
  · exact ⟨fr "dict" (by decide), nt "dict" (by decide)⟩
  · exact ⟨fr "int" (by decide), nt "int" (by decide)⟩
  · obtain ⟨d, hd, q⟩ := List.any_eq_true.mp c2
    simp only [Bool.and_eq_true, beq_iff_eq] at q
    obtain ⟨a, o, pm, code, doc, h1, h2, h3, h4⟩ := T.fn d hd
    exact ⟨a, d, o, pm, code, doc, q.1 ▸ h1, q.2, h2, h3, h4⟩
  · obtain ⟨d, hd, q⟩ := List.any_eq_true.mp c3
    simp only [Bool.and_eq_true, beq_iff_eq] at q
    obtain ⟨a, o, pm, code, doc, h1, h2, h3, h4⟩ := T.fn d hd
    exact ⟨a, d, o, pm, code, doc, q.1 ▸ h1, q.2, h2, h3, h4⟩
end
end Mine.Internal
set_option tactic.hygienic true
namespace Mine.Internal
noncomputable def row (f : Int → List Int × List (Q × Int)) : Bool := (List.range' 1 30).all fun m => chk (f (m : Nat))
theorem row_of {f : Int → List Int × List (Q × Int)} (h : row f = true) {m : Int} (h1 : 1 ≤ m) (h2 : m ≤ 30) : chk (f m) = true := by
  have := List.all_eq_true.mp h m.toNat (List.mem_range'_1.mpr ⟨by omega, by omega⟩)
  rwa [Int.toNat_of_nonneg (by omega)] at this
theorem kc0p0 : row (fun m => frm0 (1) m 0) = true := by decide +kernel
theorem kc0p1 : row (fun m => frm0 (1) m 1) = true := by decide +kernel
theorem kc0p2 : row (fun m => frm0 (1) m 2) = true := by decide +kernel
theorem kc0p3 : row (fun m => frm0 (1) m 3) = true := by decide +kernel
theorem kc0n0 : row (fun m => frm0 (-1) m 0) = true := by decide +kernel
theorem kc0n1 : row (fun m => frm0 (-1) m 1) = true := by decide +kernel
theorem kc0n2 : row (fun m => frm0 (-1) m 2) = true := by decide +kernel
theorem kc0n3 : row (fun m => frm0 (-1) m 3) = true := by decide +kernel
theorem kc1p0 : row (fun m => frm1 (1) m 0) = true := by decide +kernel
theorem kc1p1 : row (fun m => frm1 (1) m 1) = true := by decide +kernel
theorem kc1n0 : row (fun m => frm1 (-1) m 0) = true := by decide +kernel
theorem kc1n1 : row (fun m => frm1 (-1) m 1) = true := by decide +kernel
theorem kc2p0 : row (fun m => frm2 (1) m 0) = true := by decide +kernel
theorem kc2p1 : row (fun m => frm2 (1) m 1) = true := by decide +kernel
theorem kc2p2 : row (fun m => frm2 (1) m 2) = true := by decide +kernel
theorem kc2p3 : row (fun m => frm2 (1) m 3) = true := by decide +kernel
theorem kc2p4 : row (fun m => frm2 (1) m 4) = true := by decide +kernel
theorem kc2p5 : row (fun m => frm2 (1) m 5) = true := by decide +kernel
theorem kc2p6 : row (fun m => frm2 (1) m 6) = true := by decide +kernel
theorem kc2p7 : row (fun m => frm2 (1) m 7) = true := by decide +kernel
theorem kc2p8 : row (fun m => frm2 (1) m 8) = true := by decide +kernel
theorem kc2n0 : row (fun m => frm2 (-1) m 0) = true := by decide +kernel
theorem kc2n1 : row (fun m => frm2 (-1) m 1) = true := by decide +kernel
theorem kc2n2 : row (fun m => frm2 (-1) m 2) = true := by decide +kernel
theorem kc2n3 : row (fun m => frm2 (-1) m 3) = true := by decide +kernel
theorem kc2n4 : row (fun m => frm2 (-1) m 4) = true := by decide +kernel
theorem kc2n5 : row (fun m => frm2 (-1) m 5) = true := by decide +kernel
theorem kc2n6 : row (fun m => frm2 (-1) m 6) = true := by decide +kernel
theorem kc2n7 : row (fun m => frm2 (-1) m 7) = true := by decide +kernel
theorem kc2n8 : row (fun m => frm2 (-1) m 8) = true := by decide +kernel
theorem kc3p0 : row (fun m => frm3 (1) m 0) = true := by decide +kernel
theorem kc3p1 : row (fun m => frm3 (1) m 1) = true := by decide +kernel
theorem kc3n0 : row (fun m => frm3 (-1) m 0) = true := by decide +kernel
theorem kc3n1 : row (fun m => frm3 (-1) m 1) = true := by decide +kernel
theorem kall0 (s m j : Int) (hs : s = 1 ∨ s = -1) (h1 : 1 ≤ m) (h2 : m ≤ 30) (h3 : 0 ≤ j) (h4 : j < 4) : chk (frm0 s m j) = true := by
  have hj : j = 0 ∨ j = 1 ∨ j = 2 ∨ j = 3 := pick4 h3 h4
  rcases hs with rfl | rfl
  · rcases hj with rfl | rfl | rfl | rfl
    · exact row_of kc0p0 h1 h2
    · exact row_of kc0p1 h1 h2
    · exact row_of kc0p2 h1 h2
    · exact row_of kc0p3 h1 h2
  · rcases hj with rfl | rfl | rfl | rfl
    · exact row_of kc0n0 h1 h2
    · exact row_of kc0n1 h1 h2
    · exact row_of kc0n2 h1 h2
    · exact row_of kc0n3 h1 h2
theorem kall1 (s m j : Int) (hs : s = 1 ∨ s = -1) (h1 : 1 ≤ m) (h2 : m ≤ 30) (h3 : 0 ≤ j) (h4 : j < 2) : chk (frm1 s m j) = true := by
  have hj : j = 0 ∨ j = 1 := pick2 h3 h4
  rcases hs with rfl | rfl
  · rcases hj with rfl | rfl
    · exact row_of kc1p0 h1 h2
    · exact row_of kc1p1 h1 h2
  · rcases hj with rfl | rfl
    · exact row_of kc1n0 h1 h2
    · exact row_of kc1n1 h1 h2
theorem kall2 (s m j : Int) (hs : s = 1 ∨ s = -1) (h1 : 1 ≤ m) (h2 : m ≤ 30) (h3 : 0 ≤ j) (h4 : j < 9) : chk (frm2 s m j) = true := by
  obtain ⟨k, rfl⟩ := Int.eq_ofNat_of_zero_le h3
  have hk : k < 9 := Int.ofNat_lt.mp h4
  rcases hs with rfl | rfl
  · match k, hk with
    | 0, _ => exact row_of kc2p0 h1 h2
    | 1, _ => exact row_of kc2p1 h1 h2
    | 2, _ => exact row_of kc2p2 h1 h2
    | 3, _ => exact row_of kc2p3 h1 h2
    | 4, _ => exact row_of kc2p4 h1 h2
    | 5, _ => exact row_of kc2p5 h1 h2
    | 6, _ => exact row_of kc2p6 h1 h2
    | 7, _ => exact row_of kc2p7 h1 h2
    | 8, _ => exact row_of kc2p8 h1 h2
    | k + 9, hk => exact absurd hk (Nat.not_lt.mpr (Nat.le_add_left 9 k))
  · match k, hk with
    | 0, _ => exact row_of kc2n0 h1 h2
    | 1, _ => exact row_of kc2n1 h1 h2
    | 2, _ => exact row_of kc2n2 h1 h2
    | 3, _ => exact row_of kc2n3 h1 h2
    | 4, _ => exact row_of kc2n4 h1 h2
    | 5, _ => exact row_of kc2n5 h1 h2
    | 6, _ => exact row_of kc2n6 h1 h2
    | 7, _ => exact row_of kc2n7 h1 h2
    | 8, _ => exact row_of kc2n8 h1 h2
    | k + 9, hk => exact absurd hk (Nat.not_lt.mpr (Nat.le_add_left 9 k))
theorem kall3 (s m j : Int) (hs : s = 1 ∨ s = -1) (h1 : 1 ≤ m) (h2 : m ≤ 30) (h3 : 0 ≤ j) (h4 : j < 2) : chk (frm3 s m j) = true := by
  have hj : j = 0 ∨ j = 1 := pick2 h3 h4
  rcases hs with rfl | rfl
  · rcases hj with rfl | rfl
    · exact row_of kc3p0 h1 h2
    · exact row_of kc3p1 h1 h2
  · rcases hj with rfl | rfl
    · exact row_of kc3n0 h1 h2
    · exact row_of kc3n1 h1 h2
theorem all_cases : AllCases := ⟨kall0, kall1, kall2, kall3⟩
end Mine.Internal
namespace Mine.Internal
open PySem PySem.W PyProof.Rows PySem.Calls
noncomputable def keep : List Nat := [1, 3, 4, 5, 6, 7, 9, 10, 11, 12, 13, 14, 15, 17, 18, 19, 20, 21, 22, 23, 24, 25, 26, 27, 28, 30, 31, 32, 33, 35, 36, 37, 39, 40, 41, 42, 43, 44, 45, 46, 47, 48, 49, 51, 52, 53, 54, 55, 56, 57, 58, 59, 60, 61, 62, 63, 64, 65, 67, 68, 69, 70, 71]
noncomputable def qv : Program := view Challenge.pw_pq0195_01 keep
noncomputable def lo : List Str := [Str.ofString "MOST_DIVIDED"]
noncomputable def lv : List (Str × WData) := [(Str.ofString "MOST_DIVIDED", WData.int 10000000000)]
noncomputable def r0 : OpenRow := Challenge.rw_pq0195_01.row
noncomputable def Xt0 (s : Shared) : Bool := xlAt qv lv s && recOk (RowW.records r0.toRowW) s
noncomputable def XS (p : Program) (lv : List (Str × WData)) (mg : Str → Option Value) (h : Heap) : Prop := LooseAre lv mg h ∧ Flt.MathXP p mg h
theorem xs_of {p : Program} {lv : List (Str × WData)} (s : Shared) (x : xlAt p lv s = true) : XS p lv (s.heap.nsMap mainGlobals) s.heap := ⟨(xl_of s x).2, (xl_of s x).1⟩
theorem XS.keeps {p : Program} {lv : List (Str × WData)} (mg : Str → Option Value) (h h' : Heap) (x : XS p lv mg h) (hk : ∀ b o, h.get? b = some o → h'.get? b = some o) : XS p lv mg h' :=
  have y := XL.keeps mg h h' ⟨x.2, x.1⟩ hk
  ⟨y.2, y.1⟩
theorem said0 : Challenge.rw_pq0195_01.wellSaid = true := (congrFun Fast.te9446332074065402090 _).trans (by kernel_rfl)

noncomputable def tRun (p : Program) (w : World) (n₀ : Nat) (ann : Option Value) : Nat → SharedT → Thread → Option SharedT
  | 0, _, _ => none
  | n + 1, s, t => match through t with
    | true => some s
    | false => match Fast.tw6613529449190102663 n₀ ann t with
      | false => none
      | true => match Fast.tw10156331382660048174 (Fast.tw11892475500146522536 Fast.tw14364793385576792824) p w s t with
        | some (s', t') => tRun p w n₀ ann n s' t'
        | none => none
theorem tRun_of {p : Program} {w : World} {n₀ : Nat} {ann : Option Value} : ∀ {n : Nat} {s s' : SharedT} {t : Thread}, tRun p w n₀ ann n s t = some s' → topRun treeTable p w n₀ ann n s.abs t = some s'.abs
  | 0, _, _, _, h => by cases h
  | n + 1, s, s', t, h => by
    unfold tRun at h
    unfold topRun
    rw [← Fast.te6613529449190102663, ← Fast.te10156331382660048174, ← Fast.te11892475500146522536, ← Fast.te14364793385576792824] at h
    cases he : through t with
    | true => rw [he] at h; cases h; rfl
    | false =>
      rw [he] at h
      cases hk : stepOk n₀ ann t with
      | false => rw [hk] at h; cases h
      | true =>
        rw [hk] at h
        cases hs : stepT (denote treeTable) p w s t with
        | none => rw [hs] at h; cases h
        | some r => obtain ⟨s₂, t₂⟩ := r; rw [hs] at h; rw [stepT_spec hs]; exact tRun_of h
noncomputable def sT0 (P : Params) (os : OsState) : SharedT := ⟨(((((((((((BT.nil.ins 0 (boot_o_0 P)).ins 1 (boot_o_1 P)).ins 2 (boot_o_2 P)).ins 3 (boot_o_3 P)).ins 4 (boot_o_4 P)).ins 5 (boot_o_5 P)).ins 6 (boot_o_6 P)).ins 7 (boot_o_7 P)).ins 8 (boot_o_8 P)).ins 9 (boot_o_9 P)).ins 10 (boot_o_10 P)), 11, {}, #[], boot_drawn, boot_toks, os⟩
theorem sT0_abs (P : Params) (os : OsState) : (sT0 P os).abs = ⟨boot_heap P, #[], boot_drawn, boot_toks, os⟩ := by kernel_rfl
theorem left_of {p q : Program} {loose : List Str} {Xt : Shared → Bool} {N : Nat}
    (hb : ∀ w : World, (fencedOpening treeTable p w N).map (fun s => (s.heap, s.gens, s.drawn, s.toks)) = some (boot_heap w.params, Array.mk [], boot_drawn, boot_toks))
    (hs : ∀ P, ((boot_heap P).isNs mainGlobals && (Array.mk [] : Array GenState).size == 0, (boot_heap P).objs.size, (boot_heap P).nsMap mainGlobals "__annotations__") = (true, 11, some (Value.ref 6)))
    (h : ∀ w : World, (fun os => (tRun p w 11 (some (Value.ref 6)) N (sT0 w.params os) (topStub p)).map fun s => (staticsOk (importedModules p.main.body) (boot_heap w.params) s.abs.heap && namesBound p s.abs.heap && gensDone s.abs && laidKept (boot_heap w.params) s.abs.heap,
      Fast.tw4187177175401517315 q loose (importedModules p.main.body) Xt true s.abs)) = fun _ => some (true, openGood q loose)) :
    LeftO p q loose Xt (Hook.obs Hook.none) (Hook.val Hook.none) N := fun w => by
  obtain ⟨⟨h0, gs, d, k, os⟩, e, e'⟩ := Option.map_eq_some_iff.mp (hb w)
  obtain ⟨rfl, rfl, rfl, rfl⟩ : h0 = boot_heap w.params ∧ gs = #[] ∧ d = boot_drawn ∧ k = boot_toks := by simpa using e'
  obtain ⟨z1, z2, z3⟩ : _ ∧ _ ∧ _ := by simpa only [Prod.mk.injEq] using hs w.params
  obtain ⟨s, hr, hl⟩ := Option.map_eq_some_iff.mp (congrFun (h w) os)
  obtain ⟨l1, l2⟩ := Prod.mk.inj hl
  have r := tRun_of hr
  rw [sT0_abs] at r
  unfold openEnds
  rw [e]
  show (topFrom treeTable p w N _).map _ = _
  have t : topFrom treeTable p w N ⟨boot_heap w.params, #[], boot_drawn, boot_toks, os⟩ = some s.abs := by
    unfold topFrom
    dsimp only
    rw [z1, z2, z3, r]
    show (match staticsOk (importedModules p.main.body) (boot_heap w.params) s.abs.heap && namesBound p s.abs.heap && gensDone s.abs && laidKept (boot_heap w.params) s.abs.heap with | true => _ | false => _) = _
    rw [l1]
  rw [t]
  rw [← Fast.te4187177175401517315] at l2
  exact congrArg some (Prod.ext l2 rfl)
theorem left0 : LeftO Challenge.pw_pq0195_01 qv lo Xt0 (Hook.obs Hook.none) (Hook.val Hook.none) 4416 :=
  left_of (boot_open (by kernel_rfl) (by decide) (fun s => by kernel_rfl)) (fun P => by kernel_rfl) (fun w => by kernel_rfl)
end Mine.Internal
open PySem PySem.W PyProof.Rows
set_option maxHeartbeats 8000000 in
theorem PySem.Challenge.cw_pq0195_01_holds : PySem.Challenge.rw_pq0195_01.Holds := by
  w_on
  refine holds_law Mine.Internal.said0 fun said => ?_
  refine holds_open (q := Mine.Internal.qv) (loose := Mine.Internal.lo) (Xt := Mine.Internal.Xt0) (XP := Mine.Internal.XS Mine.Internal.qv Mine.Internal.lv) (Yf := Hook.obs Hook.none) (Ya := Hook.val Hook.none) (YP := Hook.says Hook.none) (N := 4416) Mine.Internal.left0 (Hook.of _) (Hook.keeps _) (fun s e => Mine.Internal.xs_of s (Bool.and_eq_true_iff.mp e).1) Mine.Internal.XS.keeps (by rfl) (by rfl) (by rfl) (fun s e => recFacts_of (Bool.and_eq_true_iff.mp e).2) (by rfl) said (by decide +kernel) ⟨rfl, rfl, rfl, rfl, rfl, by decide +kernel⟩ ?hw ?hc
  case hw => w_witness2
  case hc =>
    intro w s₀ s₁ mg mb G Y fa o pm cd doc dV kV ho hd hcd hD hmg hg args vals as hpre hlay hrd hwl hlo
    k_behind G ho hd hcd hD hmg hpre hlay hrd hwl hlo cd
    rename Top _ _ _ _ _ _ => T'
    rename TopW _ _ _ => W'
    rename LooseAre _ _ _ => V'
    rename Fr _ _ _ _ => F'
    rename Heap.IsList _ _ _ => hL'
    rename IntsAre _ _ => hI'
    rename ¬ (_ < _) => hc'
    obtain ⟨G2, G3, Dw, Bw⟩ := Mine.Internal.top_all T' W' (by
        obtain ⟨v, h1, h2⟩ := V'.val _ (.head _)
        simp only at h1 h2
        cases h2
        exact ⟨_, h1⟩) (by decide +kernel) (by decide +kernel) (by decide +kernel) (by decide +kernel) (by decide +kernel) (by decide +kernel)
    have hlen := hI'.length
    refine wpAny_mono (Mine.Internal.law_body (R := fun f s' => f = .ret (.bool true) ∧ Mine.Internal.Sh _ s' ∧ Mine.Internal.KeepsH s₁.heap s'.heap) G2 G3 Dw Bw Mine.Internal.all_cases ?hc (Mine.Internal.law_ok ?hc rfl rfl rfl rfl rfl) ?Rm F'.ns F'.keep (Mine.Internal.size_none _) rfl ?hl hI' ?hlen (fun s' a b => ⟨rfl, a, b⟩)) (fun f s' h => ?fin) (fun _ _ e => e.elim)
    case hc => kernel_rfl
    case Rm => exact ⟨rfl, by show (1 + claimMargin) + 1 + 61 < 1000; decide, by show 4 + 3 + 8 * 61 + 100 < 9900; decide⟩
    case hl => exact let ⟨o, e, r⟩ := hL'; ⟨o, F'.keep _ _ e, r⟩
    case hlen => omega
    case fin =>
      obtain ⟨rfl, ⟨hh, tk, rfl⟩, kk⟩ := h
      refine ⟨.inl ⟨.bool true, .bool true, [], rfl, fun _ => rfl, ReadsW.bool _, by first | rfl | wrow_post | kernel_rfl, fun _ => ⟨List.nodup_nil, fun _ h => nomatch h⟩⟩, ?_, rfl, hg⟩
      exact kk
