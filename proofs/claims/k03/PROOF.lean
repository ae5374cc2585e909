import PyProof.Rows.All
import Wide.All
import OpenK.AllK
import Wide.FinOn
import HandS.ForMost
import HandS.Walk
import HandS.Zip
import HandS.TupAny
import HandS.Wide
import HandS.Defaults
import HandS.IsInst
import HandS.Gcd
import PySem.Challenge.RW_tripmeans_k03_whole_follows_by_corners_a
import HandS.TupMul
import HandS.RaiseMore
import KE.GoesMore
import KE.GoesZip
import KE.GoesEnum
import HandS.Style
import KE.KStateDown
import Lean
import HandS.Ends
import HandS.More
import HandS.WordsExc
import HandS.Head0
import HandS.Head1
import HandS.Head2
import HandS.Head3
import HandS.HeadEnd
import HandS.HeadHook1
import HandS.HeadHook2
section
set_option Elab.async false
set_option linter.all false
set_option maxRecDepth 100000
set_option maxHeartbeats 2000000
/-! what a reading gives, by a word of the value; a relation of heaps says what may change on the way -/
namespace Tm
open PySem L2
/-- all of H stands in H' -/
def Ex (H H' : Hp) : Prop := ∀ a o, H a = some o → H' a = some o
theorem Ex.refl (H : Hp) : Ex H H := fun _ _ h => h
theorem Ex.trans {H H1 H2 : Hp} (a : Ex H H1) (b : Ex H1 H2) : Ex H H2 := fun x o h => b x o (a x o h)
theorem Ex.new {H : Hp} {p : Addr} {o : HO} (h : H p = none) : Ex H (upd H p o) := fun a u e => by
  rw [upd_ne (ne_of_none e h)]
  exact e
theorem Ex.mut {H H' : Hp} {p : Addr} {o : HO} (e : Ex H H') (h : H p = none) : Ex H (upd H' p o) := fun a u ha => by
  rw [upd_ne (ne_of_none ha h)]
  exact e a u ha
theorem Ex.free {H H' : Hp} {p : Addr} (e : Ex H H') (h : H' p = none) : H p = none := by
  cases h1 : H p with
  | none => rfl
  | some o =>
    rw [e p o h1] at h
    cases h
/-- what may change on the way: the objects of M; what a word may not speak of: those of W, which are dicts or lists; ok: what is kept of them -/
structure Rel where
  M : Addr → Prop
  W : Addr → Prop
  sub : ∀ a, M a → W a
  ok : Hp → Prop
  sep : ∀ H a, ok H → W a → (∃ k, H a = some (.dK k)) ∨ (∃ xs, H a = some (.lst xs)) ∨ ∃ C dx fs, H a = some (.ins C dx fs)
  ext : ∀ H H', Ex H H' → ok H → ok H'
  put : ∀ H p o, ok H → ¬ W p → ok (upd H p o)
def Kp (M : Addr → Prop) (H H' : Hp) : Prop := ∀ a o, H a = some o → ¬ M a → H' a = some o
abbrev Rel.r (R : Rel) : Hp → Hp → Prop := Kp R.M
abbrev Rel.q (R : Rel) : Hp → Hp → Prop := Kp R.W
/-- nothing may change -/
def R0 : Rel := ⟨fun _ => False, fun _ => False, fun _ h => h, fun _ => True, fun _ _ _ h => h.elim, fun _ _ _ _ => trivial, fun _ _ _ _ _ => trivial⟩
/-- the list at D is another's -/
def Rel.wth (R : Rel) (D : Addr) : Rel where
  M a := R.M a
  W a := R.W a ∨ a = D
  sub a h := .inl (R.sub a h)
  ok H := R.ok H ∧ ∃ xs, H D = some (.lst xs)
  sep H a o m := by
    rcases m with m | rfl
    · exact R.sep H a o.1 m
    · exact .inr (.inl o.2)
  ext H H' e o := ⟨R.ext H H' e o.1, o.2.imp fun xs h => e D _ h⟩
  put H p u o m := ⟨R.put H p u o.1 fun z => m (.inl z), o.2.imp fun xs h => by rw [upd_ne fun z => m (.inr z.symm)]; exact h⟩
section
variable {R : Rel} {H H' H1 H2 : Hp}
theorem Rel.refl {M : Addr → Prop} (H : Hp) : Kp M H H := fun _ _ h _ => h
theorem Rel.trans {M : Addr → Prop} (a : Kp M H H1) (b : Kp M H1 H2) : Kp M H H2 := fun x o h n => b x o (a x o h n) n
theorem Rel.ex {M : Addr → Prop} (e : Ex H H') : Kp M H H' := fun a o h _ => e a o h
theorem Rel.rq (e : R.r H H') : R.q H H' := fun a o h n => e a o h fun m => n (R.sub a m)
theorem r0_ex (e : R0.r H H') : Ex H H' := fun a o h => e a o h id
theorem Rel.notW (R : Rel) {a : Addr} (o : R.ok H) (h : H a = none) : ¬ R.W a := fun m => by
  rcases R.sep H a o m with ⟨k, e⟩ | ⟨k, e⟩ | ⟨C, dx, k, e⟩ <;> (rw [h] at e; cases e)
theorem Rel.notM (R : Rel) {a : Addr} (o : R.ok H) (h : H a = none) : ¬ R.M a := fun m => R.notW o h (R.sub a m)
theorem Rel.free {M : Addr → Prop} (e : Kp M H H') {p : Addr} (h : H' p = none) (m : ¬ M p) : H p = none := by
  cases h1 : H p with
  | none => rfl
  | some o =>
    rw [e p o h1 m] at h
    cases h
variable {K : PySem.W.Frag}
theorem mo_tup (e : R.q H H') (o : R.ok H) {a : Addr} {xs : List V} (h : SqT K H a xs) : SqT K H' a xs := by
  have z : ∀ u, H a = some u → (∀ k, u ≠ .dK k) → (∀ k, u ≠ .lst k) → (∀ C dx k, u ≠ .ins C dx k) → H' a = some u := fun u hu h1 h2 h3 => e a u hu fun m => by
    rcases R.sep H a o m with ⟨k, q⟩ | ⟨k, q⟩ | ⟨C, dx, k, q⟩
    · rw [hu] at q; exact h1 k (Option.some.inj q)
    · rw [hu] at q; exact h2 k (Option.some.inj q)
    · rw [hu] at q; exact h3 C dx k (Option.some.inj q)
  rcases h with (h | ⟨u, h⟩) | h
  · exact .inl (.inl (z _ h (fun k q => by cases q) (fun k q => by cases q) (fun _ _ k q => by cases q)))
  · exact .inl (.inr ⟨u, z _ h (fun k q => by cases q) (fun k q => by cases q) (fun _ _ k q => by cases q)⟩)
  · exact .inr h
theorem mo_lst {M : Addr → Prop} (e : Kp M H H') {a : Addr} {xs : List V} (m : ¬ M a) (h : SqL K H a xs) : SqL K H' a xs := by
  rcases h with (h | ⟨u, h⟩) | h
  · exact .inl (.inl (e a _ h m))
  · exact .inl (.inr ⟨u, e a _ h m⟩)
  · exact .inr h
/-- from ahead of a list's making to some time behind it -/
structure Thru (R : Rel) (D : Addr) (H H1 : Hp) : Prop where
  q : (R.wth D).q H H1
  ne : H D = none
  ok : R.ok H
theorem Thru.tup {D : Addr} (t : Thru R D H H1) {a : Addr} {xs : List V} (h : SqT K H a xs) : SqT K H1 a xs := by
  have z : ∀ u, H a = some u → (∀ k, u ≠ .dK k) → (∀ k, u ≠ .lst k) → (∀ C dx k, u ≠ .ins C dx k) → H1 a = some u := fun u hu h1 h2 h3 => t.q a u hu fun m => by
    rcases m with m | rfl
    · rcases R.sep H a t.ok m with ⟨k, q⟩ | ⟨k, q⟩ | ⟨C, dx, k, q⟩
      · rw [hu] at q; exact h1 k (Option.some.inj q)
      · rw [hu] at q; exact h2 k (Option.some.inj q)
      · rw [hu] at q; exact h3 C dx k (Option.some.inj q)
    · rw [t.ne] at hu; cases hu
  rcases h with (h | ⟨u, h⟩) | h
  · exact .inl (.inl (z _ h (fun k q => by cases q) (fun k q => by cases q) (fun _ _ k q => by cases q)))
  · exact .inl (.inr ⟨u, z _ h (fun k q => by cases q) (fun k q => by cases q) (fun _ _ k q => by cases q)⟩)
  · exact .inr h
theorem Thru.at {D : Addr} (t : Thru R D H H1) {a : Addr} {o : HO} (m : ¬ R.W a) (h : H a = some o) : H1 a = some o := t.q a o h fun z => by
  rcases z with z | rfl
  · exact m z
  · rw [t.ne] at h; cases h
theorem Thru.lst {D : Addr} (t : Thru R D H H1) {a : Addr} {xs : List V} (m : ¬ R.W a) (h : SqL K H a xs) : SqL K H1 a xs := by
  rcases h with (h | ⟨u, h⟩) | h
  · exact .inl (.inl (t.at m h))
  · exact .inl (.inr ⟨u, t.at m h⟩)
  · exact .inr h
theorem Thru.ne_of {D : Addr} (t : Thru R D H H1) {a : Addr} {o : HO} (h : H a = some o) : a ≠ D := fun e => by
  rw [e, t.ne] at h; cases h
theorem Thru.back {D : Addr} (t : Thru R D H1 H2) (e : R.r H H1) (o : R.ok H) : Thru R D H H2 :=
  ⟨fun a u h m => t.q a u (e a u h fun z => m (.inl (R.sub a z))) m, Rel.free e t.ne (R.notM t.ok t.ne), o⟩
theorem ex_tup (e : Ex H H') {a : Addr} {xs : List V} (h : SqT K H a xs) : SqT K H' a xs := mo_tup (R := R0) (Rel.ex e) trivial h
theorem ex_lst (e : Ex H H') {a : Addr} {xs : List V} (h : SqL K H a xs) : SqL K H' a xs := mo_lst (M := fun _ => False) (Rel.ex e) id h
theorem sq_of {a : Addr} {xs : List V} (h : H a = some (.lst xs)) : SqL K H a xs := .inl (.inl h)
theorem st_of {a : Addr} {xs : List V} (h : H a = some (.tup xs)) : SqT K H a xs := .inl (.inl h)
end
theorem sz_of {n : Nat} (h : n ≤ 100000) : n ≤ sizeLine := Nat.le_trans h (by decide)
theorem sz_lt {n : Nat} (h : n < 100000) : n < sizeLine := Nat.lt_of_lt_of_le h (by decide)

abbrev Pv := V → Hp → Prop
/-- a word that stays -/
def Mo (R : Rel) (P : Pv) : Prop := ∀ v H H', R.q H H' → R.ok H → P v H → P v H'
def Gv (R : Rel) (te : TE) (σ : L2.St) (H : Hp) (P : Pv) : Prop := ∀ H1, R.r H H1 → R.ok H1 → ∀ Q : VK, (∀ v H2, R.r H1 H2 → R.ok H2 → P v H2 → Q v H2) → te σ H1 Q
def GvT (R : Rel) (tt : TT) (σ : L2.St) (H : Hp) (P : Bool → Prop) : Prop := ∀ H1, R.r H H1 → R.ok H1 → ∀ Q : Bool → Hp → Prop, (∀ b H2, R.r H1 H2 → R.ok H2 → P b → Q b H2) → tt σ H1 Q
def GvA (R : Rel) (ta : TA) (σ : L2.St) (H : Hp) (P : List V → Hp → Prop) : Prop := ∀ H1, R.r H H1 → R.ok H1 → ∀ Q : List V → Hp → Prop, (∀ v H2, R.r H1 H2 → R.ok H2 → P v H2 → Q v H2) → ta σ H1 Q
/-- an operation on values -/
def Rv (R : Rel) (r : R2) (x y : V) (H : Hp) (P : Pv) : Prop := ∀ Q : VK, (∀ v H2, R.r H H2 → R.ok H2 → P v H2 → Q v H2) → r x y H Q
/-- the very value -/
abbrev Is (v : V) : Pv := fun x _ => x = v
section
variable {R : Rel} {K : PySem.W.Frag} {σ : L2.St} {H H' : Hp} {ta tb te tc : TE} {t u : TT} {x y z v : V} {r : R2} {P P' Pa Pb : Pv}
theorem mo_is : Mo R (Is v) := fun _ _ _ _ _ h => h
theorem Gv.go (g : Gv R te σ H P) (o : R.ok H) {Q : VK} (k : ∀ v H2, R.r H H2 → R.ok H2 → P v H2 → Q v H2) : te σ H Q := g H (Rel.refl H) o Q k
theorem Gv.imp (g : Gv R te σ H P) (h : ∀ v H', R.ok H' → P v H' → P' v H') : Gv R te σ H P' := fun H1 e o Q k => g H1 e o Q fun v H2 e2 o2 p => k v H2 e2 o2 (h v H2 o2 p)
theorem Gv.later (g : Gv R te σ H P) (e : R.r H H') : Gv R te σ H' P := fun H1 e1 o Q k => g H1 (Rel.trans e e1) o Q k
theorem gv_var {i : Nat} (h : σ[i]? = some (some v)) (p : ∀ H1, R.r H H1 → R.ok H1 → P v H1) : Gv R (tVar i) σ H P := fun H1 e o Q k => ⟨v, h, k v H1 (Rel.refl _) o (p H1 e o)⟩
theorem gv_varI {i : Nat} (h : σ[i]? = some (some v)) : Gv R (tVar i) σ H (Is v) := gv_var h fun _ _ _ => rfl
theorem gv_c : Gv R (tC v) σ H (Is v) := fun H1 e o Q k => k v H1 (Rel.refl _) o rfl
theorem gv_op (ha : Gv R ta σ H Pa) (hb : Gv R tb σ H Pb) (m : Mo R Pa) (hr : ∀ x y H1, R.r H H1 → R.ok H1 → Pa x H1 → Pb y H1 → Rv R r x y H1 P) : Gv R (tOp r ta tb) σ H P := fun H1 e o Q k =>
  ha H1 e o _ fun x H2 e2 o2 p => hb H2 (Rel.trans e e2) o2 _ fun y H3 e3 o3 q => hr x y H3 (Rel.trans (Rel.trans e e2) e3) o3 (m x H2 H3 (Rel.rq e3) o2 p) q Q fun v H4 e4 o4 s => k v H4 (Rel.trans (Rel.trans e2 e3) e4) o4 s
/-- both values known -/
theorem gv_opI (ha : Gv R ta σ H (Is x)) (hb : Gv R tb σ H (Is y)) (hr : ∀ H1, R.r H H1 → R.ok H1 → Rv R r x y H1 P) : Gv R (tOp r ta tb) σ H P := gv_op ha hb mo_is fun _ _ H1 e o p q => by
  subst p q
  exact hr H1 e o
theorem rv_I0 {g : Int → Int → V} {i j : Int} (o : R.ok H) : Rv R (rI0 g) (.int i) (.int j) H (Is (g i j)) := fun Q k => ⟨i, j, rfl, rfl, k _ H (Rel.refl H) o rfl⟩
theorem rv_I {C : Int → Int → Prop} {g : Int → Int → V} {i j : Int} (o : R.ok H) (c : C i j) : Rv R (rI C g) (.int i) (.int j) H (Is (g i j)) := fun Q k => ⟨i, j, rfl, rfl, c, k _ H (Rel.refl H) o rfl⟩
theorem gv_I0 {g : Int → Int → V} {i j : Int} (ha : Gv R ta σ H (Is (.int i))) (hb : Gv R tb σ H (Is (.int j))) : Gv R (tOp (rI0 g) ta tb) σ H (Is (g i j)) := gv_opI ha hb fun _ _ o => rv_I0 o
theorem gv_I {C : Int → Int → Prop} {g : Int → Int → V} {i j : Int} (ha : Gv R ta σ H (Is (.int i))) (hb : Gv R tb σ H (Is (.int j))) (c : C i j) : Gv R (tOp (rI C g) ta tb) σ H (Is (g i j)) := gv_opI ha hb fun _ _ o => rv_I o c
theorem gv_U {g : Int → V} {i : Int} (ha : Gv R ta σ H (Is (.int i))) : Gv R (tUn (rU g) ta) σ H (Is (g i)) := fun H1 e o Q k => ha H1 e o _ fun x H2 e2 o2 p => ⟨i, p, k _ H2 e2 o2 rfl⟩
/-- ints between -/
def Bt (lo hi : Int) : Pv := fun v _ => ∃ n : Int, v = .int n ∧ lo ≤ n ∧ n ≤ hi
theorem mo_bt {lo hi : Int} : Mo R (Bt lo hi) := fun _ _ _ _ _ h => h
theorem gv_eq (ha : Gv R ta σ H (Is x)) (hb : Gv R tb σ H (Is y)) (h : scal x y = true) : Gv R (tOp rEq ta tb) σ H (Is (.bl (decide (x = y)))) := gv_opI ha hb fun H1 _ o Q k => ⟨h, k _ H1 (Rel.refl _) o rfl⟩
theorem gv_ne (ha : Gv R ta σ H (Is x)) (hb : Gv R tb σ H (Is y)) (h : scal x y = true) : Gv R (tOp rNe ta tb) σ H (Is (.bl (!decide (x = y)))) := gv_opI ha hb fun H1 _ o Q k => ⟨h, k _ H1 (Rel.refl _) o rfl⟩
theorem gt_test {b : Bool} (h : Gv R te σ H (Is (.bl b))) : GvT R (tTest te) σ H (· = b) := fun H1 e o Q k => h H1 e o _ fun x H2 e2 o2 p => ⟨b, p, k b H2 e2 o2 rfl⟩
theorem gt_B {b : Bool} (h : Gv R te σ H (Is (.bl b))) : GvT R (tB te) σ H (· = b) := fun H1 e o Q k => h H1 e o _ fun x H2 e2 o2 p => ⟨b, p, k b H2 e2 o2 rfl⟩
/-- a test whose outcome is not known -/
theorem gt_any (h : Gv R te σ H (fun v _ => ∃ b, v = .bl b)) : GvT R (tTest te) σ H (fun _ => True) := fun H1 e o Q k => h H1 e o _ fun x H2 e2 o2 ⟨b, p⟩ => ⟨b, p, k b H2 e2 o2 trivial⟩
theorem gt_not {b : Bool} (h : GvT R t σ H (· = b)) : GvT R (tNot t) σ H (· = !b) := fun H1 e o Q k => h H1 e o _ fun x H2 e2 o2 p => k _ H2 e2 o2 (by rw [p])
theorem gt_and {a b : Bool} (h1 : GvT R t σ H (· = a)) (h2 : a = true → GvT R u σ H (· = b)) : GvT R (tAnd t u) σ H (· = (a && b)) := fun H1 e o Q k => h1 H1 e o _ fun c H2 e2 o2 p => by
  subst p
  cases c with
  | true =>
    show u σ H2 Q
    exact h2 rfl H2 (Rel.trans e e2) o2 Q fun d H3 e3 o3 q => k d H3 (Rel.trans e2 e3) o3 (by rw [q]; rfl)
  | false =>
    show Q false H2
    exact k _ H2 e2 o2 rfl
theorem gt_or {a b : Bool} (h1 : GvT R t σ H (· = a)) (h2 : a = false → GvT R u σ H (· = b)) : GvT R (tOr t u) σ H (· = (a || b)) := fun H1 e o Q k => h1 H1 e o _ fun c H2 e2 o2 p => by
  subst p
  cases c with
  | true =>
    show Q true H2
    exact k _ H2 e2 o2 rfl
  | false =>
    show u σ H2 Q
    exact h2 rfl H2 (Rel.trans e e2) o2 Q fun d H3 e3 o3 q => k d H3 (Rel.trans e2 e3) o3 (by rw [q]; rfl)
theorem GvT.imp {A B : Bool → Prop} (h : GvT R t σ H A) (i : ∀ b, A b → B b) : GvT R t σ H B := fun H1 e o Q k => h H1 e o Q fun b H2 e2 o2 p => k b H2 e2 o2 (i b p)
theorem gt_is {a b : Bool} (h : GvT R t σ H (· = a)) (e : a = b) : GvT R t σ H (· = b) := by rw [← e]; exact h
theorem gv_is {w : V} (h : Gv R te σ H (Is v)) (e : v = w) : Gv R te σ H (Is w) := by rw [← e]; exact h
theorem gv_andV {a b : Bool} (h1 : Gv R ta σ H (Is (.bl a))) (h2 : a = true → Gv R tb σ H (Is (.bl b))) : Gv R (tAndV ta tb) σ H (Is (.bl (a && b))) := fun H1 e o Q k => h1 H1 e o _ fun x H2 e2 o2 p => ⟨a, p, by
  cases a with
  | true =>
    show tb σ H2 Q
    exact h2 rfl H2 (Rel.trans e e2) o2 Q fun d H3 e3 o3 q => k d H3 (Rel.trans e2 e3) o3 q
  | false =>
    show Q (.bl false) H2
    exact k _ H2 e2 o2 rfl⟩
theorem gv_orV {a b : Bool} (h1 : Gv R ta σ H (Is (.bl a))) (h2 : a = false → Gv R tb σ H (Is (.bl b))) : Gv R (tOrV ta tb) σ H (Is (.bl (a || b))) := fun H1 e o Q k => h1 H1 e o _ fun x H2 e2 o2 p => ⟨a, p, by
  cases a with
  | true =>
    show Q (.bl true) H2
    exact k _ H2 e2 o2 rfl
  | false =>
    show tb σ H2 Q
    exact h2 rfl H2 (Rel.trans e e2) o2 Q fun d H3 e3 o3 q => k d H3 (Rel.trans e2 e3) o3 q⟩
theorem gv_notV {a : Bool} (h1 : Gv R ta σ H (Is (.bl a))) : Gv R (tNotV ta) σ H (Is (.bl (!a))) := fun H1 e o Q k => h1 H1 e o _ fun x H2 e2 o2 p => ⟨a, p, k _ H2 e2 o2 rfl⟩
theorem gv_if {A : Bool → Prop} (h : GvT R t σ H A) (h1 : A true → Gv R ta σ H P) (h2 : A false → Gv R tb σ H P) : Gv R (tIf t ta tb) σ H P := fun H1 e o Q k => h H1 e o _ fun c H2 e2 o2 p => by
  cases c with
  | true =>
    show ta σ H2 Q
    exact h1 p H2 (Rel.trans e e2) o2 Q fun d H3 e3 o3 q => k d H3 (Rel.trans e2 e3) o3 q
  | false =>
    show tb σ H2 Q
    exact h2 p H2 (Rel.trans e e2) o2 Q fun d H3 e3 o3 q => k d H3 (Rel.trans e2 e3) o3 q
/-! arguments -/
theorem ga_nil : GvA R tNil σ H (fun vs _ => vs = []) := fun H1 e o Q k => k _ H1 (Rel.refl _) o rfl
theorem ga_cons {tr : TA} {P2 : List V → Hp → Prop} (ha : Gv R ta σ H P) (m : Mo R P) (hr : GvA R tr σ H P2) : GvA R (tCons ta tr) σ H (fun vs H' => ∃ v ws, vs = v :: ws ∧ P v H' ∧ P2 ws H') := fun H1 e o Q k =>
  ha H1 e o _ fun v H2 e2 o2 p => hr H2 (Rel.trans e e2) o2 _ fun ws H3 e3 o3 q => k _ H3 (Rel.trans e2 e3) o3 ⟨v, ws, rfl, m v H2 H3 (Rel.rq e3) o2 p, q⟩
theorem ga_1 (ha : Gv R ta σ H P) : GvA R (tCons ta tNil) σ H (fun vs H' => ∃ v, vs = [v] ∧ P v H') := fun H1 e o Q k =>
  ha H1 e o _ fun v H2 e2 o2 p => k _ H2 e2 o2 ⟨v, rfl, p⟩
theorem ga_2 (ha : Gv R ta σ H Pa) (m : Mo R Pa) (hb : Gv R tb σ H Pb) : GvA R (tCons ta (tCons tb tNil)) σ H (fun vs H' => ∃ v w, vs = [v, w] ∧ Pa v H' ∧ Pb w H') := fun H1 e o Q k =>
  ha H1 e o _ fun v H2 e2 o2 p => hb H2 (Rel.trans e e2) o2 _ fun w H3 e3 o3 q => k _ H3 (Rel.trans e2 e3) o3 ⟨v, w, rfl, m v H2 H3 (Rel.rq e3) o2 p, q⟩
/-- known values -/
theorem ga_n : GvA R tNil σ H (fun vs _ => vs = []) := ga_nil
theorem ga_k {tr : TA} {ws : List V} (ha : Gv R ta σ H (Is v)) (hr : GvA R tr σ H (fun vs _ => vs = ws)) : GvA R (tCons ta tr) σ H (fun vs _ => vs = v :: ws) := fun H1 e o Q k =>
  ha H1 e o _ fun v H2 e2 o2 p => hr H2 (Rel.trans e e2) o2 _ fun ws H3 e3 o3 q => k _ H3 (Rel.trans e2 e3) o3 (by rw [p, q])
/-- a call of a built-in by values -/
theorem gv_cb {ta : TA} {rc : List V → Hp → VK → Prop} {A : List V → Hp → Prop} (ha : GvA R ta σ H A) (hr : ∀ vs H1, R.r H H1 → R.ok H1 → A vs H1 → ∀ Q : VK, (∀ v H2, R.r H1 H2 → R.ok H2 → P v H2 → Q v H2) → rc vs H1 Q) : Gv R (tCB rc ta) σ H P := fun H1 e o Q k =>
  ha H1 e o _ fun vs H2 e2 o2 p => hr vs H2 (Rel.trans e e2) o2 p Q fun v H3 e3 o3 q => k v H3 (Rel.trans e2 e3) o3 q
/-! new objects -/
/-- a new tuple of known contents -/
theorem gv_tup {ta : TA} {A : List V → Hp → Prop} (ha : GvA R ta σ H A) (hl : ∀ vs H1, A vs H1 → vs.length ≤ 100000) (hp : ∀ vs H1 p, R.r H H1 → R.ok H1 → A vs H1 → H1 p = none → P (.ref p) (upd H1 p (.tup vs))) : Gv R (tTup ta) σ H P := fun H1 e o Q k =>
  ha H1 e o _ fun vs H2 e2 o2 a => ⟨sz_of (hl vs H2 a), fun p np => k _ _ (Rel.trans e2 (Rel.ex (Ex.new np))) (R.ext _ _ (Ex.new np) o2) (hp vs H2 p (Rel.trans e e2) o2 a np)⟩
theorem gv_lst {ta : TA} {A : List V → Hp → Prop} (ha : GvA R ta σ H A) (hl : ∀ vs H1, A vs H1 → vs.length ≤ 100000) (hp : ∀ vs H1 p, R.r H H1 → R.ok H1 → A vs H1 → H1 p = none → P (.ref p) (upd H1 p (.lst vs))) : Gv R (tLst ta) σ H P := fun H1 e o Q k =>
  ha H1 e o _ fun vs H2 e2 o2 a => ⟨sz_of (hl vs H2 a), fun p np => k _ _ (Rel.trans e2 (Rel.ex (Ex.new np))) (R.ext _ _ (Ex.new np) o2) (hp vs H2 p (Rel.trans e e2) o2 a np)⟩
/-! ints in tuples and lists -/
/-- a tuple of these ints -/
def Row (K : PySem.W.Frag) (xs : List Int) : Pv := fun v H => ∃ a, v = .ref a ∧ SqT K H a (xs.map V.int)
/-- a list of these ints, none of those that may change -/
def Lst (R : Rel) (K : PySem.W.Frag) (xs : List Int) : Pv := fun v H => ∃ a, v = .ref a ∧ ¬ R.W a ∧ SqL K H a (xs.map V.int)
/-- a list that was made in a heap in which it was not, and may be changed by whoever made it -/
def New (R : Rel) (xs : List V) : Pv := fun v H => ∃ a, v = .ref a ∧ ¬ R.W a ∧ H a = some (.lst xs)
theorem mo_row {xs : List Int} : Mo R (Row K xs) := fun v H H' e o ⟨a, h1, h2⟩ => ⟨a, h1, mo_tup e o h2⟩
theorem mo_lstI {xs : List Int} : Mo R (Lst R K xs) := fun v H H' e o ⟨a, h1, m, h2⟩ => ⟨a, h1, m, mo_lst e m h2⟩
theorem mo_new {xs : List V} : Mo R (New R xs) := fun v H H' e o ⟨a, h1, m, h2⟩ => ⟨a, h1, m, e a _ h2 m⟩
theorem New.lst {xs : List Int} (h : New R (xs.map V.int) v H) : Lst R K xs v H := by
  obtain ⟨a, h1, m, h2⟩ := h
  exact ⟨a, h1, m, sq_of h2⟩
/-- an item of a tuple of ints -/
theorem gv_ixR {xs : List Int} {i : Int} {n : Int} (ha : Gv R ta σ H (Row K xs)) (hb : Gv R tb σ H (Is (.int i))) (h : atI (xs.map V.int) i = some (.int n)) : Gv R (tOp (rIxT K) ta tb) σ H (Is (.int n)) :=
  gv_op ha hb mo_row fun x y H1 e o ⟨a, h1, h2⟩ q Q k => ⟨a, _, i, _, h1, q, h2, h, k _ H1 (Rel.refl _) o rfl⟩
theorem gv_ixL {xs : List Int} {i : Int} {n : Int} (ha : Gv R ta σ H (Lst R K xs)) (hb : Gv R tb σ H (Is (.int i))) (h : atI (xs.map V.int) i = some (.int n)) : Gv R (tOp (rIxL K) ta tb) σ H (Is (.int n)) :=
  gv_op ha hb mo_lstI fun x y H1 e o ⟨a, h1, _, h2⟩ q Q k => ⟨a, _, i, _, h1, q, h2, h, k _ H1 (Rel.refl _) o rfl⟩
end
/-! what is walked, comprehensions -/
section
variable {R : Rel} {K : PySem.W.Frag} {σ : L2.St} {H H' : Hp} {ta tb te tl : TE} {t u : TT} {x y z v : V} {P : Pv} {wi : TI} {g : TG}
/-- n turns of Y -/
def GvIt (R : Rel) (wi : TI) (σ : L2.St) (H : Hp) (n : Nat) (Y : Nat → Hp → V → Hp → Prop) : Prop := ∀ H1, R.r H H1 → R.ok H1 → ∀ Q : It → Hp → Prop,
  (∀ J H2 G, R.r H1 H2 → R.ok H2 → Walk J n G Y → (∀ H3, R.r H2 H3 → R.ok H3 → G H3) → (∀ D H3, Thru R D H2 H3 → G H3) → Q J H2) → wi σ H1 Q
theorem gi_tup {xs : List V} (h : Gv R tl σ H (fun v H => ∃ a, v = .ref a ∧ SqT K H a xs)) : GvIt R (iTup K tl) σ H xs.length (YAt xs) := fun H1 e o Q k => h H1 e o _ fun v H2 e2 o2 ⟨a, h1, h2⟩ =>
  ⟨a, h1, ⟨xs, h2⟩, k _ H2 (fun H => SqT K H a xs) e2 o2 walk_tup (fun H3 e3 o3 => mo_tup (Rel.rq e3) o2 h2) fun D H3 t => t.tup h2⟩
theorem gi_lst {xs : List V} (h : Gv R tl σ H (fun v H => ∃ a, v = .ref a ∧ ¬ R.W a ∧ SqL K H a xs)) : GvIt R (iList K tl) σ H xs.length (YAt xs) := fun H1 e o Q k => h H1 e o _ fun v H2 e2 o2 ⟨a, h1, m, h2⟩ =>
  ⟨a, h1, ⟨xs, h2⟩, k _ H2 (fun H => SqL K H a xs) e2 o2 walk_list (fun H3 e3 o3 => mo_lst (Rel.rq e3) m h2) fun D H3 t => t.lst m h2⟩
theorem gi_rng1 {ta : TA} {n : Int} (h : GvA R ta σ H (fun vs _ => vs = [.int n])) (hn : -100000 ≤ n ∧ n ≤ 100000) : GvIt R (iRng1 ta) σ H n.toNat (YFn fun i => .int (0 + i)) := fun H1 e o Q k => h H1 e o _ fun vs H2 e2 o2 p =>
  ⟨n, p, by omega, by omega, k _ H2 (fun _ => True) e2 o2 walk_range (fun _ _ _ => trivial) fun _ _ _ => trivial⟩
theorem gi_rng2 {ta : TA} {lo n : Int} (h : GvA R ta σ H (fun vs _ => vs = [.int lo, .int n])) (hl : -100000 ≤ lo ∧ lo ≤ 100000) (hn : -100000 ≤ n ∧ n ≤ 100000) : GvIt R (iRng2 ta) σ H (n - lo).toNat (YFn fun i => .int (lo + i)) := fun H1 e o Q k => h H1 e o _ fun vs H2 e2 o2 p =>
  ⟨lo, n, p, by omega, k _ H2 (fun _ => True) e2 o2 walk_range (fun _ _ _ => trivial) fun _ _ _ => trivial⟩
/-- which of n turns give -/
def idx (f : Nat → Bool) (n : Nat) : List Nat := (List.range n).filter f
theorem idx_yes {n : Nat} {f : Nat → Bool} (h : f n = true) : idx f (n + 1) = idx f n ++ [n] := by
  unfold idx
  rw [List.range_succ, List.filter_append, List.filter_cons, if_pos h] <;> rfl
theorem idx_no {n : Nat} {f : Nat → Bool} (h : f n = false) : idx f (n + 1) = idx f n := by
  unfold idx
  rw [List.range_succ, List.filter_append, List.filter_cons, if_neg (by rw [h]; decide)]
  simp
theorem idx_len (f : Nat → Bool) (n : Nat) : (idx f n).length ≤ n := by
  unfold idx
  have h := List.length_filter_le f (List.range n)
  rw [List.length_range] at h
  exact h
theorem idx_all {f : Nat → Bool} {n : Nat} (h : ∀ i, i < n → f i = true) : idx f n = List.range n := by
  unfold idx
  exact List.filter_eq_self.mpr fun i hi => h i (List.mem_range.mp hi)
/-- items by words -/
def Fits (Pe : Nat → Pv) (is : List Nat) (ys : List V) (H : Hp) : Prop := ys.length = is.length ∧ ∀ (k i : Nat) (y : V), is[k]? = some i → ys[k]? = some y → Pe i y H
theorem fits_nil {Pe : Nat → Pv} : Fits Pe [] [] H := ⟨rfl, fun k i y h => by simp at h⟩
theorem fits_snoc {Pe : Nat → Pv} {is : List Nat} {ys : List V} {i : Nat} (h : Fits Pe is ys H) (p : Pe i y H) : Fits Pe (is ++ [i]) (ys ++ [y]) H := by
  refine ⟨by simp [h.1], fun k j z h1 h2 => ?_⟩
  by_cases hk : k < is.length
  · rw [List.getElem?_append_left hk] at h1
    rw [List.getElem?_append_left (h.1 ▸ hk)] at h2
    exact h.2 k j z h1 h2
  · rw [List.getElem?_append_right (by omega)] at h1
    rw [List.getElem?_append_right (by rw [h.1]; omega), h.1] at h2
    have e : k - is.length = 0 := by
      cases q : k - is.length with
      | zero => rfl
      | succ m => rw [q] at h1; simp at h1
    rw [e] at h1 h2
    have e1 : i = j := Option.some.inj h1
    have e2 : y = z := Option.some.inj h2
    rw [← e1, ← e2]
    exact p
theorem fits_mono {Pe : Nat → Pv} {is : List Nat} {ys : List V} (h : Fits Pe is ys H) (m : ∀ i y, Pe i y H → Pe i y H') : Fits Pe is ys H' := ⟨h.1, fun k i y h1 h2 => m i y (h.2 k i y h1 h2)⟩
/-- a comprehension: f tells which turns give, Pe what -/
theorem gv_lc {tt : TT} {vs : List Nat} {n : Nat} {Y : Nat → Hp → V → Hp → Prop} (f : Nat → Bool) (Pe : Rel → Nat → Pv) (hi : GvIt R wi σ H n Y) (hn : n ≤ 40000) (o0 : R.ok H) (mo : ∀ D i, Mo (R.wth D) (Pe (R.wth D) i))
    (hs : ∀ D i x H1 H2, i < n → Thru R D H H1 → (R.wth D).ok H1 → Y i H1 x H2 → ∃ σ2, (∀ Q : L2.St → Hp → Prop, Q σ2 H2 → g x (wipe σ vs) H2 Q) ∧ (R.wth D).r H1 H2 ∧ (R.wth D).ok H2 ∧ wipe σ2 vs = wipe σ vs ∧ GvT (R.wth D) tt σ2 H2 (· = f i) ∧ (f i = true → Gv (R.wth D) te σ2 H2 (Pe (R.wth D) i))) :
    Gv R (tLc wi g tt te vs) σ H (fun v H' => ∃ D ys, v = .ref D ∧ ¬ R.W D ∧ H' D = some (.lst ys) ∧ Fits (Pe (R.wth D)) (idx f n) ys H') := fun H1 e o Q k => hi H1 e o _ fun J H2 G e2 o2 wk g1 g2 D hD => by
  have nW : ¬ R.W D := R.notW o2 hD
  have nD : ¬ R.M D := R.notM o2 hD
  have d0 : (R.wth D).ok (upd H2 D (.lst [])) := ⟨R.put _ _ _ o2 nW, [], upd_same⟩
  have t0 : ∀ H3, (R.wth D).q (upd H2 D (.lst [])) H3 → Thru R D H2 H3 := fun H3 z => ⟨fun a u h m => z a u (by rw [upd_ne fun q => m (.inr q)]; exact h) m, hD, o2⟩
  -- across the list's growth
  have grow : ∀ H3 zs, (R.wth D).ok H3 → (R.wth D).q H3 (upd H3 D (.lst zs)) ∧ (R.wth D).ok (upd H3 D (.lst zs)) := fun H3 zs o3 =>
    ⟨fun a u h m => by rw [upd_ne fun q => m (.inr q)]; exact h, R.put _ _ _ o3.1 nW, zs, upd_same⟩
  refine lc_it wk (fun i H3 => (∀ a u, H2 a = some u → ¬ R.M a → H3 a = some u) ∧ (R.wth D).ok H3 ∧ ∃ ys, H3 D = some (.lst ys) ∧ Fits (Pe (R.wth D)) (idx f i) ys H3) ⟨fun a u h m => ?_, d0, [], upd_same, fits_nil⟩ (fun i H3 _ p => g2 D H3 ⟨fun a u h m => p.1 a u h fun z => m (.inl (R.sub a z)), hD, o2⟩) (fun i x H3 H4 hi p y => ?_) (fun H3 p => ?_)
  · rw [upd_ne (ne_of_none h hD)]
    exact h
  · obtain ⟨p1, p2, ys, p3, p4⟩ := p
    have th : Thru R D H H3 := (show Thru R D H2 H3 from ⟨fun a u h m => p1 a u h fun z => m (.inl (R.sub a z)), hD, o2⟩).back (Rel.trans e e2) o0
    obtain ⟨σ2, a1, a2, a3, a4, a5, a6⟩ := hs D i x H3 H4 hi th p2 y
    refine a1 _ ⟨a4, a5 H4 (Rel.refl _) a3 _ fun b H5 e5 o5 hb => ?_⟩
    have r5 : (R.wth D).r H3 H5 := Rel.trans a2 e5
    subst hb
    cases hf : f i with
    | true =>
      show te σ2 H5 _
      refine a6 hf H5 e5 o5 _ fun y H6 e6 o6 py => ?_
      have r6 : (R.wth D).r H3 H6 := Rel.trans r5 e6
      have hy6 : H6 D = some (.lst ys) := r6 D _ p3 nD
      have ly : ys.length < 40000 := by
        have := idx_len f i
        rw [p4.1]
        omega
      obtain ⟨gq, go⟩ := grow H6 (ys ++ [y]) o6
      refine ⟨ys, hy6, sz_lt (by omega), fun a u h m => ?_, go, ys ++ [y], upd_same, ?_⟩
      · rw [upd_ne (ne_of_none h hD)]
        exact r6 a u (p1 a u h m) m
      · rw [idx_yes hf]
        exact fits_snoc (fits_mono p4 fun j z pz => mo D j z _ _ gq o6 (mo D j z _ _ (Rel.rq r6) p2 pz)) (mo D i y _ _ gq o6 py)
    | false =>
      show _ ∧ _
      refine ⟨fun a u h m => r5 a u (p1 a u h m) m, o5, ys, r5 D _ p3 nD, ?_⟩
      rw [idx_no hf]
      exact fits_mono p4 fun j z pz => mo D j z _ _ (Rel.rq r5) p2 pz
  · obtain ⟨p1, p2, ys, p3, p4⟩ := p
    exact k _ H3 (Rel.trans e2 p1) p2.1 ⟨D, ys, rfl, nW, p3, p4⟩
theorem gt_yes {σ : L2.St} {H : Hp} : GvT R tYes σ H (· = true) := fun H1 e o Q k => k true H1 (Rel.refl _) o rfl
/-- over the items of xs, a name for each -/
theorem gv_lcN {tt : TT} {vs : List Nat} {xs : List V} {j : Nat} (f : Nat → Bool) (Pe : Rel → Nat → Pv) (hi : GvIt R wi σ H xs.length (YAt xs)) (hn : xs.length ≤ 40000) (o0 : R.ok H) (mo : ∀ D i, Mo (R.wth D) (Pe (R.wth D) i)) (hw : ∀ x, wipe ((wipe σ vs).set j (some x)) vs = wipe σ vs)
    (hs : ∀ D i x H1, xs[i]? = some x → Thru R D H H1 → (R.wth D).ok H1 → GvT (R.wth D) tt ((wipe σ vs).set j (some x)) H1 (· = f i) ∧ (f i = true → Gv (R.wth D) te ((wipe σ vs).set j (some x)) H1 (Pe (R.wth D) i))) :
    Gv R (tLc wi (gName j) tt te vs) σ H (fun v H' => ∃ D ys, v = .ref D ∧ ¬ R.W D ∧ H' D = some (.lst ys) ∧ Fits (Pe (R.wth D)) (idx f xs.length) ys H') :=
  gv_lc f Pe hi hn o0 mo fun D i x H1 H2 hi t o y => by
    obtain ⟨rfl, hx⟩ := y
    obtain ⟨h1, h2⟩ := hs D i x H2 hx t o
    exact ⟨_, fun Q q => q, Rel.refl _, o, hw x, h1, h2⟩
/-- over f i -/
theorem gv_lcF {tt : TT} {vs : List Nat} {n : Nat} {h : Nat → V} {j : Nat} (f : Nat → Bool) (Pe : Rel → Nat → Pv) (hi : GvIt R wi σ H n (YFn h)) (hn : n ≤ 40000) (o0 : R.ok H) (mo : ∀ D i, Mo (R.wth D) (Pe (R.wth D) i)) (hw : ∀ x, wipe ((wipe σ vs).set j (some x)) vs = wipe σ vs)
    (hs : ∀ D i H1, i < n → Thru R D H H1 → (R.wth D).ok H1 → GvT (R.wth D) tt ((wipe σ vs).set j (some (h i))) H1 (· = f i) ∧ (f i = true → Gv (R.wth D) te ((wipe σ vs).set j (some (h i))) H1 (Pe (R.wth D) i))) :
    Gv R (tLc wi (gName j) tt te vs) σ H (fun v H' => ∃ D ys, v = .ref D ∧ ¬ R.W D ∧ H' D = some (.lst ys) ∧ Fits (Pe (R.wth D)) (idx f n) ys H') :=
  gv_lc f Pe hi hn o0 mo fun D i x H1 H2 hi t o y => by
    obtain ⟨rfl, rfl⟩ := y
    obtain ⟨h1, h2⟩ := hs D i H2 hi t o
    exact ⟨_, fun Q q => q, Rel.refl _, o, hw _, h1, h2⟩
/-- known items: the list of the values -/
theorem fits_is {h : Nat → V} {is : List Nat} {ys : List V} {H : Hp} (p : Fits (fun i => Is (h i)) is ys H) : ys = is.map h := by
  refine List.ext_getElem? fun k => ?_
  rw [List.getElem?_map]
  by_cases hk : k < is.length
  · have h2 : k < ys.length := by rw [p.1]; exact hk
    rw [List.getElem?_eq_getElem hk, List.getElem?_eq_getElem h2]
    exact congrArg some (p.2 k _ _ (List.getElem?_eq_getElem hk) (List.getElem?_eq_getElem h2))
  · have e := p.1
    rw [List.getElem?_eq_none (by omega), List.getElem?_eq_none (by omega)]
    rfl
/-- .. as a new list -/
theorem gv_new {tt : TT} {vs : List Nat} {f : Nat → Bool} {n : Nat} {h : Nat → V} (p : Gv R (tLc wi g tt te vs) σ H (fun v H' => ∃ D ys, v = .ref D ∧ ¬ R.W D ∧ H' D = some (.lst ys) ∧ Fits (fun i => Is (h i)) (idx f n) ys H')) :
    Gv R (tLc wi g tt te vs) σ H (New R ((idx f n).map h)) := p.imp fun v H' o ⟨D, ys, h1, h2, h3, h4⟩ => ⟨D, h1, h2, by rw [h3, fits_is h4]⟩
/-- a for -/
theorem s_for {tb : TS} {D : Ends} {n : Nat} {Y : Nat → Hp → V → Hp → Prop} (hi : GvIt R wi σ H n Y) (o : R.ok H) (Pv : Nat → L2.St → Hp → Prop) (h0 : ∀ H1, R.r H H1 → R.ok H1 → Pv 0 σ H1)
    (hs : ∀ i x σ' H' H'', i < n → R.r H H' → R.ok H' → Pv i σ' H' → Y i H' x H'' → g x σ' H'' fun σ2 H2 => tb { D with nx := fun σ3 H3 => R.r H' H3 ∧ R.ok H3 ∧ Pv (i + 1) σ3 H3, ct := fun σ3 H3 => R.r H' H3 ∧ R.ok H3 ∧ Pv (i + 1) σ3 H3, bk := D.nx } σ2 H2)
    (hd : ∀ σ' H', R.r H H' → R.ok H' → Pv n σ' H' → D.nx σ' H') : tFor wi g tb D σ H := hi H (Rel.refl H) o _ fun J H1 G e1 o1 wk g1 _ => by
  refine ⟨fun i m σ' H' => m = n - i ∧ i ≤ n ∧ R.r H1 H' ∧ R.ok H' ∧ Pv i σ' H', ⟨n, by simp, Nat.zero_le _, Rel.refl _, o1, h0 H1 e1 o1⟩, ?_⟩
  rintro i m σ' H' ⟨rfl, hi, r, o', p⟩
  have q := g1 H' r o'
  by_cases hlt : i < n
  · refine .inr ⟨wk.goes i H' hlt q, fun σ3 H3 => R.r H' H3 ∧ R.ok H3 ∧ Pv (i + 1) σ3 H3, fun σ3 H3 ⟨a, b, c⟩ => ⟨n - (i + 1), by omega, rfl, hlt, Rel.trans r a, b, c⟩, fun x H'' y => hs i x σ' H' H'' hlt (Rel.trans e1 r) o' p (wk.yields i H' x H'' hlt q y)⟩
  · have e : i = n := by omega
    subst e
    exact .inl ⟨wk.stops H' q, hd σ' H' (Rel.trans e1 r) o' p⟩
theorem Thru.step {D : Addr} {H H1 H2 : Hp} (t : Thru R D H H1) (e : Ex H1 H2) : Thru R D H H2 := ⟨fun a u h m => e a u (t.q a u h m), t.ne, t.ok⟩
theorem Thru.stepr {D : Addr} {H H1 H2 : Hp} (t : Thru R D H H1) (e : (R.wth D).r H1 H2) : Thru R D H H2 := ⟨fun a u h m => e a u (t.q a u h m) fun z => m (.inl (R.sub a z)), t.ne, t.ok⟩
/-- zip of two tuples -/
theorem walk_zipT {a b : Addr} {xs ys : List V} {n : Nat} (hn : n = min xs.length ys.length) : Walk (RZ.ItzT K a b) n (fun H => SqT K H a xs ∧ SqT K H b ys) (YPair (fun i => xs[i]?) (fun i => ys[i]?)) := by
  subst hn
  refine ⟨fun i _ hi q => ?_, fun _ q => ⟨xs, ys, q.1, q.2, by omega⟩, fun i H v H' _ q y => ?_⟩
  · have h1 : i < xs.length := by omega
    have h2 : i < ys.length := by omega
    exact ⟨xs, ys, xs[i], ys[i], q.1, q.2, by simp [h1], by simp [h2]⟩
  · obtain ⟨T, x, z, h1, h2, h3, h4, h5⟩ := y
    exact ⟨T, x, z, h1, h2, h3, h4 xs q.1, h5 ys q.2⟩
theorem gi_zipT {xs ys : List V} (ha : Gv R ta σ H (fun v H => ∃ a, v = .ref a ∧ SqT K H a xs)) (hb : Gv R tb σ H (fun v H => ∃ a, v = .ref a ∧ SqT K H a ys)) :
    GvIt R (RZ.iZipA K (tCons ta (tCons tb tNil))) σ H (min xs.length ys.length) (YPair (fun i => xs[i]?) (fun i => ys[i]?)) := fun H1 e o Q k => ha H1 e o _ fun v H2 e2 o2 ⟨a, h1, h2⟩ => hb H2 (Rel.trans e e2) o2 _ fun w H3 e3 o3 ⟨b, h3, h4⟩ =>
  ⟨a, b, xs, ys, by rw [h1, h3], .inr ⟨mo_tup (Rel.rq e3) o2 h2, h4, k _ H3 (fun H => SqT K H a xs ∧ SqT K H b ys) (Rel.trans e2 e3) o3 (walk_zipT rfl) (fun H4 e4 o4 => ⟨mo_tup (Rel.rq e4) o3 (mo_tup (Rel.rq e3) o2 h2), mo_tup (Rel.rq e4) o3 h4⟩) fun D H4 t => ⟨t.tup (mo_tup (Rel.rq e3) o2 h2), t.tup h4⟩⟩⟩
/-- over pairs, two names -/
theorem gv_lcP {tt : TT} {vs : List Nat} {n : Nat} {fx fy : Nat → Option V} {i1 i2 : Nat} (f : Nat → Bool) (Pe : Rel → Nat → Pv) (hi : GvIt R wi σ H n (YPair fx fy)) (hn : n ≤ 40000) (o0 : R.ok H) (mo : ∀ D i, Mo (R.wth D) (Pe (R.wth D) i)) (hw : ∀ x y, wipe (((wipe σ vs).set i1 (some x)).set i2 (some y)) vs = wipe σ vs)
    (hs : ∀ D i x y H1, i < n → fx i = some x → fy i = some y → Thru R D H H1 → (R.wth D).ok H1 → GvT (R.wth D) tt (((wipe σ vs).set i1 (some x)).set i2 (some y)) H1 (· = f i) ∧ (f i = true → Gv (R.wth D) te (((wipe σ vs).set i1 (some x)).set i2 (some y)) H1 (Pe (R.wth D) i))) :
    Gv R (tLc wi (gTup K 2 (gCons (gName i1) (gCons (gName i2) gNil))) tt te vs) σ H (fun v H' => ∃ D ys, v = .ref D ∧ ¬ R.W D ∧ H' D = some (.lst ys) ∧ Fits (Pe (R.wth D)) (idx f n) ys H') :=
  gv_lc f Pe hi hn o0 mo fun D i v H1 H2 hi t o y => by
    obtain ⟨T, x, y, rfl, nT, rfl, hx, hy⟩ := y
    have e := Ex.new (o := .tup [x, y]) nT
    obtain ⟨h1, h2⟩ := hs D i x y _ hi hx hy (t.step e) ((R.wth D).ext _ _ e o)
    exact ⟨_, fun Q q => ⟨T, [x, y], rfl, st_of upd_same, rfl, x, [y], rfl, y, [], rfl, rfl, q⟩, Rel.ex e, (R.wth D).ext _ _ e o, hw x y, h1, h2⟩
/-! built-in functions -/
theorem gv_len {n : Int} (ha : Gv R ta σ H (fun v H => ∃ a xs, v = .ref a ∧ (SqL K H a xs ∨ SqT K H a xs) ∧ (xs.length : Int) = n)) :
    Gv R (tCB (fun xs H Q => ∃ p ys, xs = [.ref p] ∧ (SqL K H p ys ∨ SqT K H p ys) ∧ Q (.int ys.length) H) (tCons ta tNil)) σ H (Is (.int n)) := fun H1 e o Q k =>
  ha H1 e o _ fun v H2 e2 o2 ⟨a, xs, h1, h2, h3⟩ => ⟨a, xs, by rw [h1], h2, k _ H2 e2 o2 (by rw [h3])⟩
theorem gv_lenR {xs : List Int} (ha : Gv R ta σ H (Row K xs)) : Gv R (tCB (fun xs H Q => ∃ p ys, xs = [.ref p] ∧ (SqL K H p ys ∨ SqT K H p ys) ∧ Q (.int ys.length) H) (tCons ta tNil)) σ H (Is (.int xs.length)) :=
  gv_len (ha.imp fun v H' o ⟨a, h1, h2⟩ => ⟨a, _, h1, .inr h2, by rw [List.length_map]⟩)
theorem gv_sum {ns : List Int} (ha : Gv R ta σ H (New R (ns.map V.int))) : Gv R (tCB (rSum K) (tCons ta tNil)) σ H (Is (.int ns.sum)) := fun H1 e o Q k =>
  ha H1 e o _ fun v H2 e2 o2 ⟨a, h1, _, h2⟩ => ⟨a, ns, by rw [h1], sq_of h2, k _ H2 e2 o2 rfl⟩
theorem gv_all {bs : List Bool} (ha : Gv R ta σ H (New R (bs.map V.bl))) : Gv R (tCB (rAll K) (tCons ta tNil)) σ H (Is (.bl (bs.all id))) := fun H1 e o Q k =>
  ha H1 e o _ fun v H2 e2 o2 ⟨a, h1, _, h2⟩ => ⟨a, bs, by rw [h1], sq_of h2, k _ H2 e2 o2 rfl⟩
/-- tuple(a new list) -/
theorem gv_tuple {xs : List V} (ha : Gv R ta σ H (New R xs)) : Gv R (tCB (fun xs H Q => ∃ p ys, xs = [.ref p] ∧ ((SqL K H p ys ∧ ∀ l, H l = none → Q (.ref l) (upd H l (.tup ys))) ∨ (SqT K H p ys ∧ Q (.ref p) H))) (tCons ta tNil)) σ H (fun v H => ∃ a, v = .ref a ∧ SqT K H a xs) := fun H1 e o Q k =>
  ha H1 e o _ fun v H2 e2 o2 ⟨a, h1, _, h2⟩ => ⟨a, xs, by rw [h1], .inl ⟨sq_of h2, fun l hl => k _ _ (Rel.trans e2 (Rel.ex (Ex.new hl))) (R.ext _ _ (Ex.new hl) o2) ⟨l, rfl, st_of upd_same⟩⟩⟩
/-! rows -/
/-- items by what they are told to be -/
def Al (Pe : List Int → Pv) (rs : List (List Int)) (vs : List V) (H : Hp) : Prop := vs.length = rs.length ∧ ∀ (i : Nat) (y : V) (r : List Int), vs[i]? = some y → rs[i]? = some r → Pe r y H
def RowsT (K : PySem.W.Frag) (rs : List (List Int)) : Pv := fun v H => ∃ a vs, v = .ref a ∧ SqT K H a vs ∧ Al (Row K) rs vs H
def RowsL (R : Rel) (K : PySem.W.Frag) (rs : List (List Int)) : Pv := fun v H => ∃ a vs, v = .ref a ∧ ¬ R.W a ∧ SqL K H a vs ∧ Al (Row K) rs vs H
theorem al_mono {Pe : List Int → Pv} {rs : List (List Int)} {vs : List V} (h : Al Pe rs vs H) (m : ∀ r y, Pe r y H → Pe r y H') : Al Pe rs vs H' := ⟨h.1, fun i y r h1 h2 => m r y (h.2 i y r h1 h2)⟩
theorem al_row {rs : List (List Int)} {vs : List V} (e : R.q H H') (o : R.ok H) (h : Al (Row K) rs vs H) : Al (Row K) rs vs H' := al_mono h fun r y p => mo_row y H H' e o p
theorem al_thru {D : Addr} {rs : List (List Int)} {vs : List V} (t : Thru R D H H') (h : Al (Row K) rs vs H) : Al (Row K) rs vs H' := al_mono h fun r y ⟨a, h1, h2⟩ => ⟨a, h1, t.tup h2⟩
theorem mo_rowsT {rs : List (List Int)} : Mo R (RowsT K rs) := fun v H H' e o ⟨a, vs, h1, h2, h3⟩ => ⟨a, vs, h1, mo_tup e o h2, al_row e o h3⟩
theorem mo_rowsL {rs : List (List Int)} : Mo R (RowsL R K rs) := fun v H H' e o ⟨a, vs, h1, m, h2, h3⟩ => ⟨a, vs, h1, m, mo_lst e m h2, al_row e o h3⟩
theorem al_fits {n : Nat} {f : Nat → List Int} {ys : List V} (h : Fits (fun i => Row K (f i)) (List.range n) ys H) : Al (Row K) ((List.range n).map f) ys H := by
  refine ⟨by rw [h.1, List.length_map], fun i y r h1 h2 => ?_⟩
  rw [List.getElem?_map] at h2
  cases q : (List.range n)[i]? with
  | none => rw [q] at h2; cases h2
  | some j =>
    rw [q] at h2
    have := h.2 i j y q h1
    rw [← Option.some.inj h2]
    exact this
end
/-! promises -/
/-- G: what is told of the arguments; pre: what they are; post: what comes -/
def PrG {G : Type} (pre : G → List V → Hp → Prop) (post : G → Pv) : Sp := fun vs H Q _ => ∃ g, pre g vs H ∧ ∀ v H', Ex H H' → post g v H' → Q v H'
/-- a def's promise, and how its name is called -/
structure Does (P : Program) (w : World) (K : PySem.W.Frag) (mg : Str → Option Value) (base : Heap) (k : Nat) (x : Str) (ps : List Str) (sp : Sp) : Prop where
  ex : ∃ f fd, FnOk P w K mg base CX0 k f fd ps sp ∧ mg x = some (.ref f) ∧ PySem.W.keepIn K (.ref f) = true ∧ Binds K fd ps []
theorem Does.mono {P : Program} {w : World} {K : PySem.W.Frag} {mg : Str → Option Value} {base : Heap} {j k : Nat} {x : Str} {ps : List Str} {sp : Sp} (D : Does P w K mg base j x ps sp) (h : j ≤ k) : Does P w K mg base k x ps sp := by
  obtain ⟨f, fd, F, r⟩ := D.ex
  exact ⟨f, fd, F.mono h, r⟩
section
variable {X : Cx} {k : Nat} {x : Str} {ps : List Str} {sp : Sp} {p pos : Pos} {e : Expr} {es : List Expr} {t : TA}
theorem pe_do (D : Does X.prog X.w X.K X.mg X.base k x ps sp) (hr : Room k X.A) (hg : Gl X x) (ha : PA X (e :: es) t) (hdb : (x == ("__debug__" : Str)) = false := by decide)
    (hs : starEach (e :: es) X.env = (false, eval e X.env) :: starEach es X.env := by rfl) (hpl : (backTo pos (starEach es X.env)).any (·.1) = false := by rfl) : PE X (.Call (.Name x p) (e :: es) [] pos) (tCall sp [] E0 t) := by
  obtain ⟨f, fd, F, g, kp, b⟩ := D.ex
  exact pe_call F hr hg g kp b .nil pass0 ha hdb hs hpl
end
section
variable {R : Rel} {σ : L2.St} {H : Hp} {G : Type} {pre : G → List V → Hp → Prop} {post : G → Pv} {ta : TA} {A : List V → Hp → Prop} {P : Pv}
/-- a call of a def that changes nothing -/
theorem gv_call {E : XK} (g : G) (ha : GvA R ta σ H A) (hp : ∀ vs H1, R.r H H1 → R.ok H1 → A vs H1 → pre g vs H1) (hq : ∀ v H1, R.r H H1 → R.ok H1 → post g v H1 → P v H1) : Gv R (tCall (PrG pre post) [] E ta) σ H P := fun H1 e o Q k =>
  ha H1 e o _ fun vs H2 e2 o2 a => by
    show PrG pre post (vs ++ []) H2 Q E
    rw [List.append_nil]
    exact ⟨g, hp vs H2 (Rel.trans e e2) o2 a, fun v H3 x q => k v H3 (Rel.trans e2 (Rel.ex x)) (R.ext _ _ x o2) (hq v H3 (Rel.trans (Rel.trans e e2) (Rel.ex x)) (R.ext _ _ x o2) q)⟩
end
end Tm
end
section
set_option Elab.async false
set_option linter.all false
set_option maxRecDepth 100000
set_option maxHeartbeats 2000000
/-! the text by names, what the top has left -/
namespace Tm
open PySem PySem.Spec PyProof.Rows L2
abbrev RW : PySem.W.OpenLaw := PySem.Challenge.rw_tripmeans_k03_whole_follows_by_corners_a
def top (i : Nat) : Stmt := PySem.Challenge.pw_tripmeans_k03_whole_follows_by_corners_a.main.body.getD i (.Pass ⟨0, 0, 0, 0⟩)
abbrev s_T_init : Stmt := inClass (top 7) 0
abbrev s_T_leaving : Stmt := inClass (top 7) 1
abbrev s_T_pivot : Stmt := inClass (top 7) 2
abbrev s_T_less : Stmt := inClass (top 7) 3
abbrev s_T_entering : Stmt := inClass (top 7) 4
abbrev s_solved : Stmt := top 8
abbrev s_is_integer : Stmt := top 11
abbrev s_is_between : Stmt := top 12
abbrev s_is_row_of : Stmt := top 13
abbrev s_are_rows_of : Stmt := top 14
abbrev s_bound_wall : Stmt := top 15
abbrev s_divided : Stmt := top 16
abbrev s_columns_for : Stmt := top 17
abbrev s_paper_of : Stmt := top 18
abbrev s_unit_paper : Stmt := top 19
abbrev s_followed : Stmt := top 20
abbrev s_need_width : Stmt := top 24
abbrev s_need_walls : Stmt := top 25
abbrev s_need_room : Stmt := top 26
abbrev s_need_all : Stmt := top 27
abbrev s_judge_follows : Stmt := top 28
abbrev s_does_follow : Stmt := top 29
abbrev s_L_deck : Stmt := top 31
abbrev s_L_draw : Stmt := top 32
abbrev s_L_pick : Stmt := top 33
abbrev s_L_is_integer : Stmt := top 34
abbrev s_L_is_border : Stmt := top 35
abbrev s_L_value : Stmt := top 36
abbrev s_L_is_point : Stmt := top 37
abbrev s_L_item : Stmt := top 38
abbrev s_L_border : Stmt := top 39
abbrev s_L_borders : Stmt := top 40
abbrev s_L_point : Stmt := top 41
abbrev s_L_toward : Stmt := top 42
abbrev s_L_box : Stmt := top 43
abbrev s_L_fits : Stmt := top 44
abbrev s_L_cut : Stmt := top 45
abbrev s_L_corners : Stmt := top 46
abbrev s_L_mean : Stmt := top 47
abbrev s_L_is_broken : Stmt := top 48
abbrev s_L_is_kept_nearby : Stmt := top 49
abbrev s_L_longer : Stmt := top 50
abbrev s_law : Stmt := top 51
/-- a def of the text, where the top has left it -/
structure DefAt (K : PySem.W.Frag) (mg : Str → Option Value) (x : Str) (st : Stmt) (dvs : List V) : Prop where
  ex : ∃ f fd, FunD K x x (defArgs st) (defBody st) (defScope st) dvs [] f fd ∧ mg x = some (.ref f)
/-- a method of a class of the text -/
structure MetAt (K : PySem.W.Frag) (C : Addr) (q m : Str) (st : Stmt) : Prop where
  ex : ∃ f fd, FunD K m q (defArgs st) (defBody st) (defScope st) [] [] f fd ∧ Meth K C m f
structure MakAt (K : PySem.W.Frag) (C : Addr) (q : Str) (st : Stmt) : Prop where
  ex : ∃ f fd, FunD K "__init__" q (defArgs st) (defBody st) (defScope st) [] [] f fd ∧ Mk K C f
structure Txt (K : PySem.W.Frag) (mg : Str → Option Value) (C : Addr) : Prop where
  solved : DefAt K mg "solved" s_solved []
  is_integer : DefAt K mg "is_integer" s_is_integer []
  is_between : DefAt K mg "is_between" s_is_between []
  is_row_of : DefAt K mg "is_row_of" s_is_row_of []
  are_rows_of : DefAt K mg "are_rows_of" s_are_rows_of [.int 80]
  bound_wall : DefAt K mg "bound_wall" s_bound_wall []
  divided : DefAt K mg "divided" s_divided []
  columns_for : DefAt K mg "columns_for" s_columns_for []
  paper_of : DefAt K mg "paper_of" s_paper_of []
  unit_paper : DefAt K mg "unit_paper" s_unit_paper []
  followed : DefAt K mg "followed" s_followed []
  need_width : DefAt K mg "need_width" s_need_width []
  need_walls : DefAt K mg "need_walls" s_need_walls []
  need_room : DefAt K mg "need_room" s_need_room []
  need_all : DefAt K mg "need_all" s_need_all []
  judge_follows : DefAt K mg "judge_follows" s_judge_follows []
  does_follow : DefAt K mg "does_follow" s_does_follow []
  L_deck : DefAt K mg "_law_deck" s_L_deck []
  L_draw : DefAt K mg "_law_draw" s_L_draw []
  L_pick : DefAt K mg "_law_pick" s_L_pick []
  L_is_integer : DefAt K mg "_law_is_integer" s_L_is_integer []
  L_is_border : DefAt K mg "_law_is_border" s_L_is_border []
  L_value : DefAt K mg "_law_value" s_L_value []
  L_is_point : DefAt K mg "_law_is_point" s_L_is_point []
  L_item : DefAt K mg "_law_item" s_L_item []
  L_border : DefAt K mg "_law_border" s_L_border []
  L_borders : DefAt K mg "_law_borders" s_L_borders []
  L_point : DefAt K mg "_law_point" s_L_point []
  L_toward : DefAt K mg "_law_toward" s_L_toward []
  L_box : DefAt K mg "_law_box" s_L_box []
  L_fits : DefAt K mg "_law_fits" s_L_fits []
  L_cut : DefAt K mg "_law_cut" s_L_cut []
  L_corners : DefAt K mg "_law_corners" s_L_corners []
  L_mean : DefAt K mg "_law_mean" s_L_mean []
  L_is_broken : DefAt K mg "_law_is_broken" s_L_is_broken []
  L_is_kept_nearby : DefAt K mg "_law_is_kept_nearby" s_L_is_kept_nearby []
  L_longer : DefAt K mg "_law_longer" s_L_longer []
  law : DefAt K mg "law" s_law []
  z_len : mg "len" = none
  z_range : mg "range" = none
  z_sum : mg "sum" = none
  z_enumerate : mg "enumerate" = none
  z_zip : mg "zip" = none
  z_isinstance : mg "isinstance" = none
  z_int : mg "int" = none
  z_bool : mg "bool" = none
  z_tuple : mg "tuple" = none
  z_list : mg "list" = none
  z_all : mg "all" = none
  z_max : mg "max" = none
  z_abs : mg "abs" = none
  z_repr : mg "repr" = none
  i_MOST_WALLS : ∃ t, mg "MOST_WALLS" = some (.int 80 t)
  i_LEAST_WIDTH : ∃ t, mg "LEAST_WIDTH" = some (.int 2 t)
  i_MOST_WIDTH : ∃ t, mg "MOST_WIDTH" = some (.int 8 t)
  gcd : mg "gcd" = some (.builtin "math.gcd")
  mgC : mg "Table" = some (.ref C)
  cl : Cls K C
  n_real : NoAttr K C "real"
  n_rows : NoAttr K C "rows"
  n_cost : NoAttr K C "cost"
  n_basis : NoAttr K C "basis"
  n_divisor : NoAttr K C "divisor"
  m_init : MakAt K C "Table.__init__" s_T_init
  m_leaving : MetAt K C "Table.leaving" "leaving" s_T_leaving
  m_pivot : MetAt K C "Table.pivot" "pivot" s_T_pivot
  m_less : MetAt K C "Table.less" "less" s_T_less
  m_entering : MetAt K C "Table.entering" "entering" s_T_entering
section
variable {P : Program} {w : World} {K : PySem.W.Frag} {mg : Str → Option Value} {base : Heap} {C : Addr}
theorem mk_does {x : Str} {st : Stmt} {N ps : List Str} {k : Nat} {sp : Sp} (D : DefAt K mg x st []) (S : FnScope N ps (defScope st))
    (b : ∀ (kV doc pm : Value) (an : Option Addr) (cdv ct : Value) (us : List Value), us.length = ps.length → bindArgs (PySem.W.fnOf x x (defArgs st) (defBody st) (defScope st) .none kV doc pm an cdv ct) ⟨us, []⟩ = pure (ps.zip us))
    (len : ∀ vs H Q E, sp vs H Q E → vs.length = ps.length)
    (hbody : ∀ (f : Addr) (cdv : Value) (A : Around) (outer : List Env) (s : Shared) (H : Hp) (vs : List V) (Q : VK) (E : XK), Room k (A.deeper (envOfC x (defScope st) s.heap.objs.size f cdv)) → sp vs H Q E →
      ∃ t, PSs (cxOf CX0 P w K mg base N x (defScope st) f cdv A outer s H E).nox (defBody st) t ∧ t { nx := fun _ H' => Q .non H', rt := Q } (start N vs) H) : Does P w K mg base (k + 1) x ps sp := by
  obtain ⟨f, fd, F, g⟩ := D.ex
  refine ⟨f, fd, F.ok S len fun cdv A outer s H vs Q E hr h => ?_, g, F.kp, F.bindsN b⟩
  obtain ⟨t, h1, h2⟩ := hbody f cdv A outer s H vs Q E hr h
  exact ⟨t, h1.nox, h2⟩
/-- for promises of the form PrG -/
theorem mk_doesG {x : Str} {st : Stmt} {N ps : List Str} {k : Nat} {G : Type} {pre : G → List V → Hp → Prop} {post : G → Pv} (D : DefAt K mg x st []) (S : FnScope N ps (defScope st))
    (b : ∀ (kV doc pm : Value) (an : Option Addr) (cdv ct : Value) (us : List Value), us.length = ps.length → bindArgs (PySem.W.fnOf x x (defArgs st) (defBody st) (defScope st) .none kV doc pm an cdv ct) ⟨us, []⟩ = pure (ps.zip us))
    (len : ∀ g vs H, pre g vs H → vs.length = ps.length)
    (hbody : ∀ (f : Addr) (cdv : Value) (A : Around) (outer : List Env) (s : Shared) (H : Hp) (vs : List V) (Q : VK) (E : XK) (g : G), Room k (A.deeper (envOfC x (defScope st) s.heap.objs.size f cdv)) → pre g vs H → (∀ v H', Ex H H' → post g v H' → Q v H') →
      ∃ t, PSs (cxOf CX0 P w K mg base N x (defScope st) f cdv A outer s H E).nox (defBody st) t ∧ t { nx := fun _ H' => Q .non H', rt := Q } (start N vs) H) : Does P w K mg base (k + 1) x ps (PrG pre post) :=
  mk_does D S b (fun vs H Q E ⟨g, h, _⟩ => len g vs H h) fun f cdv A outer s H vs Q E hr ⟨g, h, q⟩ => hbody f cdv A outer s H vs Q E g hr h q
/-- a def with defaults, called without them -/
structure DoesD (P : Program) (w : World) (K : PySem.W.Frag) (mg : Str → Option Value) (base : Heap) (k : Nat) (x : Str) (ps : List Str) (dvs : List V) (sp : Sp) : Prop where
  ex : ∃ f fd ds, FnOk P w K mg base CX0 k f fd ps sp ∧ mg x = some (.ref f) ∧ PySem.W.keepIn K (.ref f) = true ∧ Binds K fd ps ds ∧ Vals dvs ds
theorem pe_doD {X : Cx} {k : Nat} {x : Str} {ps : List Str} {dvs : List V} {sp : Sp} {p pos : Pos} {e : Expr} {es : List Expr} {t : TA} (D : DoesD X.prog X.w X.K X.mg X.base k x ps dvs sp) (hr : Room k X.A) (hg : Gl X x) (ha : PA X (e :: es) t) (hdb : (x == ("__debug__" : Str)) = false := by decide)
    (hs : starEach (e :: es) X.env = (false, eval e X.env) :: starEach es X.env := by rfl) (hpl : (backTo pos (starEach es X.env)).any (·.1) = false := by rfl) : PE X (.Call (.Name x p) (e :: es) [] pos) (tCall sp dvs E0 t) := by
  obtain ⟨f, fd, ds, F, g, kp, b, v⟩ := D.ex
  exact pe_call F hr hg g kp b v pass0 ha hdb hs hpl
theorem mk_doesD {x : Str} {st : Stmt} {N ps : List Str} {k : Nat} {dvs : List V} {G : Type} {pre : G → List V → Hp → Prop} {post : G → Pv} (D : DefAt K mg x st dvs) (S : FnScope N ps (defScope st)) (n : Nat) (hd : dvs ≠ []) (hn : n + dvs.length = ps.length)
    (b : ∀ (T : Addr) (kV doc pm : Value) (an : Option Addr) (cdv ct : Value) (us its : List Value), us.length = n → its.length = dvs.length →
      ∃ k, bindArgs (PySem.W.fnOf x x (defArgs st) (defBody st) (defScope st) (.ref T) kV doc pm an cdv ct) ⟨us, []⟩ = seqItems? (.ref T) >>= k ∧ k (some its.toArray) = pure (ps.zip (us ++ its)))
    (len : ∀ g vs H, pre g vs H → vs.length = ps.length)
    (hbody : ∀ (f : Addr) (cdv : Value) (A : Around) (outer : List Env) (s : Shared) (H : Hp) (vs : List V) (Q : VK) (E : XK) (g : G), Room k (A.deeper (envOfC x (defScope st) s.heap.objs.size f cdv)) → pre g vs H → (∀ v H', Ex H H' → post g v H' → Q v H') →
      ∃ t, PSs (cxOf CX0 P w K mg base N x (defScope st) f cdv A outer s H E).nox (defBody st) t ∧ t { nx := fun _ H' => Q .non H', rt := Q } (start N vs) H) : DoesD P w K mg base (k + 1) x ps dvs (PrG pre post) := by
  obtain ⟨f, fd, F, g⟩ := D.ex
  obtain ⟨ds, v, bb⟩ := F.binds1 (ps := ps) n 0 hd hn fun T kV doc pm an cdv ct us its h1 h2 => b T kV doc pm an cdv ct us its h1 h2
  refine ⟨f, fd, ds, F.ok S (fun vs H Q E ⟨g, h, _⟩ => len g vs H h) fun cdv A outer s H vs Q E hr h => ?_, g, F.kp, bb, v⟩
  obtain ⟨g, h, q⟩ := h
  obtain ⟨t, h1, h2⟩ := hbody f cdv A outer s H vs Q E g hr h q
  exact ⟨t, h1.nox, h2⟩
end
end Tm
end
section
set_option Elab.async false
set_option linter.all false
set_option maxRecDepth 100000
set_option maxHeartbeats 2000000
/-! the checks of kinds: is_integer .. need_all -/
namespace Tm
open PySem PySem.Spec PyProof.Rows L2
section
variable {P : Program} {w : World} {K : PySem.W.Frag} {mg : Str → Option Value} {base : Heap} {C : Addr}
theorem tyX_tup {H : Hp} {a : Addr} {xs : List V} (h : SqT K H a xs) : TyX K H (.ref a) (.type "tuple") := by
  rcases h with (h | ⟨u, h⟩) | ⟨o, its, n, h, h2, _⟩
  · exact .base (.tup h)
  · exact .fTuple h
  · exact .kTuple h h2
/-- isinstance(x, T), T a built-in class -/
theorem gv_isi {R : Rel} {σ : L2.St} {H : Hp} {ta : TE} {A : Pv} {t n : String} {b : Bool} (ha : Gv R ta σ H A) (ty : ∀ v H, A v H → TyX K H v (.type t)) (kt : kitB t n = some b) : Gv R (tCB (rIsi K) (tCons ta (tCons (tC (.ty n)) tNil))) σ H (Is (.bl b)) := fun H1 e o Q k =>
  ha H1 e o _ fun v H2 e2 o2 p => ⟨v, .ty n, _, _, b, rfl, .ty n, ty v H2 p, kit_ty kt, k _ H2 e2 o2 rfl⟩
/-! is_integer -/
theorem sc_is_integer : FnScope ["thing"] ["thing"] (defScope s_is_integer) := ⟨rfl, rfl, rfl, by decide +kernel, rfl, by decide +kernel, by decide +kernel⟩
theorem do_is_integer (T : Txt K mg C) : Does P w K mg base 1 "is_integer" ["thing"] (PrG (fun (n : Int) vs _ => vs = [.int n]) fun _ => Is (.bl true)) :=
  mk_doesG T.is_integer sc_is_integer (fun _ _ _ _ _ _ us hl => match us, hl with | [_], _ => rfl) (fun g vs H h => by rw [h]; rfl) fun f cdv A outer s H vs Q E n hr h q => by
    cases h
    refine ⟨_, pss_one (ps_ret (pe_and (pe_callB call_isi (by rfl) T.z_isinstance (by decide +kernel) (pa_cons (pv 0) (pa_cons (pe_bltn (v := .ty "int") (by rfl) T.z_int (by decide +kernel) rfl) pa_nil)))
      (pe_one (pe_not (pe_callB call_isi (by rfl) T.z_isinstance (by decide +kernel) (pa_cons (pv 0) (pa_cons (pe_bltn (v := .ty "bool") (by rfl) T.z_bool (by decide +kernel) rfl) pa_nil))))))), ?_⟩
    refine ⟨_, rfl, _, _, _, _, true, rfl, .ty _, .base (.int n), kit_ty (by decide +kernel), true, rfl, iteT ?_⟩
    exact ⟨_, rfl, _, _, _, _, false, rfl, .ty _, .base (.int n), kit_ty (by decide +kernel), false, rfl, q _ H (Ex.refl H) rfl⟩
/-! is_between -/
theorem sc_is_between : FnScope ["thing", "least", "most"] ["thing", "least", "most"] (defScope s_is_between) := ⟨rfl, rfl, rfl, by decide +kernel, rfl, by decide +kernel, by decide +kernel⟩
theorem do_is_between (T : Txt K mg C) : Does P w K mg base 2 "is_between" ["thing", "least", "most"] (PrG (fun (g : Int × Int × Int) vs _ => vs = [.int g.1, .int g.2.1, .int g.2.2] ∧ g.2.1 ≤ g.1 ∧ g.1 ≤ g.2.2) fun _ => Is (.bl true)) :=
  mk_doesG T.is_between sc_is_between (fun _ _ _ _ _ _ us hl => match us, hl with | [_, _, _], _ => rfl) (fun g vs H h => by rw [h.1]; rfl) fun f cdv A outer s H vs Q E g hr h q => by
    obtain ⟨n, lo, hi⟩ := g
    obtain ⟨rfl, h1, h2⟩ := h
    refine ⟨_, pss_one (ps_ret (pe_and (pe_do (do_is_integer T) hr (by rfl) (pa_cons (pv 0) pa_nil)) (pe_one (pe_chain op_le op_le (pv 1) (pv 0) (pv 2))))), ?_⟩
    refine ⟨_, rfl, n, rfl, fun v H1 e hv => ⟨true, hv, iteT ?_⟩⟩
    refine ⟨_, rfl, _, rfl, _, _, rfl, rfl, true, congrArg V.bl (decide_eq_true (show lo ≤ n from h1)), iteT ⟨_, rfl, _, _, rfl, rfl, ?_⟩⟩
    exact q _ H1 e (congrArg V.bl (decide_eq_true (show n ≤ hi from h2)))
/-! is_row_of -/
theorem sc_is_row_of : FnScope ["width", "thing", "item"] ["width", "thing"] (defScope s_is_row_of) := ⟨rfl, rfl, rfl, by decide +kernel, rfl, by decide +kernel, by decide +kernel⟩
theorem do_is_row_of (T : Txt K mg C) : Does P w K mg base 2 "is_row_of" ["width", "thing"] (PrG (fun (g : Int × List Int) vs H => ∃ v, vs = [.int g.1, v] ∧ Row K g.2 v H ∧ (g.2.length : Int) = g.1 ∧ g.2.length ≤ 1000) fun _ => Is (.bl true)) :=
  mk_doesG T.is_row_of sc_is_row_of (fun _ _ _ _ _ _ us hl => match us, hl with | [_, _], _ => rfl) (fun g vs H h => by obtain ⟨v, rfl, _⟩ := h; rfl) fun f cdv A outer s H vs Q E g hr h q => by
    obtain ⟨wd, r⟩ := g
    obtain ⟨v, rfl, hv, h1, h2⟩ := h
    dsimp only at hv h1 h2
    have nd := (sc_is_row_of).nd
    refine ⟨_, pss_one (ps_ret (pe_and (pe_callB call_isi (by rfl) T.z_isinstance (by decide +kernel) (pa_cons (pv 1) (pa_cons (pe_bltn (v := .ty "tuple") (by rfl) T.z_tuple (by decide +kernel) rfl) pa_nil)))
      (pe_and (pe_cmpR op_eq (pe_callB call_len_seq (by rfl) T.z_len boot_len (pa_cons (pv 1) pa_nil)) (pv 0) (nomark _))
      (pe_one (pe_callB (cr_all rfl) (by rfl) T.z_all (by decide +kernel) (pa_cons (pe_lc (own := [("item", 2)]) (g := gName 2) (tt := tYes) rfl nd (pi_tup (pv 1)) (blkOk_by (N := ["width", "thing", "item"]) (sc := defScope s_is_row_of) (by decide +kernel)) (fun _ _ _ _ _ => pg_name (i := 2) nd rfl (Or.inl rfl)) (fun _ _ _ _ _ => pts_nil)
        (fun _ _ _ _ _ => pe_do (do_is_integer T) hr (by rfl) (pa_cons (pv 2) pa_nil))) pa_nil)))))), ?_⟩
    have gr : ∀ {R : Rel}, R.ok H → Gv R (tVar 1) (start ["width", "thing", "item"] [.int wd, v]) H (Row K r) := fun o0 => gv_var rfl fun H1 e o => mo_row v H H1 (Rel.rq e) o0 hv
    refine Gv.go (R := R0) (P := Is (.bl true)) (gv_is (gv_andV (b := true) (gv_isi (t := "tuple") (b := true) (gr trivial) (fun v H p => by obtain ⟨a, rfl, h⟩ := p; exact tyX_tup h) (by decide +kernel)) fun _ => gv_is (gv_andV (b := true) (gv_is (gv_eq (gv_lenR (gr trivial)) (gv_varI rfl) rfl) (show V.bl (decide (V.int (r.length : Int) = V.int wd)) = .bl true by rw [h1, decide_eq_true rfl])) fun _ => ?_) rfl) rfl) trivial fun v H1 e _ p => q v H1 (r0_ex e) p
    refine gv_is (gv_all (bs := List.replicate r.length true) ?_) (by simp)
    refine Gv.imp (gv_lcN (f := fun _ => true) (Pe := fun _ _ => Is (.bl true)) (gi_tup ((gr trivial).imp fun v H' _ p => p)) (by rw [List.length_map]; exact Nat.le_trans h2 (by decide)) trivial (fun _ _ => mo_is) (fun x => rfl) fun D i x H1 hx t o => ?_) ?_
    · refine ⟨gt_yes, fun _ => ?_⟩
      rw [List.getElem?_map] at hx
      obtain ⟨z, _, rfl⟩ := Option.map_eq_some_iff.mp hx
      exact gv_call z (ga_1 (gv_varI rfl)) (fun vs H2 _ _ ⟨v, e1, e2⟩ => by rw [e1, e2]) fun v H2 _ _ p => p
    · rintro v H' _ ⟨D, ys, h1, h2, h3, h4⟩
      refine ⟨D, h1, h2, ?_⟩
      rw [h3, fits_is (h := fun _ => .bl true) h4, idx_all (fun _ _ => rfl), List.length_map, List.map_replicate]
      simp [List.map_const']
/-! are_rows_of -/
theorem sc_are_rows_of : FnScope ["width", "thing", "most", "row"] ["width", "thing", "most"] (defScope s_are_rows_of) := ⟨rfl, rfl, rfl, by decide +kernel, rfl, by decide +kernel, by decide +kernel⟩
theorem do_are_rows_of (T : Txt K mg C) : DoesD P w K mg base 3 "are_rows_of" ["width", "thing", "most"] [.int 80] (PrG (fun (g : Int × List (List Int)) vs H => ∃ v, vs = [.int g.1, v, .int 80] ∧ RowsT K g.2 v H ∧ (∀ r ∈ g.2, (r.length : Int) = g.1 ∧ r.length ≤ 1000) ∧ g.2.length ≤ 80) fun _ => Is (.bl true)) :=
  mk_doesD T.are_rows_of sc_are_rows_of 2 (by simp) rfl (fun _ _ _ _ _ _ _ us its h1 h2 => match us, its, h1, h2 with | [_, _], [_], _, _ => ⟨_, rfl, rfl⟩) (fun g vs H h => by obtain ⟨v, rfl, _⟩ := h; rfl) fun f cdv A outer s H vs Q E g hr h q => by
    obtain ⟨wd, rs⟩ := g
    obtain ⟨v, rfl, hv, h1, h2⟩ := h
    dsimp only at hv h1 h2
    have nd := (sc_are_rows_of).nd
    refine ⟨_, pss_one (ps_ret (pe_and (pe_callB call_isi (by rfl) T.z_isinstance (by decide +kernel) (pa_cons (pv 1) (pa_cons (pe_bltn (v := .ty "tuple") (by rfl) T.z_tuple (by decide +kernel) rfl) pa_nil)))
      (pe_and (pe_cmpR op_le (pe_callB call_len_seq (by rfl) T.z_len boot_len (pa_cons (pv 1) pa_nil)) (pv 2) (nomark _))
      (pe_one (pe_callB (cr_all rfl) (by rfl) T.z_all (by decide +kernel) (pa_cons (pe_lc (own := [("row", 3)]) (g := gName 3) (tt := tYes) rfl nd (pi_tup (pv 1)) (blkOk_by (N := ["width", "thing", "most", "row"]) (sc := defScope s_are_rows_of) (by decide +kernel)) (fun _ _ _ _ _ => pg_name (i := 3) nd rfl (Or.inl rfl)) (fun _ _ _ _ _ => pts_nil)
        (fun _ _ _ _ _ => pe_do (do_is_row_of T) hr (by rfl) (pa_cons (pv 0) (pa_cons (pv 3) pa_nil)))) pa_nil)))))), ?_⟩
    obtain ⟨a, ys, rfl, hq, al⟩ := id hv
    have gr : ∀ {R : Rel}, R.ok H → Gv R (tVar 1) (start ["width", "thing", "most", "row"] [.int wd, .ref a, .int 80]) H (fun v H => ∃ a, v = .ref a ∧ SqT K H a ys) := fun o0 => gv_var rfl fun H1 e o => ⟨a, rfl, mo_tup (Rel.rq e) o0 hq⟩
    refine Gv.go (R := R0) (P := Is (.bl true)) (gv_is (gv_andV (b := true) (gv_isi (t := "tuple") (b := true) (gr trivial) (fun v H p => by obtain ⟨a, rfl, h⟩ := p; exact tyX_tup h) (by decide +kernel)) fun _ => gv_is (gv_andV (b := true) (gv_is (gv_I0 (g := fun i j => .bl (decide (i ≤ j))) (gv_len (n := (rs.length : Int)) ((gr trivial).imp fun v H' _ ⟨a, e1, e2⟩ => ⟨a, ys, e1, .inr e2, by rw [al.1]⟩)) (gv_varI rfl)) (show V.bl (decide ((rs.length : Int) ≤ 80)) = .bl true by rw [decide_eq_true (by omega)])) fun _ => ?_) rfl) rfl) trivial fun v H1 e _ p => q v H1 (r0_ex e) p
    refine gv_is (gv_all (bs := List.replicate ys.length true) ?_) (by simp)
    refine Gv.imp (gv_lcN (f := fun _ => true) (Pe := fun _ _ => Is (.bl true)) (gi_tup (gr trivial)) (by rw [al.1]; exact Nat.le_trans h2 (by decide)) trivial (fun _ _ => mo_is) (fun x => rfl) fun D i x H1 hx t o => ?_) ?_
    · refine ⟨gt_yes, fun _ => ?_⟩
      have hi : i < rs.length := by rw [← al.1]; exact (List.getElem?_eq_some_iff.mp hx).1
      have hr := al.2 i x rs[i] hx (List.getElem?_eq_getElem hi)
      obtain ⟨h3, h4⟩ := h1 rs[i] (List.getElem_mem hi)
      obtain ⟨b, rfl, hb⟩ := hr
      exact gv_call (wd, rs[i]) (ga_2 (gv_varI rfl) mo_is (gv_var (P := Row K rs[i]) rfl fun H2 e _ => ⟨b, rfl, mo_tup (Rel.rq e) o (t.tup hb)⟩)) (fun vs H2 _ _ ⟨v, w, e1, e2, e3⟩ => ⟨w, by rw [e1, e2], e3, h3, h4⟩) fun v H2 _ _ p => p
    · rintro v H' _ ⟨D, zs, h1, h2, h3, h4⟩
      refine ⟨D, h1, h2, ?_⟩
      rw [h3, fits_is (h := fun _ => .bl true) h4, idx_all (fun _ _ => rfl), List.map_replicate]
      simp [List.map_const']
/-! need_width .. need_all: nothing is raised -/
abbrev preRows (rs : List (List Int)) (wd : Int) : Prop := (∀ r ∈ rs, (r.length : Int) = wd ∧ r.length ≤ 1000) ∧ rs.length ≤ 80
theorem sc_need_width : FnScope ["width"] ["width"] (defScope s_need_width) := ⟨rfl, rfl, rfl, by decide +kernel, rfl, by decide +kernel, by decide +kernel⟩
theorem do_need_width (T : Txt K mg C) : Does P w K mg base 3 "need_width" ["width"] (PrG (fun (g : Int) vs _ => vs = [.int g] ∧ 2 ≤ g ∧ g ≤ 8) fun _ => Is .non) :=
  mk_doesG T.need_width sc_need_width (fun _ _ _ _ _ _ us hl => match us, hl with | [_], _ => rfl) (fun g vs H h => by rw [h.1]; rfl) fun f cdv A outer s H vs Q E g hr h q => by
    obtain ⟨rfl, h1, h2⟩ := h
    obtain ⟨t1, m1⟩ := T.i_LEAST_WIDTH
    obtain ⟨t2, m2⟩ := T.i_MOST_WIDTH
    refine ⟨_, pss_one (ps_if (pt_not (pt_val (pe_do (do_is_between T) hr (by rfl) (pa_cons (pv 0) (pa_cons (pe_glob (v := .int 2) (by rfl) m1 ⟨_, rfl⟩) (pa_cons (pe_glob (v := .int 8) (by rfl) m2 ⟨_, rfl⟩) pa_nil)))))) pss_never pss_nil), ?_⟩
    refine ⟨_, rfl, (g, 2, 8), ⟨rfl, h1, h2⟩, fun v H1 e p => ⟨true, p, ?_⟩⟩
    exact iteF (q _ H1 e rfl)
theorem sc_need_walls : FnScope ["width", "walls"] ["width", "walls"] (defScope s_need_walls) := ⟨rfl, rfl, rfl, by decide +kernel, rfl, by decide +kernel, by decide +kernel⟩
theorem do_need_walls (T : Txt K mg C) : Does P w K mg base 4 "need_walls" ["width", "walls"] (PrG (fun (g : Int × List (List Int)) vs H => ∃ v, vs = [.int g.1, v] ∧ 2 ≤ g.1 ∧ g.1 ≤ 8 ∧ RowsT K g.2 v H ∧ preRows g.2 g.1) fun _ => Is .non) :=
  mk_doesG T.need_walls sc_need_walls (fun _ _ _ _ _ _ us hl => match us, hl with | [_, _], _ => rfl) (fun g vs H h => by obtain ⟨v, rfl, _⟩ := h; rfl) fun f cdv A outer s H vs Q E g hr h q => by
    obtain ⟨wd, rs⟩ := g
    obtain ⟨v, rfl, h1, h2, hv, h3, h4⟩ := h
    refine ⟨_, pss_cons (ps_expr (pe_do (do_need_width T) hr (by rfl) (pa_cons (pv 0) pa_nil))) (pss_one (ps_if (pt_not (pt_val (pe_doD (do_are_rows_of T) hr (by rfl) (pa_cons (pv 0) (pa_cons (pv 1) pa_nil))))) pss_never pss_nil)), ?_⟩
    refine ⟨_, rfl, wd, ⟨rfl, h1, h2⟩, fun _ H1 e _ => ?_⟩
    refine ⟨_, rfl, _, rfl, (wd, rs), ⟨v, rfl, mo_rowsT (R := R0) v H H1 (Rel.ex e) trivial hv, h3, h4⟩, fun b H2 e2 p => ⟨true, p, ?_⟩⟩
    exact iteF (q _ H2 (e.trans e2) rfl)
theorem sc_need_room : FnScope ["width", "walls", "stricts"] ["width", "walls", "stricts"] (defScope s_need_room) := ⟨rfl, rfl, rfl, by decide +kernel, rfl, by decide +kernel, by decide +kernel⟩
theorem do_need_room (T : Txt K mg C) : Does P w K mg base 5 "need_room" ["width", "walls", "stricts"] (PrG (fun (g : Int × List (List Int) × List (List Int)) vs H => ∃ v u, vs = [.int g.1, v, u] ∧ 2 ≤ g.1 ∧ g.1 ≤ 8 ∧ RowsT K g.2.1 v H ∧ preRows g.2.1 g.1 ∧ RowsT K g.2.2 u H ∧ preRows g.2.2 g.1) fun _ => Is .non) :=
  mk_doesG T.need_room sc_need_room (fun _ _ _ _ _ _ us hl => match us, hl with | [_, _, _], _ => rfl) (fun g vs H h => by obtain ⟨v, u, rfl, _⟩ := h; rfl) fun f cdv A outer s H vs Q E g hr h q => by
    obtain ⟨wd, rs, ts⟩ := g
    obtain ⟨v, u, rfl, h1, h2, hv, h3, hu, h4⟩ := h
    refine ⟨_, pss_cons (ps_expr (pe_do (do_need_walls T) hr (by rfl) (pa_cons (pv 0) (pa_cons (pv 1) pa_nil)))) (pss_one (ps_expr (pe_do (do_need_walls T) hr (by rfl) (pa_cons (pv 0) (pa_cons (pv 2) pa_nil))))), ?_⟩
    refine ⟨_, rfl, _, rfl, (wd, rs), ⟨v, rfl, h1, h2, hv, h3⟩, fun _ H1 e _ => ?_⟩
    refine ⟨_, rfl, _, rfl, (wd, ts), ⟨u, rfl, h1, h2, mo_rowsT (R := R0) u H H1 (Rel.ex e) trivial hu, h4⟩, fun b H2 e2 p => ?_⟩
    exact q _ H2 (e.trans e2) rfl
theorem sc_need_all : FnScope ["width", "walls", "stricts", "wall"] ["width", "walls", "stricts", "wall"] (defScope s_need_all) := ⟨rfl, rfl, rfl, by decide +kernel, rfl, by decide +kernel, by decide +kernel⟩
/-- what is asked of width, walls, stricts, wall -/
structure Ask (g : Int × List (List Int) × List (List Int) × List Int) : Prop where
  w1 : 2 ≤ g.1
  w2 : g.1 ≤ 8
  walls : preRows g.2.1 g.1
  stricts : preRows g.2.2.1 g.1
  wall : (g.2.2.2.length : Int) = g.1
theorem do_need_all (T : Txt K mg C) : Does P w K mg base 6 "need_all" ["width", "walls", "stricts", "wall"] (PrG (fun (g : Int × List (List Int) × List (List Int) × List Int) vs H => ∃ v u y, vs = [.int g.1, v, u, y] ∧ RowsT K g.2.1 v H ∧ RowsT K g.2.2.1 u H ∧ Row K g.2.2.2 y H ∧ Ask g) fun _ => Is .non) :=
  mk_doesG T.need_all sc_need_all (fun _ _ _ _ _ _ us hl => match us, hl with | [_, _, _, _], _ => rfl) (fun g vs H h => by obtain ⟨v, u, y, rfl, _⟩ := h; rfl) fun f cdv A outer s H vs Q E g hr h q => by
    obtain ⟨wd, rs, ts, r⟩ := g
    obtain ⟨v, u, y, rfl, hv, hu, hy, h1, h2, h3, h4, h5⟩ := h
    dsimp only at hv hu hy h1 h2 h3 h4 h5
    refine ⟨_, pss_cons (ps_expr (pe_do (do_need_room T) hr (by rfl) (pa_cons (pv 0) (pa_cons (pv 1) (pa_cons (pv 2) pa_nil))))) (pss_one (ps_if (pt_not (pt_val (pe_do ((do_is_row_of T).mono (by decide)) hr (by rfl) (pa_cons (pv 0) (pa_cons (pv 3) pa_nil))))) pss_never pss_nil)), ?_⟩
    refine ⟨_, rfl, _, rfl, _, rfl, (wd, rs, ts), ⟨v, u, rfl, h1, h2, hv, h3, hu, h4⟩, fun _ H1 e _ => ?_⟩
    refine ⟨_, rfl, _, rfl, (wd, r), ⟨y, rfl, mo_row (R := R0) y H H1 (Rel.ex e) trivial hy, h5, by dsimp only; omega⟩, fun b H2 e2 p => ⟨true, p, ?_⟩⟩
    exact iteF (q _ H2 (e.trans e2) rfl)
end
end Tm
end
section
set_option Elab.async false
set_option linter.all false
set_option maxRecDepth 100000
set_option maxHeartbeats 4000000
/-! rules that the layer lacks: a list or a tuple walked, enumerate(tuple), zip(list, tuple), tuple * k for any k, repr of a truth value -/
namespace Tm
open PySem PySem.Spec PyProof.Rows L2
section
variable {X : Cx} {tg l : Expr} {tl : TE}
/-! a list or a tuple, whichever it is -/
def iSeq (K : PySem.W.Frag) (tl : TE) : TI := fun σ H R => tl σ H fun x H1 => ∃ a, x = .ref a ∧ (((∃ xs, SqL K H1 a xs) ∧ R (Itl K a) H1) ∨ ((∃ xs, SqT K H1 a xs) ∧ R (Itt K a) H1))
theorem pi_seq (hl : PE X l tl) : PI X tg l (iSeq X.K tl) := by
  refine ⟨fun pins s σ H R I h => ?_⟩
  refine thn (hl.run pins s σ H _ I h) fun v s1 ⟨x, H1, I1, r1, q1⟩ => ?_
  obtain ⟨a, e, q1⟩ := q1
  subst e
  cases r1
  rcases q1 with ⟨⟨xs, hq⟩, q⟩ | ⟨⟨xs, hq⟩, q⟩
  · obtain ⟨its, rv, p, hz⟩ := I1.list hq
    refine wpAny_pyIter_list p.isList ?_
    refine ⟨s1.heap.objs.size, [s1.heap.objs.size], _, _, H1, rfl, I1.kept (t' := s1.toks) fun b o e => Heap.get?_push_of_some _ e, turn_list a _, ⟨_, Heap.get?_push_size _ rfl, rfl, rfl⟩, fun b hb => ?_, q⟩
    have e : b = s1.heap.objs.size := by simpa using hb
    subst e
    exact I1.fpOk (Nat.le_refl _) (I1.hok.fresh (Nat.le_refl _))
  · obtain ⟨its, rv, p, hz⟩ := I1.tuple hq
    refine wpAny_pyIter_tuple (show s1.heap.IsTuple a its.toArray from p) ?_
    refine ⟨s1.heap.objs.size, [s1.heap.objs.size], _, _, H1, rfl, I1.kept (t' := s1.toks) fun b o e => Heap.get?_push_of_some _ e, turn_tuple a _, ⟨_, Heap.get?_push_size _ rfl, rfl, rfl⟩, fun b hb => ?_, q⟩
    have e : b = s1.heap.objs.size := by simpa using hb
    subst e
    exact I1.fpOk (Nat.le_refl _) (I1.hok.fresh (Nat.le_refl _))
end
/-! enumerate(tuple) -/
theorem meets_enumerate_newB1 {v : Value} {o : Obj} {H : Heap → Prop} (B : Begins v o H) :
    Meets (Builtin.«enumerate.__new__» ⟨[.type "enumerate", v], []⟩) (fun _ R s => H s.heap ∧
      R (.ok (.ret (.ref (s.heap.push o).objs.size))) { s with heap := (s.heap.push o).push { cls := .type "enumerate", data := .fields #[.none, .bool false, .ref s.heap.objs.size, rawInt 0, .none, .none] } }) :=
  .of_wp fun prog w A R s h => by
    obtain ⟨hp, g, d, tk, os⟩ := s; obtain ⟨h1, h⟩ := h
    have hsub := sub_enumerate
    have q1 : ∀ {A' : Around} {E : Value → Shared → Prop} {Q : Value → Shared → Prop}, Q (.ref hp.objs.size) ⟨hp.push o, g, d, tk, os⟩ → wpAny (model prog w) A' (pyIter v) Q E ⟨hp, g, d, tk, os⟩ :=
      fun q => B.iter prog w _ _ ⟨hp, g, d, tk, os⟩ _ h1 q
    wp_walk using q1
    refine wpAny_stack_any fun st => wpAny_pure ?_
    split
    · rename_i c _ _ _ _ _
      cases (c == Value.type "enumerate")
      · wp_walk using q1
        exact ⟨_, rfl, h⟩
      · wp_walk using q1
        exact ⟨_, rfl, h⟩
    · wp_walk using q1
      exact ⟨_, rfl, h⟩
theorem enum_begins1 {prog : Program} {w : World} {A : Around} {E : Value → Shared → Prop} {s : Shared} {v : Value} {o : Obj} {H : Heap → Prop} {Q : Value → Shared → Prop} (B : Begins v o H) (h1 : H s.heap)
    (h : ∀ h', IsEnum h' (s.heap.objs.size + 1) s.heap.objs.size 0 .none → h'.get? s.heap.objs.size = some o → h'.objs.size = s.heap.objs.size + 2 →
      (∀ b o, s.heap.get? b = some o → h'.get? b = some o) → Q (.ref (s.heap.objs.size + 1)) { s with heap := h' }) :
    wpAny (model prog w) A (call (.type "enumerate") [v]) Q E s := by
  refine callType_new F.called_enumerate (by decide) (F.typeCall_enumerate_1 _) (F.newCall_enumerate_1 _) (fun obj => F.args_object_init_2 obj _) F.entry_enumerate_new
    (meets_enumerate_newB1 B) ⟨h1, ?_⟩
  have hz : (s.heap.push o).objs.size = s.heap.objs.size + 1 := Heap.size_push ..
  show _ ∧ _
  rw [hz]
  have he : IsEnum ((s.heap.push o).push { cls := .type "enumerate", data := .fields #[.none, .bool false, .ref s.heap.objs.size, rawInt 0, .none, .none] }) (s.heap.objs.size + 1) s.heap.objs.size 0 .none := by
    have := Heap.get?_push_size (s.heap.push o) (o := { cls := .type "enumerate", data := .fields #[.none, .bool false, .ref s.heap.objs.size, rawInt 0, .none, .none] }) rfl
    rw [hz] at this; exact this
  refine ⟨⟨_, he, rfl⟩, h _ he (Heap.get?_push_of_some _ (Heap.get?_push_size _ B.free)) (by rw [Heap.size_push, hz]) fun b o x => Heap.get?_push_of_some _ (Heap.get?_push_of_some _ x)⟩
def IteT (K : PySem.W.Frag) (a : Addr) : It :=
  ⟨fun i H => ∃ (xs : List V) (x : V), SqT K H a xs ∧ xs[i]? = some x, fun i H v H' => ∃ T x, v = .ref T ∧ H T = none ∧ H' = upd H T (.tup [.int (i : Nat), x]) ∧ ∀ xs, SqT K H a xs → xs[i]? = some x, fun i H => ∃ xs : List V, SqT K H a xs ∧ xs.length ≤ i⟩
theorem turn_enumT {P : Program} {w : World} {K : PySem.W.Frag} {elts : List Expr} {kk : Nat} {tpos : Pos} (a e it : Addr) (hae : a ≠ e) (hai : a ≠ it) :
    Turn P w K (.Tuple elts kk tpos) (IteT K a) [e, it] e (fun i h => (∃ old, IsEnum h e it ((i : Nat) : Int) old) ∧ h.IsTupleIter it a i ∧ e ≠ it) where
  mem := by simp
  obj := fun i h st b hb => by
    obtain ⟨⟨old, he⟩, ⟨o, ho, hc, hd⟩, _⟩ := st
    have e' : b = e ∨ b = it := by simpa using hb
    rcases e' with z | z
    · rw [z]; exact ⟨_, he, fun v q => nomatch q⟩
    · rw [z]; exact ⟨o, ho, fun v q => by rw [hd] at q; cases q⟩
  keep := fun i h h' st k => let ⟨⟨old, he⟩, hi, hne⟩ := st; ⟨⟨old, k e (by simp) _ he⟩, hi.at fun o q => k it (by simp) o q, hne⟩
  item := by
    intro X hP hw hK hc i pins s σ H E I hf st hg
    subst hP hw hK
    obtain ⟨⟨old, he⟩, hit, hne⟩ := st
    obtain ⟨xs, x, hq, hx⟩ := hg
    obtain ⟨its, rv, p, hz⟩ := I.tuple hq
    obtain ⟨u, hu, ru⟩ := rv.get hx
    have hel : e < s.heap.objs.size := Heap.lt_size he
    have hil : it < s.heap.objs.size := by obtain ⟨_, q, _⟩ := hit; exact Heap.lt_size q
    have hlt : i < its.toArray.size := by
      have := (List.getElem?_eq_some_iff.mp hu).1
      simpa using this
    have hp : s.heap.IsTuple a its.toArray := p
    refine wpAny_pyNext_enum_itemD (Draws.tuple (A := X.A.in1) (I.ok.hd hc) it a hai its.toArray) he ⟨hit, hp⟩ hlt hne (by simp only [List.mem_cons, List.not_mem_nil, or_false]; rintro (z | z); exact hne z; exact hae z.symm) fun y h' tk hy ho hst hT hsz hk => ?_
    have ey : y = u := by
      have h1 : its.toArray[i]? = some u := by simpa using hu
      have h2 : its.toArray[i]? = some y := hy
      exact Option.some.inj (h2.symm.trans h1)
    subst ey
    refine ⟨_, rfl, wpAny_letOwnedTupleGo_enum (s := { s with heap := h', toks := tk + 1 }) ho fun h'' he' sb => ?_⟩
    have hT2 : h''.get? s.heap.objs.size = some { cls := .type "tuple", data := .seq #[.int i tk, y] } := (sb.2 _ (Nat.ne_of_gt hel)).trans hT
    have new : ObjOk X.prog X.w (upd H s.heap.objs.size (.tup [.int (i : Nat), x])) h'' s.heap.objs.size (.tup [.int (i : Nat), x]) :=
      ⟨by show 2 ≤ sizeLine; decide, [.int i tk, y], .cons ⟨_, rfl⟩ (.cons ru .nil), ⟨_, hT2, rfl, _, rfl⟩⟩
    have I1 : Inv X pins σ (upd H s.heap.objs.size (.tup [.int (i : Nat), x])) { s with heap := h'', toks := tk + 1 } :=
      I.turnedNew (ch := [e, it]) (fun b ob hb q => (sb.2 b (fun z => hb (by simp [z]))).trans (hk b ob (fun z => hb (by simp [z])) (fun z => hb (by simp [z])) q)) hf (Nat.le_refl _) new
    refine ⟨.ref s.heap.objs.size, _, I1, rfl, ⟨_, x, rfl, I.hok.fresh (Nat.le_refl _), rfl, fun ys hy => by rw [I.tuple_inj hy hq]; exact hx⟩, ⟨⟨y, ?_⟩, hst.1.at fun o q => (sb.2 it (Ne.symm hne)).trans q, hne⟩, fun b hb => ?_⟩
    · have e1 : ((i + 1 : Nat) : Int) = (i : Int) + 1 := by omega
      rw [e1]; exact he'
    · have hb' : b < s.heap.objs.size := by
        have e' : b = e ∨ b = it := by simpa using hb
        rcases e' with z | z
        · rw [z]; exact hel
        · rw [z]; exact hil
      rw [upd_ne (Nat.ne_of_lt hb')]
      exact (hf b hb).1
  done := by
    intro X hP hw hK hc i pins s σ H E I hf st hg
    subst hP hw hK
    obtain ⟨⟨old, he⟩, hit, hne⟩ := st
    obtain ⟨xs, hq, hx⟩ := hg
    obtain ⟨its, rv, p, hz⟩ := I.tuple hq
    obtain ⟨f0, f1, f2, f3, f4, f5⟩ := hf it (by simp)
    have hl := rv.length
    have hT : s.TypeIs (.ref e) "enumerate" := ⟨_, he, rfl⟩
    have hh : X.A.in1.handled = none := I.ok.hd hc
    unfold pyNext
    refine wpAny_bind (wpAny_attempt (wpAny_callSpecial?_slot (name := Str.ofString "__next__") hT F.slot_enumerate_next
      (wpAny_call_entry F.slot_enumerate_next hT F.entry_enumerate_next ?_ (F.args_enumerate_next_1 _))))
    show wpAny _ _ (field (.ref e) 2 >>= _) _ _ _
    refine wpAny_bind (wpAny_field he rfl (x := .ref it) rfl ?_)
    refine wpAny_bind (wpAny_nextOf_tuple_end hh hit (show s.heap.IsTuple a its.toArray from p) (by simp; omega) fun h' x he' hx' => ?_)
    obtain ⟨o, ho, hcc⟩ := hx'
    refine wpAny_bind (wpAny_isInstance (T := "StopIteration") (b := true) ⟨o, ho, hcc⟩ isSubtype_stop ?_)
    exact wpAny_pure ⟨rfl, I.turned (t' := s.toks) (fun b o hb q => he' b o hb q) f0 f1 f3 f4 f5⟩
  self := fun A i s Q E st h => let ⟨⟨_, he⟩, _⟩ := st; wpAny_pyIter_enum he h
def iEnumT (K : PySem.W.Frag) (ta : TA) : TI := fun σ H R => ta σ H fun vs H1 => ∃ a xs, vs = [.ref a] ∧ SqT K H1 a xs ∧ R (IteT K a) H1
theorem pi_enumT {X : Cx} {e : Expr} {ta : TA} {p pos tpos : Pos} {elts : List Expr} {kk : Nat} (hg : Gl X "enumerate") (hm : X.mg "enumerate" = none) (ha : PA X [e] ta) (hs : starEach [e] X.env = [(false, eval e X.env)] := by rfl) :
    PI X (.Tuple elts kk tpos) (.Call (.Name "enumerate" p) [e] [] pos) (iEnumT X.K ta) := by
  refine ⟨fun pins s σ H R I h => ?_⟩
  refine Call_ (ld_blt I hg hm boot_enumerate (PyProof.Rows.callWith_type1 (thn (ha.run pos pins s σ H _ I h) fun us s1 ⟨vs, H1, I1, r1, q1⟩ => ?_) hs rfl))
  obtain ⟨a, xs, ex, hq, q⟩ := q1
  subst ex
  cases r1 with
  | cons r rr =>
    cases rr
    cases r
    obtain ⟨its, rv, p', hz⟩ := I1.tuple hq
    have hp : s1.heap.IsTuple a its.toArray := p'
    have hal : a < s1.heap.objs.size := by obtain ⟨_, e, _⟩ := id hp; exact Heap.lt_size e
    refine enum_begins1 (begins_tuple a its.toArray) hp fun h' he hit hsz hk => wpAny_pyIter_enum he ?_
    have I2 : Inv X pins σ H1 { s1 with heap := h' } := I1.kept (t' := s1.toks) hk
    refine ⟨s1.heap.objs.size + 1, [s1.heap.objs.size + 1, s1.heap.objs.size], _, _, H1, rfl, I2, turn_enumT a (s1.heap.objs.size + 1) s1.heap.objs.size (Nat.ne_of_lt (Nat.lt_succ_of_lt hal)) (Nat.ne_of_lt hal), ⟨⟨.none, he⟩, ⟨_, hit, rfl, rfl⟩, Nat.succ_ne_self _⟩, fun b hb => ?_, q⟩
    have e' : b = s1.heap.objs.size + 1 ∨ b = s1.heap.objs.size := by simpa using hb
    have hle : s1.heap.objs.size ≤ b := by
      rcases e' with z | z
      · rw [z]; exact Nat.le_add_right _ _
      · rw [z]; exact Nat.le_refl _
    exact I1.fpOk hle (I1.hok.fresh hle)
theorem walk_enumT {K : PySem.W.Frag} {a : Addr} {xs : List V} : Walk (IteT K a) xs.length (fun H => SqT K H a xs) (YPair (fun i => some (.int (i : Nat))) (fun i => xs[i]?)) := by
  refine ⟨fun i _ hi q => ⟨xs, xs[i], q, by simp [hi]⟩, fun _ q => ⟨xs, q, Nat.le_refl _⟩, fun i H v H' _ q y => ?_⟩
  obtain ⟨T, x, h1, h2, h3, h4⟩ := y
  exact ⟨T, .int (i : Nat), x, h1, h2, h3, rfl, h4 xs q⟩
/-! zip(list, tuple) -/
def ItzM (K : PySem.W.Frag) (a b : Addr) : It :=
  ⟨fun i H => ∃ (xs ys : List V) (x y : V), SqL K H a xs ∧ SqT K H b ys ∧ xs[i]? = some x ∧ ys[i]? = some y,
    fun i H v H' => ∃ T x y, v = .ref T ∧ H T = none ∧ H' = upd H T (.tup [x, y]) ∧ (∀ xs, SqL K H a xs → xs[i]? = some x) ∧ ∀ ys, SqT K H b ys → ys[i]? = some y,
    fun i H => ∃ xs ys : List V, SqL K H a xs ∧ SqT K H b ys ∧ (i ≤ xs.length ∧ i ≤ ys.length ∧ (i = xs.length ∨ i = ys.length))⟩
theorem turn_zipM {P : Program} {w : World} {K : PySem.W.Frag} {elts : List Expr} {kk : Nat} {tpos : Pos} {a b z TI TO i1 i2 : Addr} (D : ZipSep2 z TI TO i1 i2 [i1, a] [i2, b]) (ha : a ≠ i1) (hb : b ≠ i2) :
    Turn P w K (.Tuple elts kk tpos) (ItzM K a b) [z, TI, TO, i1, i2] z (fun i h => IsZip h z TI TO .none ∧ IsTupOf2 h TI (.ref i1) (.ref i2) ∧ (∃ x y, IsTupOf2 h TO x y) ∧ h.IsListIter i1 a i ∧ h.IsTupleIter i2 b i) where
  mem := by simp
  obj := fun i h st c hc => by
    obtain ⟨hz, hTI, ⟨x, y, hTO⟩, ⟨o1, e1, _, d1⟩, ⟨o2, e2, _, d2⟩⟩ := st
    have e' : c = z ∨ c = TI ∨ c = TO ∨ c = i1 ∨ c = i2 := by simpa using hc
    rcases e' with q | q | q | q | q
    · rw [q]; exact ⟨_, hz, fun v q => nomatch q⟩
    · rw [q]; exact ⟨_, hTI, fun v q => nomatch q⟩
    · rw [q]; exact ⟨_, hTO, fun v q => nomatch q⟩
    · rw [q]; exact ⟨o1, e1, fun v q => by rw [d1] at q; cases q⟩
    · rw [q]; exact ⟨o2, e2, fun v q => by rw [d2] at q; cases q⟩
  keep := fun i h h' st k => by
    obtain ⟨hz, hTI, ⟨x, y, hTO⟩, h1, h2⟩ := st
    exact ⟨k z (by simp) _ hz, k TI (by simp) _ hTI, ⟨x, y, k TO (by simp) _ hTO⟩, h1.at fun o q => k i1 (by simp) o q, h2.at fun o q => k i2 (by simp) o q⟩
  item := by
    intro X hP hw hK hc i pins s σ H E I hf st hg
    subst hP hw hK
    obtain ⟨hz, hTI, ⟨x0, y0, hTO⟩, h1, h2⟩ := st
    obtain ⟨xs, ys, x, y, hqx, hqy, hx, hy⟩ := hg
    obtain ⟨its, rv, p, _⟩ := I.list hqx
    obtain ⟨its2, rv2, p2, _⟩ := I.tuple hqy
    obtain ⟨u, hu, ru⟩ := rv.get hx
    obtain ⟨u2, hu2, ru2⟩ := rv2.get hy
    have hzl : z < s.heap.objs.size := Heap.lt_size hz
    have pl : s.heap.IsList a its.toArray := p.isList
    have pt : s.heap.IsTuple b its2.toArray := p2
    have hlt1 : i < its.toArray.size := by have := (List.getElem?_eq_some_iff.mp hu).1; simpa using this
    have hlt2 : i < its2.toArray.size := by have := (List.getElem?_eq_some_iff.mp hu2).1; simpa using this
    refine wpAny_pyNext_zipD2_item D (Draws.list (A := X.A.in1) (I.ok.hd hc) i1 a ha its.toArray) (Draws.tuple (A := X.A.in1) (I.ok.hd hc) i2 b hb its2.toArray) hz hTI hTO ⟨h1, pl⟩ ⟨h2, pt⟩ hlt1 hlt2 fun y1 y2 h' tk q1 q2 z' TO' st1 st2 hT hsz hk => ?_
    have e1 : y1 = u := by
      have a1 : its.toArray[i]? = some u := by simpa using hu
      have a2 : its.toArray[i]? = some y1 := q1
      exact Option.some.inj (a2.symm.trans a1)
    have e2 : y2 = u2 := by
      have a1 : its2.toArray[i]? = some u2 := by simpa using hu2
      have a2 : its2.toArray[i]? = some y2 := q2
      exact Option.some.inj (a2.symm.trans a1)
    subst e1 e2
    refine ⟨_, rfl, wpAny_letOwnedTupleGo_zip (s := { s with heap := h', toks := tk }) z' fun h'' z'' sb => ?_⟩
    have hT2 : h''.get? s.heap.objs.size = some { cls := .type "tuple", data := .seq #[y1, y2] } := (sb.2 _ (Nat.ne_of_gt hzl)).trans hT
    have new : ObjOk X.prog X.w (upd H s.heap.objs.size (.tup [x, y])) h'' s.heap.objs.size (.tup [x, y]) :=
      ⟨by show 2 ≤ sizeLine; decide, [y1, y2], .cons ru (.cons ru2 .nil), ⟨_, hT2, rfl, _, rfl⟩⟩
    have I1 : Inv X pins σ (upd H s.heap.objs.size (.tup [x, y])) { s with heap := h'', toks := tk } :=
      I.turnedNew (t' := tk) (ch := [z, TI, TO, i1, i2]) (fun c o hb q => (sb.2 c (fun q' => hb (by simp [q']))).trans (hk c o (fun q' => hb (by simp [q'])) (fun q' => hb (by simp [q'])) (fun q' => hb (by simp [q'])) (fun q' => hb (by simp [q'])) q)) hf (Nat.le_refl _) new
    refine ⟨.ref s.heap.objs.size, _, I1, rfl, ⟨_, x, y, rfl, I.hok.fresh (Nat.le_refl _), rfl, fun l hl => by rw [I.list_inj hl hqx]; exact hx, fun l hl => by rw [I.tuple_inj hl hqy]; exact hy⟩, ⟨z'', ?_, ⟨y1, y2, ?_⟩, ?_, ?_⟩, fun c hcm => ?_⟩
    · exact (sb.2 _ D.TIz).trans (hk _ _ D.TIz D.TITO D.TIi1 D.TIi2 hTI)
    · exact (sb.2 _ D.TOz).trans TO'
    · exact st1.1.at fun o q => (sb.2 _ (Ne.symm D.zi1)).trans q
    · exact st2.1.at fun o q => (sb.2 _ (Ne.symm D.zi2)).trans q
    · have hlt : c < s.heap.objs.size := by
        have e' : c = z ∨ c = TI ∨ c = TO ∨ c = i1 ∨ c = i2 := by simpa using hcm
        rcases e' with q | q | q | q | q
        · rw [q]; exact hzl
        · rw [q]; exact Heap.lt_size hTI
        · rw [q]; exact Heap.lt_size hTO
        · rw [q]; obtain ⟨_, e1, _⟩ := h1; exact Heap.lt_size e1
        · rw [q]; obtain ⟨_, e2, _⟩ := h2; exact Heap.lt_size e2
      rw [upd_ne (Nat.ne_of_lt hlt)]
      exact (hf c hcm).1
  done := by
    intro X hP hw hK hc i pins s σ H E I hf st hg
    subst hP hw hK
    obtain ⟨hz, hTI, ⟨x0, y0, hTO⟩, h1, h2⟩ := st
    obtain ⟨xs, ys, hqx, hqy, hl1, hl2, hend⟩ := hg
    obtain ⟨its, rv, p, _⟩ := I.list hqx
    obtain ⟨its2, rv2, p2, _⟩ := I.tuple hqy
    have l1 := rv.length
    have l2 := rv2.length
    exact wpAny_pyNext_zipD2_end D (Draws.list (A := X.A.in1) (I.ok.hd hc) i1 a ha its.toArray) (Draws.tuple (A := X.A.in1) (I.ok.hd hc) i2 b hb its2.toArray) hz hTI hTO ⟨h1, p.isList⟩ ⟨h2, (show s.heap.IsTuple b its2.toArray from p2)⟩ (by simp; omega) (by simp; omega) (by simp; omega) fun h' tk hk => ⟨rfl, I.turnedL (t' := tk) (ch := [z, TI, TO, i1, i2]) (fun c o hb q =>
      hk c o (fun q' => hb (by simp [q'])) (fun q' => hb (by simp [q'])) (fun q' => hb (by simp [q'])) (fun q' => hb (by simp [q'])) q) hf⟩
  self := fun A i s Q E st h => wpAny_pyIter_zip st.1 h
def iZipM (K : PySem.W.Frag) (ta : TA) : TI := fun σ H R => ta σ H fun vs H1 => ∃ a b xs ys, vs = [.ref a, .ref b] ∧ SqL K H1 a xs ∧ SqT K H1 b ys ∧ R (ItzM K a b) H1
theorem pi_zipM {X : Cx} {e e2 : Expr} {ta : TA} {p pos tpos : Pos} {elts : List Expr} {kk : Nat} (hg : Gl X "zip") (hm : X.mg "zip" = none) (ha : PA X [e, e2] ta)
    (hs : starEach [e, e2] X.env = (false, eval e X.env) :: starEach [e2] X.env := by rfl) (hpl : (backTo pos (starEach [e2] X.env)).any (·.1) = false := by rfl) :
    PI X (.Tuple elts kk tpos) (.Call (.Name "zip" p) [e, e2] [] pos) (iZipM X.K ta) := by
  refine ⟨fun pins s σ H R I h => ?_⟩
  refine Call_ (ld_blt I hg hm PyProof.Rows.boot_zip (PyProof.Rows.callWith_type1 (thn (ha.run pos pins s σ H _ I h) fun us s1 ⟨vs, H1, I1, r1, q1⟩ => ?_) hs hpl))
  obtain ⟨a, b, xs, ys, ex, hqx, hqy, q⟩ := q1
  subst ex
  cases r1 with
  | cons r rr =>
    cases rr with
    | cons r' rr =>
      cases rr
      cases r
      cases r'
      have fresh5 : ∀ c, c ∈ [s1.heap.objs.size + 4, s1.heap.objs.size + 2, s1.heap.objs.size + 3, s1.heap.objs.size, s1.heap.objs.size + 1] → FpOk X pins H1 c := fun c hcm => by
        have e' : c = s1.heap.objs.size + 4 ∨ c = s1.heap.objs.size + 2 ∨ c = s1.heap.objs.size + 3 ∨ c = s1.heap.objs.size ∨ c = s1.heap.objs.size + 1 := by simpa using hcm
        have hle : s1.heap.objs.size ≤ c := by
          rcases e' with z | z | z | z | z
          · rw [z]; exact Nat.le_add_right _ _
          · rw [z]; exact Nat.le_add_right _ _
          · rw [z]; exact Nat.le_add_right _ _
          · rw [z]; exact Nat.le_refl _
          · rw [z]; exact Nat.le_add_right _ _
        exact I1.fpOk hle (I1.hok.fresh hle)
      obtain ⟨its, rv, p1, _⟩ := I1.list hqx
      obtain ⟨its2, rv2, p2, _⟩ := I1.tuple hqy
      have pl : s1.heap.IsList a its.toArray := p1.isList
      have pt : s1.heap.IsTuple b its2.toArray := p2
      have la : a < s1.heap.objs.size := by obtain ⟨_, e, _⟩ := id pl; exact Heap.lt_size e
      have lb : b < s1.heap.objs.size := by obtain ⟨_, e, _⟩ := id pt; exact Heap.lt_size e
      refine zip_begins2 (begins_list a its.toArray) (begins_tuple b its2.toArray) pl pt fun h' hz hTI hTO h1 h2 hsz hk => wpAny_pyIter_zip hz ?_
      have I2 : Inv X pins σ H1 { s1 with heap := h' } := I1.kept (t' := s1.toks) hk
      exact ⟨s1.heap.objs.size + 4, [s1.heap.objs.size + 4, s1.heap.objs.size + 2, s1.heap.objs.size + 3, s1.heap.objs.size, s1.heap.objs.size + 1], _, _, H1, rfl, I2,
        turn_zipM (zip_sep2 (N := s1.heap.objs.size) (fp1 := [a]) (fp2 := [b]) (fun c hc => by rw [List.mem_singleton.mp hc]; exact la) (fun c hc => by rw [List.mem_singleton.mp hc]; exact lb)) (Nat.ne_of_lt la) (Nat.ne_of_lt (Nat.lt_succ_of_lt lb)), ⟨hz, hTI, ⟨_, _, hTO⟩, ⟨_, h1, rfl, rfl⟩, ⟨_, h2, rfl, rfl⟩⟩, fresh5, q⟩
theorem walk_zipM {K : PySem.W.Frag} {a b : Addr} {xs ys : List V} {n : Nat} (hn : n = min xs.length ys.length) : Walk (ItzM K a b) n (fun H => SqL K H a xs ∧ SqT K H b ys) (YPair (fun i => xs[i]?) (fun i => ys[i]?)) := by
  subst hn
  refine ⟨fun i _ hi q => ?_, fun _ q => ⟨xs, ys, q.1, q.2, by omega, by omega, by omega⟩, fun i H v H' _ q y => ?_⟩
  · have h1 : i < xs.length := by omega
    have h2 : i < ys.length := by omega
    exact ⟨xs, ys, xs[i], ys[i], q.1, q.2, by simp [h1], by simp [h2]⟩
  · obtain ⟨T, x, z, h1, h2, h3, h4, h5⟩ := y
    exact ⟨T, x, z, h1, h2, h3, h4 xs q.1, h5 ys q.2⟩
/-! tuple * k -/
theorem tuple_mul1 (l : Addr) (items : Array Value) (n : Nat) (dd : Option Addr) (sl : Array (Option Value)) (x : Int) (u : Tok) (c0 : (decide (x < -(2 ^ 63)) || decide (x ≥ 2 ^ 63)) = false) (c1 : (items.isEmpty || x == 1) = true) :
    Meets (Builtin.«tuple.__mul__» ⟨[.ref l, .int x u], []⟩) (fun _ R s => s.heap.get? l = some { cls := .type "tuple", dict := dd, data := .seq items n, slots := sl } ∧ R (.ok (.ret (Value.ref l))) s) :=
  .of_wp fun prog w A R s h => by
    obtain ⟨hp, g, d, tk, os⟩ := s
    obtain ⟨hl, h⟩ := h
    have f1 := AutoSeq1.idx_int
    wp_walk using AutoSeq1.wpAny_loadPart' hl
    repeat (first
      | (refine wpAny_ite_false (decide_eq_false (by rw [c0]; exact Bool.false_ne_true)) ?_; wp_walk using AutoSeq1.wpAny_loadPart' hl)
      | (refine wpAny_ite_true (decide_eq_true c1) ?_; wp_walk using AutoSeq1.wpAny_loadPart' hl))
    exact ⟨_, rfl, h⟩
theorem tuple_mul0 (l : Addr) (items : Array Value) (n : Nat) (dd : Option Addr) (sl : Array (Option Value)) (x : Int) (u : Tok) (c0 : (decide (x < -(2 ^ 63)) || decide (x ≥ 2 ^ 63)) = false) (c1 : (items.isEmpty || x == 1) = false) (c2 : (decide (x ≤ 0) || items.isEmpty) = true) :
    Meets (Builtin.«tuple.__mul__» ⟨[.ref l, .int x u], []⟩) (fun _ R s => s.heap.get? l = some { cls := .type "tuple", dict := dd, data := .seq items n, slots := sl } ∧
      R (.ok (.ret (Value.ref s.heap.objs.size))) { s with heap := s.heap.push { cls := Value.type "tuple", data := Data.seq #[] }, toks := s.toks }) :=
  .of_wp fun prog w A R s h => by
    obtain ⟨hp, g, d, tk, os⟩ := s
    obtain ⟨hl, h⟩ := h
    have f1 := AutoSeq1.idx_int
    wp_walk using AutoSeq1.wpAny_loadPart' hl
    repeat (first
      | (refine wpAny_ite_false (decide_eq_false (by rw [c0]; exact Bool.false_ne_true)) ?_; wp_walk using AutoSeq1.wpAny_loadPart' hl)
      | (refine wpAny_ite_false (decide_eq_false (by rw [c1]; exact Bool.false_ne_true)) ?_; wp_walk using AutoSeq1.wpAny_loadPart' hl)
      | (refine wpAny_ite_true (decide_eq_true c2) ?_; wp_walk using AutoSeq1.wpAny_loadPart' hl))
    exact ⟨_, rfl, h⟩
def rRepA (K : PySem.W.Frag) : R2 := fun x y H Q => ∃ l k xs, x = .ref l ∧ y = .int k ∧ SqT K H l xs ∧ xs ≠ [] ∧ 0 ≤ k ∧ k ≤ 1000 ∧ xs.length ≤ 1000 ∧
  (k = 1 → Q (.ref l) H) ∧ (k ≠ 1 → ∀ p, H p = none → Q (.ref p) (upd H p (.tup (List.replicate k.toNat xs).flatten)))
section
variable {X : Cx}
theorem op_repA : OpR X (binaryOp .Mult) (rRepA X.K) := by
  intro pins s σ H x y v u Q I rx ry h
  obtain ⟨l, k, xs, rfl, rfl, hT, hne, h1, h2, hz, q1, q2⟩ := h
  by_cases hk2 : 2 ≤ k
  · exact op_repT pins s σ H _ _ v u Q I rx ry ⟨l, k, xs, rfl, rfl, hT, hne, hk2, h2, hz, q2 (by omega)⟩
  cases rx
  obtain ⟨t, rfl⟩ := ry
  obtain ⟨its, r, ⟨⟨cls, dd, data, sl⟩, ho, hc, n, hd⟩, hs⟩ := I.tuple hT
  simp only at hc hd
  subst hc hd
  have hle : its.length = xs.length := r.length.symm
  have hn : its ≠ [] := fun e => hne (by
    rw [e] at hle
    exact List.eq_nil_of_length_eq_zero hle.symm)
  have hi : its.toArray.isEmpty = false := by
    cases its with
    | nil => exact absurd rfl hn
    | cons a b => rfl
  have c0 : (decide (k < -(2 ^ 63)) || decide (k ≥ 2 ^ 63)) = false := by
    rw [decide_eq_false (by omega), decide_eq_false (by omega)] <;> rfl
  by_cases hk1 : k = 1
  · have c1 : (its.toArray.isEmpty || k == 1) = true := by
      rw [hk1]; simp
    refine wpAny_binaryOp_repeat_ref (T := "tuple") (U := "int") (by decide) ⟨_, ho, rfl⟩ (fun s' => typeIs_int s' k t) noFill_tuple_mul F.fills_int_mul F.slot_int_rmul repeat_tuple F.slot_int_index.lookup
      (call_meets F.slot_int_rmul (typeIs_int s k t) F.entry_int_rmul (F.args_int_rmul_2 _ _) (int_rmul_tuple k t l its.toArray n dd sl)
        ⟨ho, rfl, ⟨_, ho, rfl⟩, call_meets F.slot_tuple_mul ⟨_, ho, rfl⟩ F.entry_tuple_mul (F.args_tuple_mul_2 _ _) (tuple_mul1 l its.toArray n dd sl k t c0 c1) ⟨ho, ?_⟩⟩)
    exact ⟨.ref l, H, I, rfl, q1 hk1⟩
  · have c1 : (its.toArray.isEmpty || k == 1) = false := by
      rw [hi, Bool.false_or]
      exact beq_eq_false_iff_ne.mpr hk1
    have c2 : (decide (k ≤ 0) || its.toArray.isEmpty) = true := by
      rw [decide_eq_true (by omega)]; rfl
    have e0 : k.toNat = 0 := by omega
    have q2 := q2 hk1
    rw [e0] at q2
    refine wpAny_binaryOp_repeat_ref (T := "tuple") (U := "int") (by decide) ⟨_, ho, rfl⟩ (fun s' => typeIs_int s' k t) noFill_tuple_mul F.fills_int_mul F.slot_int_rmul repeat_tuple F.slot_int_index.lookup
      (call_meets F.slot_int_rmul (typeIs_int s k t) F.entry_int_rmul (F.args_int_rmul_2 _ _) (int_rmul_tuple k t l its.toArray n dd sl)
        ⟨ho, rfl, ⟨_, ho, rfl⟩, call_meets F.slot_tuple_mul ⟨_, ho, rfl⟩ F.entry_tuple_mul (F.args_tuple_mul_2 _ _) (tuple_mul0 l its.toArray n dd sl k t c0 c1 c2) ⟨ho, ?_⟩⟩)
    refine ⟨.ref s.heap.objs.size, _, I.laid (t' := s.toks) (o := .tup []) (fun b ob q => Heap.get?_push_of_some _ q) (Nat.le_refl _) ?_, rfl, q2 _ (I.hok.fresh (Nat.le_refl _))⟩
    exact ⟨Nat.zero_le _, [], .nil, IsTup.new _ _⟩
theorem call_repr_bool : CallR X (.builtin "repr") (fun xs H Q => ∃ b, xs = [.bl b] ∧ Q (.str (if b then "True" else "False")) H) := by
  intro pins s σ H xs us Q I r h
  obtain ⟨b, rfl, q⟩ := h
  obtain ⟨u, rfl, t⟩ := vals1 r
  cases (show u = Value.bool b from t)
  exact PySem.P.repr_of_bool ⟨.str _, H, I.tok _, ⟨_, rfl⟩, q⟩
end
end Tm
end
section
set_option Elab.async false
set_option linter.all false
set_option maxRecDepth 100000
set_option maxHeartbeats 2000000
/-! data: lists and tuples compared -/
namespace Tm
open PySem PySem.Spec PyProof.Rows L2
abbrev dInts (xs : List Int) : List PyData := xs.map PyData.int
abbrev dRow (xs : List Int) : PyData := .tuple (dInts xs)
section
variable {K : PySem.W.Frag} {H H' : Hp}
mutual
theorem Dp.ex (e : Ex H H') : ∀ (d : PyData) (v : V), Dp K H v d → Dp K H' v d
  | .none, _, h => by cases h; exact .non
  | .bool b, _, h => by cases h; exact .bl b
  | .int i, _, h => by cases h; exact .int i
  | .str x, _, h => by cases h; exact .str x
  | .list ds, _, h => by
    cases h with
    | lst hs ha => exact .lst (ex_lst e hs) (DpAll.ex e ds _ ha)
  | .tuple ds, _, h => by
    cases h with
    | tup hs ha => exact .tup (ex_tup e hs) (DpAll.ex e ds _ ha)
  | .dict _, _, h => by cases h
theorem DpAll.ex (e : Ex H H') : ∀ (ds : List PyData) (vs : List V), DpAll K H vs ds → DpAll K H' vs ds
  | [], _, h => by cases h; exact .nil
  | d :: ds, _, h => by
    cases h with
    | cons h1 h2 => exact .cons (Dp.ex e d _ h1) (DpAll.ex e ds _ h2)
end
theorem dpAll_ints : ∀ xs : List Int, DpAll K H (xs.map V.int) (dInts xs)
  | [] => .nil
  | x :: xs => .cons (.int x) (dpAll_ints xs)
theorem dp_row {xs : List Int} {v : V} (h : Row K xs v H) : Dp K H v (dRow xs) := by
  obtain ⟨a, rfl, hq⟩ := h
  exact .tup hq (dpAll_ints xs)
theorem dpAll_rows : ∀ {rs : List (List Int)} {vs : List V}, Al (Row K) rs vs H → DpAll K H vs (rs.map dRow)
  | [], [], _ => .nil
  | [], _ :: _, h => by have := h.1; simp at this
  | _ :: _, [], h => by have := h.1; simp at this
  | r :: rs, v :: vs, h => .cons (dp_row (h.2 0 v r rfl rfl)) (dpAll_rows ⟨by have := h.1; simpa using this, fun i y q h1 h2 => h.2 (i + 1) y q (by simpa using h1) (by simpa using h2)⟩)
theorem lay_ints : ∀ xs : List Int, PyData.canLayAll0 (dInts xs) = true
  | [] => rfl
  | x :: xs => by
    show (PyData.canLay0 (.int x) && PyData.canLayAll0 (dInts xs)) = true
    rw [lay_ints xs]
    rfl
theorem dep_ints : ∀ xs : List Int, PyData.depthAll (dInts xs) = 0
  | [] => rfl
  | x :: xs => by
    show max (PyData.depth (.int x)) (PyData.depthAll (dInts xs)) = 0
    rw [dep_ints xs]
    rfl
theorem sh_ints (xs : List Int) : SeqAt.shaped (.list (dInts xs)) = true := by
  unfold SeqAt.shaped
  show (PyData.canLayAll0 (dInts xs) && decide (PyData.depthAll (dInts xs) + 1 ≤ 64)) = true
  rw [lay_ints, dep_ints]
  rfl
theorem sh_row (xs : List Int) : SeqAt.shaped (dRow xs) = true := by
  unfold SeqAt.shaped
  show (PyData.canLayAll0 (dInts xs) && decide (PyData.depthAll (dInts xs) + 1 ≤ 64)) = true
  rw [lay_ints, dep_ints]
  rfl
theorem lay_rows : ∀ rs : List (List Int), PyData.canLayAll0 (rs.map dRow) = true
  | [] => rfl
  | r :: rs => by
    show (PyData.canLayAll0 (dInts r) && PyData.canLayAll0 (rs.map dRow)) = true
    rw [lay_rows rs, lay_ints]
    rfl
theorem dep_rows : ∀ rs : List (List Int), PyData.depthAll (rs.map dRow) ≤ 1
  | [] => by decide
  | r :: rs => by
    show max (PyData.depthAll (dInts r) + 1) (PyData.depthAll (rs.map dRow)) ≤ 1
    rw [dep_ints]
    have := dep_rows rs
    omega
theorem sh_rows (rs : List (List Int)) : SeqAt.shaped (.list (rs.map dRow)) = true := by
  unfold SeqAt.shaped
  show (PyData.canLayAll0 (rs.map dRow) && decide (PyData.depthAll (rs.map dRow) + 1 ≤ 64)) = true
  rw [lay_rows, decide_eq_true (by have := dep_rows rs; omega)]
  rfl
theorem eqv_nil (ds : List PyData) : PyData.eqv (.list ds) (.list []) = ds.isEmpty := by
  cases ds <;> rfl
theorem eqv_ints : ∀ xs ys : List Int, PyData.eqvAll (dInts xs) (dInts ys) = decide (xs = ys)
  | [], [] => rfl
  | [], y :: ys => rfl
  | x :: xs, [] => rfl
  | x :: xs, y :: ys => by
    show (x == y && PyData.eqvAll (dInts xs) (dInts ys)) = decide (x :: xs = y :: ys)
    rw [eqv_ints xs ys]
    by_cases h : x = y
    · subst h
      by_cases h2 : xs = ys
      · subst h2; simp
      · simp [h2]
    · simp [h]
theorem eqv_rows (xs ys : List Int) : PyData.eqv (dRow xs) (dRow ys) = decide (xs = ys) := eqv_ints xs ys
end
section
variable {R : Rel} {K : PySem.W.Frag} {σ : L2.St} {H : Hp} {ta tb : TE} {b : Bool}
theorem gv_eqNil (ha : Gv R ta σ H (fun v H => ∃ a ys ds, v = .ref a ∧ SqL K H a ys ∧ DpAll K H ys ds ∧ SeqAt.shaped (.list ds) = true ∧ ds.isEmpty = b)) : Gv R (tOp (rEqD K) ta (tLst tNil)) σ H (Is (.bl b)) := fun H1 e o Q k =>
  ha H1 e o _ fun v H2 e2 o2 ⟨a, ys, ds, h1, h2, h3, h4, h5⟩ => ⟨Nat.zero_le _, fun p np => ⟨.list ds, .list [], by rw [h1]; exact Dp.ex (Ex.new np) _ _ (.lst h2 h3), .lst (sq_of upd_same) .nil, h4, rfl, k _ _ (Rel.trans e2 (Rel.ex (Ex.new np))) (R.ext _ _ (Ex.new np) o2) (by rw [eqv_nil, h5])⟩⟩
theorem gv_neNil (ha : Gv R ta σ H (fun v H => ∃ a ys ds, v = .ref a ∧ SqL K H a ys ∧ DpAll K H ys ds ∧ SeqAt.shaped (.list ds) = true ∧ ds.isEmpty = b)) : Gv R (tOp (rNeD K) ta (tLst tNil)) σ H (Is (.bl (!b))) := fun H1 e o Q k =>
  ha H1 e o _ fun v H2 e2 o2 ⟨a, ys, ds, h1, h2, h3, h4, h5⟩ => ⟨Nat.zero_le _, fun p np => ⟨.list ds, .list [], by rw [h1]; exact Dp.ex (Ex.new np) _ _ (.lst h2 h3), .lst (sq_of upd_same) .nil, h4, rfl, k _ _ (Rel.trans e2 (Rel.ex (Ex.new np))) (R.ext _ _ (Ex.new np) o2) (by rw [eqv_nil, h5])⟩⟩
/-- a list of ints, for these -/
theorem nil_ints {xs : List Int} {v : V} (h : New R (xs.map V.int) v H) : ∃ a ys ds, v = .ref a ∧ SqL K H a ys ∧ DpAll K H ys ds ∧ SeqAt.shaped (.list ds) = true ∧ ds.isEmpty = xs.isEmpty := by
  obtain ⟨a, h1, _, h2⟩ := h
  exact ⟨a, _, dInts xs, h1, sq_of h2, dpAll_ints xs, sh_ints xs, by cases xs <;> rfl⟩
theorem nil_rows {rs : List (List Int)} {v : V} (h : RowsL R K rs v H) : ∃ a ys ds, v = .ref a ∧ SqL K H a ys ∧ DpAll K H ys ds ∧ SeqAt.shaped (.list ds) = true ∧ ds.isEmpty = rs.isEmpty := by
  obtain ⟨a, vs, h1, _, h2, h3⟩ := h
  exact ⟨a, _, rs.map dRow, h1, h2, dpAll_rows h3, sh_rows rs, by cases rs <;> rfl⟩
/-- two tuples of ints compared -/
theorem gv_eqRows {xs ys : List Int} (ha : Gv R ta σ H (Row K xs)) (hb : Gv R tb σ H (Row K ys)) : Gv R (tOp (rEqD K) ta tb) σ H (Is (.bl (decide (xs = ys)))) :=
  gv_op ha hb mo_row fun x y H1 e o hx hy Q k => ⟨_, _, dp_row hx, dp_row hy, sh_row xs, sh_row ys, k _ H1 (Rel.refl _) o (by rw [eqv_rows])⟩
end
end Tm
end
section
set_option linter.all false
namespace Tm
/-! what the law's own functions reckon, over lists of whole numbers -/
def value (w p : List Int) : Int := (List.zipWith (· * ·) w p).sum
def neg (w : List Int) : List Int := w.map fun x => -x
def last (p : List Int) : Int := p.getLastD 0
def raw : List Int → List Int → List Int
  | [a0, a1], _ => [-a1, a0]
  | [a0, a1, a2], [b0, b1, b2] => [a1 * b2 - a2 * b1, a2 * b0 - a0 * b2, a0 * b1 - a1 * b0]
  | _, _ => []
def cut (a b : List Int) : Option (List Int) :=
  if last (raw a b) = 0 then none else some (if 0 < last (raw a b) then raw a b else neg (raw a b))
def keeps (ws : List (List Int)) (p : List Int) : Bool := ws.all fun w => decide (0 ≤ value w p)
def others (ws : List (List Int)) (i : Nat) (w : List Int) : List (List Int) := if w.length = 3 then ws.take i else [w]
def cand (ws : List (List Int)) (a b : List Int) : Option (List Int) := (cut a b).filter (keeps ws)
def cornersAt (ws : List (List Int)) (i : Nat) : List (List Int) := (others ws i (ws.getD i [])).filterMap (cand ws (ws.getD i []))
def corners (ws : List (List Int)) : List (List Int) := (List.range ws.length).flatMap (cornersAt ws)
/-- one step of the mean -/
def mstep (f p : List Int) : List Int := List.zipWith (fun x y => x * last p + y * last f) f.dropLast p.dropLast ++ [last f * last p]
def mean (ps : List (List Int)) : List Int := let f := ps.tail.foldl mstep (ps.headD []); f.dropLast ++ [last f * ps.length]
def broken (ws ss : List (List Int)) (w : List Int) : Bool :=
  let cs := corners (ws ++ ss ++ [neg w])
  if cs = [] then false else (ss ++ [neg w]).all fun s => decide (0 < value s (mean cs))
end Tm
end
section
set_option linter.all false
namespace Tm
/-! points, corners, means: the plain law of the corners -/
def lin (x : Int) (p : List Int) (y : Int) (g : List Int) : List Int := List.zipWith (fun a b => x * a + y * b) p g
theorem len2 {l : List Int} (h : l.length = 2) : ∃ a b, l = [a, b] := by
  match l, h with
  | [a, b], _ => exact ⟨a, b, rfl⟩
theorem len3 {l : List Int} (h : l.length = 3) : ∃ a b c, l = [a, b, c] := by
  match l, h with
  | [a, b, c], _ => exact ⟨a, b, c, rfl⟩
theorem value_lin : ∀ {s p g : List Int} (x y : Int), p.length = g.length → value s (lin x p y g) = x * value s p + y * value s g
  | [], _, _, x, y, _ => by simp [value]
  | _ :: _, [], [], x, y, _ => by simp [value, lin]
  | a :: s, b :: p, c :: g, x, y, h => by
    have ih := value_lin (s := s) (p := p) (g := g) x y (by simpa using h)
    simp only [value, lin, List.zipWith_cons_cons, List.sum_cons] at ih ⊢
    rw [ih]
    grind
theorem lin_len {p g : List Int} (x y : Int) (h : p.length = g.length) : (lin x p y g).length = p.length := by
  simp [lin, h]
/-- of a list of places the one that is met first -/
theorem least (L : List (List Int)) (p g : List Int) (h : ∃ c ∈ L, value c g < 0) :
    ∃ c ∈ L, value c g < 0 ∧ ∀ d ∈ L, value d g < 0 → value c p * -value d g ≤ value d p * -value c g := by
  induction L with
  | nil => obtain ⟨c, h, _⟩ := h; cases h
  | cons a L ih =>
    by_cases hL : ∃ c ∈ L, value c g < 0
    · obtain ⟨c, h1, h2, h3⟩ := ih hL
      by_cases ha : value a g < 0 ∧ value a p * -value c g < value c p * -value a g
      · refine ⟨a, List.mem_cons_self, ha.1, fun d hd hg => ?_⟩
        rcases List.mem_cons.mp hd with rfl | hd
        · omega
        · have q := h3 d hd hg
          have r := ha.2
          have pa : 0 < -value a g := by omega
          have pc : 0 < -value c g := by omega
          have pd : 0 < -value d g := by omega
          generalize -value a g = A at *
          generalize -value c g = C at *
          generalize -value d g = D at *
          generalize value a p = x at *
          generalize value c p = y at *
          generalize value d p = z at *
          have e1 : (x * C) * D ≤ (y * A) * D := Int.mul_le_mul_of_nonneg_right (Int.le_of_lt r) (Int.le_of_lt pd)
          have e2 : (y * D) * A ≤ (z * C) * A := Int.mul_le_mul_of_nonneg_right q (Int.le_of_lt pa)
          have e3 : (x * D) * C ≤ (z * A) * C := by
            have a1 : (x * C) * D = (x * D) * C := by grind
            have a2 : (y * A) * D = (y * D) * A := by grind
            have a3 : (z * C) * A = (z * A) * C := by grind
            omega
          exact Int.le_of_mul_le_mul_right e3 pc
      · refine ⟨c, List.mem_cons_of_mem _ h1, h2, fun d hd hg => ?_⟩
        rcases List.mem_cons.mp hd with rfl | hd
        · have : ¬ value d p * -value c g < value c p * -value d g := fun q => ha ⟨hg, q⟩
          omega
        · exact h3 d hd hg
    · refine ⟨a, List.mem_cons_self, ?_, fun d hd hg => ?_⟩
      · obtain ⟨c, h1, h2⟩ := h
        rcases List.mem_cons.mp h1 with rfl | h1
        · exact h2
        · exact absurd ⟨c, h1, h2⟩ hL
      · rcases List.mem_cons.mp hd with rfl | hd
        · omega
        · exact absurd ⟨d, hd, hg⟩ hL
/-- from a point of the room along a direction to the first wall -/
theorem walk_to (L : List (List Int)) (p g : List Int) (hl : p.length = g.length) (hp : ∀ d ∈ L, 0 ≤ value d p) (h : ∃ c ∈ L, value c g < 0) :
    ∃ c ∈ L, value c g < 0 ∧ ∃ x y : Int, 0 < x ∧ 0 ≤ y ∧ value c (lin x p y g) = 0 ∧ ∀ d ∈ L, 0 ≤ value d (lin x p y g) := by
  obtain ⟨c, h1, h2, h3⟩ := least L p g h
  refine ⟨c, h1, h2, -value c g, value c p, by omega, hp c h1, ?_, fun d hd => ?_⟩
  · rw [value_lin _ _ hl]
    grind
  · rw [value_lin _ _ hl]
    have q := hp d hd
    have qc := hp c h1
    by_cases hg : value d g < 0
    · have := h3 d hd hg
      have e : value c p * -value d g = -(value c p * value d g) := Int.mul_neg _ _
      have e2 : value d p * -value c g = -value c g * value d p := Int.mul_comm _ _
      omega
    · have a1 : 0 ≤ -value c g * value d p := Int.mul_nonneg (by omega) q
      have a2 : 0 ≤ value c p * value d g := Int.mul_nonneg qc (by omega)
      omega
theorem last_lin2 (x y a b c d : Int) : last (lin x [a, b] y [c, d]) = x * b + y * d := by simp [last, lin]
/-- q stands where v does -/
def Same' (v q : List Int) : Prop := ∀ s, s.length = v.length → value s v * last q = value s q * last v
/-- the corner of two walls that meet at q -/
theorem cut3 {a b q : List Int} (ha : a.length = 3) (hb : b.length = 3) (hq : q.length = 3) (ea : value a q = 0) (eb : value b q = 0) (hn : last (raw a b) ≠ 0) (hl : 0 < last q) :
    ∃ v, cut a b = some v ∧ v.length = 3 ∧ 0 < last v ∧ ∀ s, s.length = 3 → value s v * last q = value s q * last v := by
  obtain ⟨a0, a1, a2, rfl⟩ := len3 ha
  obtain ⟨b0, b1, b2, rfl⟩ := len3 hb
  obtain ⟨q0, q1, q2, rfl⟩ := len3 hq
  simp [value] at ea eb
  simp [raw, last] at hn hl
  have key : ∀ s0 s1 s2 : Int, (s0 * (a1 * b2 - a2 * b1) + (s1 * (a2 * b0 - a0 * b2) + s2 * (a0 * b1 - a1 * b0))) * q2 = (s0 * q0 + (s1 * q1 + s2 * q2)) * (a0 * b1 - a1 * b0) := by
    intro s0 s1 s2
    have e1 : (a1 * b2 - a2 * b1) * q2 = q0 * (a0 * b1 - a1 * b0) := by grind
    have e2 : (a2 * b0 - a0 * b2) * q2 = q1 * (a0 * b1 - a1 * b0) := by grind
    grind
  unfold cut
  simp only [raw, last, List.getLastD_cons, List.getLastD_nil]
  rw [if_neg hn]
  by_cases hp : 0 < a0 * b1 - a1 * b0
  · rw [if_pos hp]
    refine ⟨_, rfl, rfl, by simpa using hp, fun s hs => ?_⟩
    obtain ⟨s0, s1, s2, rfl⟩ := len3 hs
    simp [value]
    exact key s0 s1 s2
  · rw [if_neg hp]
    refine ⟨_, rfl, rfl, by simp [neg]; omega, fun s hs => ?_⟩
    obtain ⟨s0, s1, s2, rfl⟩ := len3 hs
    have := key s0 s1 s2
    simp [value, neg]
    grind
theorem cut2 {a b q : List Int} (ha : a.length = 2) (hq : q.length = 2) (ea : value a q = 0) (hn : last (raw a b) ≠ 0) (hl : 0 < last q) :
    ∃ v, cut a b = some v ∧ v.length = 2 ∧ 0 < last v ∧ ∀ s, s.length = 2 → value s v * last q = value s q * last v := by
  obtain ⟨a0, a1, rfl⟩ := len2 ha
  obtain ⟨q0, q1, rfl⟩ := len2 hq
  simp [value] at ea
  simp [raw, last] at hn hl
  have key : ∀ s0 s1 : Int, (s0 * -a1 + s1 * a0) * q1 = (s0 * q0 + s1 * q1) * a0 := by
    intro s0 s1
    grind
  unfold cut
  simp only [raw, last, List.getLastD_cons, List.getLastD_nil]
  rw [if_neg hn]
  by_cases hp : 0 < a0
  · rw [if_pos hp]
    refine ⟨_, rfl, rfl, by simpa using hp, fun s hs => ?_⟩
    obtain ⟨s0, s1, rfl⟩ := len2 hs
    simp [value]
    have := key s0 s1
    grind
  · rw [if_neg hp]
    refine ⟨_, rfl, rfl, by simp [neg]; omega, fun s hs => ?_⟩
    obtain ⟨s0, s1, rfl⟩ := len2 hs
    have := key s0 s1
    simp [value, neg]
    grind
theorem mem_corners {L : List (List Int)} {v : List Int} {i : Nat} {o : List Int} (hi : i < L.length) (ho : o ∈ others L i (L.getD i [])) (hc : cut (L.getD i []) o = some v) (hk : ∀ d ∈ L, 0 ≤ value d v) : v ∈ corners L := by
  unfold corners
  refine List.mem_flatMap.mpr ⟨i, List.mem_range.mpr hi, List.mem_filterMap.mpr ⟨o, ho, ?_⟩⟩
  unfold cand
  rw [hc]
  have : keeps L v = true := List.all_eq_true.mpr fun d hd => decide_eq_true (hk d hd)
  simp [Option.filter, this]
theorem of_corners {L : List (List Int)} {v : List Int} (h : v ∈ corners L) : ∃ a ∈ L, ∃ b ∈ L, cut a b = some v ∧ ∀ d ∈ L, 0 ≤ value d v := by
  unfold corners at h
  obtain ⟨i, hi, h⟩ := List.mem_flatMap.mp h
  obtain ⟨o, ho, h⟩ := List.mem_filterMap.mp h
  have hi := List.mem_range.mp hi
  have ei : L.getD i [] = L[i] := by simp [List.getD_eq_getElem?_getD, hi]
  unfold cand at h
  obtain ⟨h1, h2⟩ := Option.filter_eq_some_iff.mp h
  refine ⟨L[i], List.getElem_mem hi, o, ?_, by rw [← ei]; exact h1, fun d hd => of_decide_eq_true (List.all_eq_true.mp h2 d hd)⟩
  unfold others at ho
  split at ho
  · exact List.mem_of_mem_take ho
  · rw [List.mem_singleton.mp ho, ei]
    exact List.getElem_mem hi
theorem cut_len {W : Nat} (hW : W = 2 ∨ W = 3) {a b v : List Int} (ha : a.length = W) (hb : b.length = W) (h : cut a b = some v) : v.length = W ∧ 0 < last v := by
  rcases hW with rfl | rfl
  · obtain ⟨a0, a1, rfl⟩ := len2 ha
    unfold cut at h
    simp only [raw, last, List.getLastD_cons, List.getLastD_nil] at h
    split at h
    · cases h
    · split at h <;> (cases h; refine ⟨rfl, ?_⟩; simp [last, neg]; omega)
  · obtain ⟨a0, a1, a2, rfl⟩ := len3 ha
    obtain ⟨b0, b1, b2, rfl⟩ := len3 hb
    unfold cut at h
    simp only [raw, last, List.getLastD_cons, List.getLastD_nil] at h
    split at h
    · cases h
    · split at h <;> (cases h; refine ⟨rfl, ?_⟩; simp [last, neg]; omega)
/-- the box's walls -/
def box (W : Nat) (k : Int) : List (List Int) := if W = 2 then [[-1, k], [1, k]] else [[-1, 0, k], [1, 0, k], [0, -1, k], [0, 1, k]]
theorem getD_of_mem {L : List (List Int)} {a : List Int} (h : a ∈ L) : ∃ i, i < L.length ∧ L.getD i [] = a := by
  obtain ⟨i, hi, e⟩ := List.mem_iff_getElem.mp h
  exact ⟨i, hi, by simp [List.getD_eq_getElem?_getD, hi, e]⟩
/-- at a point of the room a functional is above 0: so it is at some corner -/
theorem corner3 {L : List (List Int)} {k : Int} {p s : List Int} (hL : ∀ d ∈ L, d.length = 3) (hb : ∀ d ∈ box 3 k, d ∈ L) (hp : p.length = 3) (hl : 0 < last p) (hk : ∀ d ∈ L, 0 ≤ value d p) (hs : s.length = 3) (h : 0 < value s p) :
    ∃ v ∈ corners L, 0 < value s v := by
  have b1 := hb [-1, 0, k] (by simp [box])
  have b2 := hb [1, 0, k] (by simp [box])
  have b3 := hb [0, -1, k] (by simp [box])
  have b4 := hb [0, 1, k] (by simp [box])
  -- along the first input
  have s1 : ∃ g : List Int, g.length = 3 ∧ last g = 0 ∧ 0 ≤ value s g ∧ (∃ c ∈ L, value c g < 0) ∧ ∀ c : List Int, c.length = 3 → value c g < 0 → c.getD 0 0 ≠ 0 := by
    obtain ⟨s0, s1, s2, rfl⟩ := len3 hs
    by_cases h0 : 0 ≤ s0
    · refine ⟨[1, 0, 0], rfl, rfl, by simp [value]; omega, ⟨_, b1, by simp [value]⟩, fun c hc hg => ?_⟩
      obtain ⟨c0, c1, c2, rfl⟩ := len3 hc
      simp [value] at hg
      simp
      omega
    · refine ⟨[-1, 0, 0], rfl, rfl, by simp [value]; omega, ⟨_, b2, by simp [value]⟩, fun c hc hg => ?_⟩
      obtain ⟨c0, c1, c2, rfl⟩ := len3 hc
      simp [value] at hg
      simp
      omega
  obtain ⟨g, g1, g2, g3, g4, g5⟩ := s1
  obtain ⟨c, c1, c2, x, y, x0, y0, cq, kq⟩ := walk_to L p g (by rw [hp, g1]) hk g4
  have hc := hL c c1
  have hc0 := g5 c hc c2
  have lq : (lin x p y g).length = 3 := by rw [lin_len _ _ (by rw [hp, g1])]; exact hp
  have laq : 0 < last (lin x p y g) := by
    obtain ⟨p0, p1, p2, rfl⟩ := len3 hp
    obtain ⟨g0, g1', g2', rfl⟩ := len3 g1
    simp [last, lin] at g2 hl ⊢
    subst g2
    simp
    exact Int.mul_pos x0 hl
  have sq : 0 < value s (lin x p y g) := by
    rw [value_lin _ _ (by rw [hp, g1])]
    have := Int.mul_pos x0 h
    have := Int.mul_nonneg y0 g3
    omega
  generalize lin x p y g = q at *
  -- along that wall
  have s2 : ∃ g : List Int, g.length = 3 ∧ last g = 0 ∧ 0 ≤ value s g ∧ (∃ d ∈ L, value d g < 0) ∧ value c g = 0 ∧ ∀ d : List Int, d.length = 3 → value d g < 0 → last (raw c d) ≠ 0 ∧ last (raw d c) ≠ 0 := by
    obtain ⟨s0, s1, s2, rfl⟩ := len3 hs
    obtain ⟨e0, e1, e2, rfl⟩ := len3 hc
    simp at hc0
    have dir : ∀ u : Int, (u = 1 ∨ u = -1) → 0 ≤ u * (s0 * -e1 + s1 * e0) → ∃ g : List Int, g.length = 3 ∧ last g = 0 ∧ 0 ≤ value [s0, s1, s2] g ∧ (∃ d ∈ L, value d g < 0) ∧ value [e0, e1, e2] g = 0 ∧ ∀ d : List Int, d.length = 3 → value d g < 0 → last (raw [e0, e1, e2] d) ≠ 0 ∧ last (raw d [e0, e1, e2]) ≠ 0 := by
      intro u hu hs
      refine ⟨[u * -e1, u * e0, 0], rfl, rfl, by simp [value]; grind, ?_, by simp [value]; grind, fun d hd hg => ?_⟩
      · by_cases h0 : 0 < u * e0
        · exact ⟨_, b3, by simp [value]; omega⟩
        · have : u * e0 ≠ 0 := by
            rcases hu with rfl | rfl
            · omega
            · omega
          exact ⟨_, b4, by simp [value]; omega⟩
      · obtain ⟨d0, d1, d2, rfl⟩ := len3 hd
        simp [value] at hg
        simp [raw, last]
        rcases hu with rfl | rfl <;> constructor <;> grind
    by_cases h0 : 0 ≤ s0 * -e1 + s1 * e0
    · exact dir 1 (.inl rfl) (by omega)
    · exact dir (-1) (.inr rfl) (by omega)
  obtain ⟨g', g1', g2', g3', g4', g5', g6'⟩ := s2
  obtain ⟨d, d1, d2, x', y', x0', y0', dq, kq'⟩ := walk_to L q g' (by rw [lq, g1']) kq g4'
  have hd := hL d d1
  obtain ⟨n1, n2⟩ := g6' d hd d2
  have lq' : (lin x' q y' g').length = 3 := by rw [lin_len _ _ (by rw [lq, g1'])]; exact lq
  have laq' : 0 < last (lin x' q y' g') := by
    obtain ⟨p0, p1, p2, rfl⟩ := len3 lq
    obtain ⟨g0, g1', g2', rfl⟩ := len3 g1'
    simp [last, lin] at g2' laq ⊢
    subst g2'
    simp
    exact Int.mul_pos x0' laq
  have sq' : 0 < value s (lin x' q y' g') := by
    rw [value_lin _ _ (by rw [lq, g1'])]
    have := Int.mul_pos x0' sq
    have := Int.mul_nonneg y0' g3'
    omega
  have cq' : value c (lin x' q y' g') = 0 := by
    rw [value_lin _ _ (by rw [lq, g1']), cq, g5']
    simp
  generalize lin x' q y' g' = r at *
  -- the corner
  obtain ⟨i, hi, ei⟩ := getD_of_mem c1
  obtain ⟨j, hj, ej⟩ := getD_of_mem d1
  have hij : i ≠ j := fun e => by
    subst e
    rw [ei] at ej
    rw [ej] at g5'
    omega
  have fin : ∀ v, v.length = 3 → 0 < last v → (∀ s, s.length = 3 → value s v * last r = value s r * last v) → (∀ d ∈ L, 0 ≤ value d v) ∧ 0 < value s v := by
    intro v _ v0 hv
    refine ⟨fun e he => ?_, ?_⟩
    · have h1 := hv e (hL e he)
      have h2 : 0 ≤ value e v * last r := by rw [h1]; exact Int.mul_nonneg (kq' e he) (Int.le_of_lt v0)
      exact Int.nonneg_of_mul_nonneg_left h2 laq'
    · have h1 := hv s hs
      have h2 : 0 < value s v * last r := by rw [h1]; exact Int.mul_pos sq' v0
      exact Int.pos_of_mul_pos_left h2 laq'
  by_cases hlt : j < i
  · obtain ⟨v, v1, v2, v3, v4⟩ := cut3 hc hd lq' cq' dq n1 laq'
    obtain ⟨f1, f2⟩ := fin v v2 v3 v4
    refine ⟨v, mem_corners hi (o := d) ?_ (by rw [ei]; exact v1) f1, f2⟩
    unfold others
    rw [ei, if_pos hc]
    have : L[j]? = some d := by
      have h1 : L.getD j [] = L[j] := by simp [List.getD_eq_getElem?_getD, hj]
      rw [← ej, h1, List.getElem?_eq_getElem hj]
    exact List.mem_iff_getElem?.mpr ⟨j, by rw [List.getElem?_take, if_pos hlt]; exact this⟩
  · obtain ⟨v, v1, v2, v3, v4⟩ := cut3 hd hc lq' dq cq' n2 laq'
    obtain ⟨f1, f2⟩ := fin v v2 v3 v4
    refine ⟨v, mem_corners hj (o := c) ?_ (by rw [ej]; exact v1) f1, f2⟩
    unfold others
    rw [ej, if_pos hd]
    have : L[i]? = some c := by
      have h1 : L.getD i [] = L[i] := by simp [List.getD_eq_getElem?_getD, hi]
      rw [← ei, h1, List.getElem?_eq_getElem hi]
    exact List.mem_iff_getElem?.mpr ⟨i, by rw [List.getElem?_take, if_pos (by omega)]; exact this⟩
theorem corner2 {L : List (List Int)} {k : Int} {p s : List Int} (hL : ∀ d ∈ L, d.length = 2) (hb : ∀ d ∈ box 2 k, d ∈ L) (hp : p.length = 2) (hl : 0 < last p) (hk : ∀ d ∈ L, 0 ≤ value d p) (hs : s.length = 2) (h : 0 < value s p) :
    ∃ v ∈ corners L, 0 < value s v := by
  have b1 := hb [-1, k] (by simp [box])
  have b2 := hb [1, k] (by simp [box])
  have s1 : ∃ g : List Int, g.length = 2 ∧ last g = 0 ∧ 0 ≤ value s g ∧ (∃ c ∈ L, value c g < 0) ∧ ∀ c : List Int, c.length = 2 → value c g < 0 → last (raw c c) ≠ 0 := by
    obtain ⟨s0, s1, rfl⟩ := len2 hs
    by_cases h0 : 0 ≤ s0
    · refine ⟨[1, 0], rfl, rfl, by simp [value]; omega, ⟨_, b1, by simp [value]⟩, fun c hc hg => ?_⟩
      obtain ⟨c0, c1, rfl⟩ := len2 hc
      simp [value] at hg
      simp [raw, last]
      omega
    · refine ⟨[-1, 0], rfl, rfl, by simp [value]; omega, ⟨_, b2, by simp [value]⟩, fun c hc hg => ?_⟩
      obtain ⟨c0, c1, rfl⟩ := len2 hc
      simp [value] at hg
      simp [raw, last]
      omega
  obtain ⟨g, g1, g2, g3, g4, g5⟩ := s1
  obtain ⟨c, c1, c2, x, y, x0, y0, cq, kq⟩ := walk_to L p g (by rw [hp, g1]) hk g4
  have hc := hL c c1
  have hn := g5 c hc c2
  have lq : (lin x p y g).length = 2 := by rw [lin_len _ _ (by rw [hp, g1])]; exact hp
  have laq : 0 < last (lin x p y g) := by
    obtain ⟨p0, p1, rfl⟩ := len2 hp
    obtain ⟨g0, g1', rfl⟩ := len2 g1
    simp [last, lin] at g2 hl ⊢
    subst g2
    simp
    exact Int.mul_pos x0 hl
  have sq : 0 < value s (lin x p y g) := by
    rw [value_lin _ _ (by rw [hp, g1])]
    have := Int.mul_pos x0 h
    have := Int.mul_nonneg y0 g3
    omega
  generalize lin x p y g = r at *
  obtain ⟨i, hi, ei⟩ := getD_of_mem c1
  obtain ⟨v, v1, v2, v3, v4⟩ := cut2 (b := c) hc lq cq hn laq
  refine ⟨v, mem_corners hi (o := c) ?_ (by rw [ei]; exact v1) fun e he => ?_, ?_⟩
  · unfold others
    rw [ei, if_neg (by omega)]
    exact List.mem_singleton.mpr rfl
  · have h1 := v4 e (hL e he)
    have h2 : 0 ≤ value e v * last r := by rw [h1]; exact Int.mul_nonneg (kq e he) (Int.le_of_lt v3)
    exact Int.nonneg_of_mul_nonneg_left h2 laq
  · have h1 := v4 s hs
    have h2 : 0 < value s v * last r := by rw [h1]; exact Int.mul_pos sq v3
    exact Int.pos_of_mul_pos_left h2 laq
/-! the mean -/
/-- a functional at a sum of points, the bound told n times -/
def F (n : Int) (s f : List Int) : Int := value s.dropLast f.dropLast + last s * (n * last f)
theorem F_step {W : Nat} (hW : W = 2 ∨ W = 3) {s f p : List Int} (n : Int) (hs : s.length = W) (hf : f.length = W) (hp : p.length = W) :
    (mstep f p).length = W ∧ last (mstep f p) = last f * last p ∧ F (n + 1) s (mstep f p) = last p * F n s f + last f * value s p := by
  rcases hW with rfl | rfl
  · obtain ⟨s0, s1, rfl⟩ := len2 hs
    obtain ⟨f0, f1, rfl⟩ := len2 hf
    obtain ⟨p0, p1, rfl⟩ := len2 hp
    refine ⟨rfl, by simp [mstep, last], ?_⟩
    simp [mstep, F, last, value]
    grind
  · obtain ⟨s0, s1, s2, rfl⟩ := len3 hs
    obtain ⟨f0, f1, f2, rfl⟩ := len3 hf
    obtain ⟨p0, p1, p2, rfl⟩ := len3 hp
    refine ⟨rfl, by simp [mstep, last], ?_⟩
    simp [mstep, F, last, value]
    grind
theorem F_one {W : Nat} (hW : W = 2 ∨ W = 3) {s f : List Int} (n : Int) (hs : s.length = W) (hf : f.length = W) : F 1 s f = value s f ∧ value s (f.dropLast ++ [last f * n]) = F n s f ∧ (f.dropLast ++ [last f * n]).length = W ∧ last (f.dropLast ++ [last f * n]) = last f * n := by
  rcases hW with rfl | rfl
  · obtain ⟨s0, s1, rfl⟩ := len2 hs
    obtain ⟨f0, f1, rfl⟩ := len2 hf
    refine ⟨by simp [F, last, value], ?_, rfl, by simp [last]⟩
    simp [F, last, value]
    grind
  · obtain ⟨s0, s1, s2, rfl⟩ := len3 hs
    obtain ⟨f0, f1, f2, rfl⟩ := len3 hf
    refine ⟨by simp [F, last, value]; omega, ?_, rfl, by simp [last]⟩
    simp [F, last, value]
    grind
theorem fold_mean {W : Nat} (hW : W = 2 ∨ W = 3) {s : List Int} (hs : s.length = W) : ∀ (ps : List (List Int)) (f : List Int) (n : Int), f.length = W → 0 < last f → (∀ p ∈ ps, p.length = W ∧ 0 < last p) →
    (ps.foldl mstep f).length = W ∧ 0 < last (ps.foldl mstep f) ∧
    (0 ≤ F n s f → (∀ p ∈ ps, 0 ≤ value s p) → 0 ≤ F (n + ps.length) s (ps.foldl mstep f) ∧ ((0 < F n s f ∨ ∃ p ∈ ps, 0 < value s p) → 0 < F (n + ps.length) s (ps.foldl mstep f)))
  | [], f, n, h1, h2, _ => ⟨h1, h2, fun h _ => ⟨by simpa using h, fun h => by
      rcases h with h | ⟨p, hp, _⟩
      · simpa using h
      · cases hp⟩⟩
  | p :: ps, f, n, h1, h2, h3 => by
    obtain ⟨p1, p2⟩ := h3 p List.mem_cons_self
    obtain ⟨a1, a2, a3⟩ := F_step hW n hs h1 p1
    obtain ⟨b1, b2, b3⟩ := fold_mean hW hs ps (mstep f p) (n + 1) a1 (by rw [a2]; exact Int.mul_pos h2 p2) fun q hq => h3 q (List.mem_cons_of_mem _ hq)
    refine ⟨b1, b2, fun h hv => ?_⟩
    have vp := hv p List.mem_cons_self
    have f0 : 0 ≤ F (n + 1) s (mstep f p) := by
      rw [a3]
      have := Int.mul_nonneg (Int.le_of_lt p2) h
      have := Int.mul_nonneg (Int.le_of_lt h2) vp
      omega
    obtain ⟨c1, c2⟩ := b3 f0 fun q hq => hv q (List.mem_cons_of_mem _ hq)
    have e : n + ((p :: ps).length : Int) = n + 1 + (ps.length : Int) := by simp; omega
    show 0 ≤ F (n + ((p :: ps).length : Int)) s (ps.foldl mstep (mstep f p)) ∧ (_ → 0 < F (n + ((p :: ps).length : Int)) s (ps.foldl mstep (mstep f p)))
    rw [e]
    refine ⟨c1, fun h' => c2 ?_⟩
    rw [a3]
    rcases h' with h' | ⟨q, hq, h'⟩
    · have := Int.mul_pos p2 h'
      have := Int.mul_nonneg (Int.le_of_lt h2) vp
      exact .inl (by omega)
    · rcases List.mem_cons.mp hq with rfl | hq
      · have := Int.mul_nonneg (Int.le_of_lt p2) h
        have := Int.mul_pos h2 h'
        exact .inl (by omega)
      · exact .inr ⟨q, hq, h'⟩
theorem mean_ok {W : Nat} (hW : W = 2 ∨ W = 3) {ps : List (List Int)} (hne : ps ≠ []) (hp : ∀ p ∈ ps, p.length = W ∧ 0 < last p) :
    (mean ps).length = W ∧ 0 < last (mean ps) ∧ ∀ s : List Int, s.length = W → (∀ p ∈ ps, 0 ≤ value s p) → 0 ≤ value s (mean ps) ∧ ((∃ p ∈ ps, 0 < value s p) → 0 < value s (mean ps)) := by
  match ps, hne with
  | q :: qs, _ =>
    obtain ⟨q1, q2⟩ := hp q List.mem_cons_self
    have hq : ∀ p ∈ qs, p.length = W ∧ 0 < last p := fun p h => hp p (List.mem_cons_of_mem _ h)
    have base := fold_mean hW (s := q) q1 qs q 1 q1 q2 hq
    have em : mean (q :: qs) = (qs.foldl mstep q).dropLast ++ [last (qs.foldl mstep q) * ((q :: qs).length : Int)] := rfl
    refine ⟨?_, ?_, fun s hs hv => ?_⟩
    · rw [em]; exact (F_one hW _ base.1 base.1).2.2.1
    · rw [em, (F_one hW _ base.1 base.1).2.2.2]
      exact Int.mul_pos base.2.1 (by simp)
    · obtain ⟨b1, b2, b3⟩ := fold_mean hW hs qs q 1 q1 q2 hq
      obtain ⟨o1, o2, _⟩ := F_one hW ((q :: qs).length : Int) hs b1
      obtain ⟨u1, _⟩ := F_one hW 1 hs q1
      obtain ⟨c1, c2⟩ := b3 (by rw [u1]; exact hv q List.mem_cons_self) fun p h => hv p (List.mem_cons_of_mem _ h)
      have e : (1 : Int) + (qs.length : Int) = ((q :: qs).length : Int) := by simp; omega
      rw [e] at c1 c2
      rw [em, o2]
      refine ⟨c1, fun ⟨p, h1, h2⟩ => c2 ?_⟩
      rcases List.mem_cons.mp h1 with rfl | h1
      · exact .inl (by rw [u1]; exact h2)
      · exact .inr ⟨p, h1, h2⟩
theorem value_neg : ∀ (w p : List Int), value (neg w) p = -value w p
  | [], _ => by simp [value, neg]
  | _ :: _, [] => by simp [value, neg]
  | a :: w, b :: p => by
    have ih := value_neg w p
    simp only [value, neg, List.map_cons, List.zipWith_cons_cons, List.sum_cons] at ih ⊢
    rw [ih]
    grind
/-- a point of the room that breaks a wall -/
def Breaks (W : Nat) (ws ss : List (List Int)) (w p : List Int) : Prop := p.length = W ∧ 0 < last p ∧ (∀ d ∈ ws, 0 ≤ value d p) ∧ (∀ d ∈ ss, 0 < value d p) ∧ value w p < 0
theorem broken_iff {W : Nat} (hW : W = 2 ∨ W = 3) {ws ss : List (List Int)} {w : List Int} {k : Int} (h1 : ∀ d ∈ ws, d.length = W) (h2 : ∀ d ∈ ss, d.length = W) (h3 : w.length = W) (hb : ∀ d ∈ box W k, d ∈ ws) :
    broken ws ss w = true ↔ ∃ p, Breaks W ws ss w p := by
  have hn : (neg w).length = W := by simp [neg, h3]
  have hL : ∀ d ∈ ws ++ ss ++ [neg w], d.length = W := fun d hd => by
    rcases List.mem_append.mp hd with hd | hd
    · rcases List.mem_append.mp hd with hd | hd
      · exact h1 d hd
      · exact h2 d hd
    · rw [List.mem_singleton.mp hd]; exact hn
  have hB : ∀ d ∈ box W k, d ∈ ws ++ ss ++ [neg w] := fun d hd => List.mem_append_left _ (List.mem_append_left _ (hb d hd))
  have hP : ∀ v ∈ corners (ws ++ ss ++ [neg w]), (v.length = W ∧ 0 < last v) ∧ ∀ d ∈ ws ++ ss ++ [neg w], 0 ≤ value d v := fun v hv => by
    obtain ⟨a, ha, b, hb, hc, hk⟩ := of_corners hv
    exact ⟨cut_len hW (hL a ha) (hL b hb) hc, hk⟩
  unfold broken
  dsimp only
  constructor
  · intro h
    split at h
    · cases h
    · rename_i hne
      obtain ⟨m1, m2, m3⟩ := mean_ok hW hne fun v hv => (hP v hv).1
      have hs := List.all_eq_true.mp h
      refine ⟨_, m1, m2, fun d hd => ?_, fun d hd => ?_, ?_⟩
      · exact (m3 d (h1 d hd) fun v hv => (hP v hv).2 d (List.mem_append_left _ (List.mem_append_left _ hd))).1
      · exact of_decide_eq_true (hs d (List.mem_append_left _ hd))
      · have := of_decide_eq_true (hs (neg w) (List.mem_append_right _ (List.mem_singleton.mpr rfl)))
        rw [value_neg] at this
        omega
  · rintro ⟨p, p1, p2, p3, p4, p5⟩
    have hk : ∀ d ∈ ws ++ ss ++ [neg w], 0 ≤ value d p := fun d hd => by
      rcases List.mem_append.mp hd with hd | hd
      · rcases List.mem_append.mp hd with hd | hd
        · exact p3 d hd
        · exact Int.le_of_lt (p4 d hd)
      · rw [List.mem_singleton.mp hd, value_neg]; omega
    have hc : ∀ s, s.length = W → 0 < value s p → ∃ v ∈ corners (ws ++ ss ++ [neg w]), 0 < value s v := fun s hs h => by
      rcases hW with rfl | rfl
      · exact corner2 hL hB p1 p2 hk hs h
      · exact corner3 hL hB p1 p2 hk hs h
    have hne : corners (ws ++ ss ++ [neg w]) ≠ [] := fun e => by
      obtain ⟨v, hv, _⟩ := hc (neg w) hn (by rw [value_neg]; omega)
      rw [e] at hv
      cases hv
    rw [if_neg hne]
    obtain ⟨m1, m2, m3⟩ := mean_ok hW hne fun v hv => (hP v hv).1
    refine List.all_eq_true.mpr fun s hs => decide_eq_true ?_
    have hs1 : s ∈ ws ++ ss ++ [neg w] := by
      rcases List.mem_append.mp hs with h | h
      · exact List.mem_append_left _ (List.mem_append_right _ h)
      · exact List.mem_append_right _ h
    have hs2 : 0 < value s p := by
      rcases List.mem_append.mp hs with h | h
      · exact p4 s h
      · rw [List.mem_singleton.mp h, value_neg]; omega
    exact (m3 s (hL s hs1) fun v hv => (hP v hv).2 s hs1).2 (hc s (hL s hs1) hs2)
end Tm
end
section
set_option Elab.async false
set_option linter.all false
set_option maxRecDepth 100000
set_option maxHeartbeats 2000000
set_option exponentiation.threshold 100000
/-! tuples and lists put together and taken apart -/
namespace Tm
open PySem PySem.Spec PyProof.Rows L2
/-- a tuple of these values -/
def RowV (K : PySem.W.Frag) (xs : List V) : Pv := fun v H => ∃ a, v = .ref a ∧ SqT K H a xs
theorem row_eq {K : PySem.W.Frag} {xs : List Int} : Row K xs = RowV K (xs.map V.int) := rfl
def lim : Nat := 2 ^ 20000
def Sm (xs : List Int) : Prop := ∀ x ∈ xs, x.natAbs < lim
theorem sm_wide {i j : Int} (h1 : i.natAbs < lim) (h2 : j.natAbs < lim) : CMulW i j := wide_mul (a := 20000) (b := 20000) h1 h2 (by decide) (by decide) (by decide)
theorem lim_of {n : Nat} (h : n < 2 ^ 1000) : n < lim := Nat.lt_of_lt_of_le h (Nat.pow_le_pow_right (by decide) (by decide))
theorem lim_small {n : Nat} (h : n ≤ 100000000) : n < lim := lim_of (Nat.lt_of_le_of_lt h (by decide))
section
variable {R : Rel} {K : PySem.W.Frag} {σ : L2.St} {H H' : Hp} {ta tb te : TE} {v x : V} {P : Pv}
theorem mo_rowV {xs : List V} : Mo R (RowV K xs) := fun v H H' e o ⟨a, h1, h2⟩ => ⟨a, h1, mo_tup e o h2⟩
/-- a name that holds what is known -/
theorem gv_slot {i : Nat} (m : Mo R P) (o0 : R.ok H) (h : σ[i]? = some (some v)) (p : P v H) : Gv R (tVar i) σ H P := gv_var h fun H1 e o => m v H H1 (Rel.rq e) o0 p
theorem row_thru {D : Addr} {xs : List Int} (t : Thru R D H H') (h : Row K xs v H) : Row K xs v H' := by
  obtain ⟨a, h1, h2⟩ := h
  exact ⟨a, h1, t.tup h2⟩
theorem rowsT_thru {D : Addr} {rs : List (List Int)} (t : Thru R D H H') (h : RowsT K rs v H) : RowsT K rs v H' := by
  obtain ⟨a, vs, h1, h2, h3⟩ := h
  exact ⟨a, vs, h1, t.tup h2, al_thru t h3⟩
theorem gv_cat {xs ys : List V} (ha : Gv R ta σ H (RowV K xs)) (hb : Gv R tb σ H (RowV K ys)) (hl : xs.length + ys.length ≤ 100000) : Gv R (tOp (rCatA K) ta tb) σ H (RowV K (xs ++ ys)) :=
  gv_op ha hb mo_rowV fun x y H1 e o ⟨a, h1, h2⟩ ⟨b, h3, h4⟩ Q k => ⟨a, b, xs, ys, h1, h3, h2, h4, sz_of hl, fun z => k _ H1 (Rel.refl _) o ⟨b, rfl, by rw [z]; exact h4⟩, fun _ z => k _ H1 (Rel.refl _) o ⟨a, rfl, by rw [z, List.append_nil]; exact h2⟩,
    fun _ _ p np => k _ _ (Rel.ex (Ex.new np)) (R.ext _ _ (Ex.new np) o) ⟨p, rfl, st_of upd_same⟩⟩
theorem gv_catR {xs ys : List Int} (ha : Gv R ta σ H (Row K xs)) (hb : Gv R tb σ H (Row K ys)) (hl : xs.length + ys.length ≤ 100000) : Gv R (tOp (rCatA K) ta tb) σ H (Row K (xs ++ ys)) :=
  (gv_cat (xs := xs.map V.int) (ys := ys.map V.int) ha hb (by simpa using hl)).imp fun v H' _ p => by rw [row_eq, List.map_append]; exact p
/-- a tuple display of known values -/
theorem gv_tupK {ta : TA} {vs : List V} (ha : GvA R ta σ H (fun ws _ => ws = vs)) (hl : vs.length ≤ 1000) : Gv R (tTup ta) σ H (RowV K vs) :=
  gv_tup ha (fun ws H1 e => by rw [e]; omega) fun ws H1 p e o h np => ⟨p, rfl, by rw [h]; exact st_of upd_same⟩
theorem gv_tup1 {x : Int} (h : Gv R te σ H (Is (.int x))) : Gv R (tTup (tCons te tNil)) σ H (Row K [x]) := gv_tupK (ga_k h ga_n) (by simp)
/-- t * k -/
theorem gv_rep {xs : List V} {k : Int} (ha : Gv R ta σ H (RowV K xs)) (hb : Gv R tb σ H (Is (.int k))) (hne : xs ≠ []) (h1 : 0 ≤ k) (h2 : k ≤ 1000) (h3 : xs.length ≤ 1000) : Gv R (tOp (rRepA K) ta tb) σ H (RowV K (List.replicate k.toNat xs).flatten) :=
  gv_op ha hb mo_rowV fun x y H1 e o ⟨a, e1, e2⟩ q Q c => ⟨a, k, xs, e1, q, e2, hne, h1, h2, h3, fun z => c _ H1 (Rel.refl _) o ⟨a, rfl, by rw [z]; simpa using e2⟩, fun _ p np => c _ _ (Rel.ex (Ex.new np)) (R.ext _ _ (Ex.new np) o) ⟨p, rfl, st_of upd_same⟩⟩
/-- (0,) * k -/
theorem gv_zeros {k : Int} (hb : Gv R tb σ H (Is (.int k))) (h1 : 0 ≤ k) (h2 : k ≤ 1000) : Gv R (tOp (rRepA K) (tTup (tCons (tC (.int 0)) tNil)) tb) σ H (Row K (List.replicate k.toNat 0)) :=
  (gv_rep (xs := [V.int 0]) (gv_tup1 gv_c) hb (by simp) h1 h2 (by simp)).imp fun v H' _ ⟨a, e1, e2⟩ => ⟨a, e1, by
    have : (List.replicate k.toNat [V.int 0]).flatten = (List.replicate k.toNat (0 : Int)).map V.int := by
      rw [List.map_replicate]
      generalize k.toNat = m
      induction m with
      | zero => rfl
      | succ m ih => rw [List.replicate_succ, List.replicate_succ, List.flatten_cons, ih]; rfl
    rw [← this]
    exact e2⟩
theorem cut_init {xs : List V} (h : xs ≠ []) : cutV xs none (some (-1)) = xs.dropLast := by
  have : 0 < xs.length := List.length_pos_iff.mpr h
  unfold cutV HT.sIx
  rw [List.dropLast_eq_take]
  simp
  congr 1
  omega
theorem gv_neg1 : Gv R (tUn (rU fun i => .int (-i)) (tC (.int 1))) σ H (Is (.int (-1))) := gv_U (g := fun i => .int (-i)) gv_c
/-- t[:-1] -/
theorem gv_init {xs : List Int} (ha : Gv R ta σ H (Row K xs)) (hne : xs ≠ []) : Gv R (tSl (rSlA K) ta tNoPart (tPart (tUn (rU fun i => .int (-i)) (tC (.int 1))))) σ H (Row K xs.dropLast) := fun H1 e o Q k =>
  ha H1 e o _ fun v H2 e2 o2 ⟨a, h1, h2⟩ => ⟨1, rfl, -1, rfl, a, _, h1, h2, fun z => by
      exfalso
      have l0 : 0 < xs.length := List.length_pos_iff.mpr hne
      have := z.2
      rw [List.length_map] at this
      unfold HT.sIx at this
      simp at this
      omega, fun _ p np => k _ _ (Rel.trans e2 (Rel.ex (Ex.new np))) (R.ext _ _ (Ex.new np) o2) ⟨p, rfl, by
        have : cutV (xs.map V.int) none (some (-1)) = xs.dropLast.map V.int := by rw [cut_init (by simpa using hne), List.map_dropLast]
        rw [← this]
        exact st_of upd_same⟩⟩
theorem last_at' {xs : List Int} (hne : xs ≠ []) : atI (xs.map V.int) (-1) = some (.int (last xs)) := by
  have e : xs = xs.dropLast ++ [last xs] := by
    have := List.dropLast_concat_getLast hne
    unfold last
    rw [List.getLastD_eq_getLast?, List.getLast?_eq_some_getLast hne]
    exact this.symm
  conv => lhs; rw [e, List.map_append]
  exact atI_last _ _
/-- t[-1] -/
theorem gv_lastR {xs : List Int} (ha : Gv R ta σ H (Row K xs)) (hne : xs ≠ []) : Gv R (tOp (rIxT K) ta (tUn (rU fun i => .int (-i)) (tC (.int 1)))) σ H (Is (.int (last xs))) := gv_ixR ha gv_neg1 (last_at' hne)
theorem gv_lastL {xs : List Int} (ha : Gv R ta σ H (Lst R K xs)) (hne : xs ≠ []) : Gv R (tOp (rIxL K) ta (tUn (rU fun i => .int (-i)) (tC (.int 1)))) σ H (Is (.int (last xs))) := gv_ixL ha gv_neg1 (last_at' hne)
theorem at_nat {xs : List Int} {i : Nat} (h : i < xs.length) : atI (xs.map V.int) (i : Int) = some (.int (xs.getD i 0)) := by
  refine atI_nat ?_
  rw [List.getElem?_map, List.getElem?_eq_getElem h]
  simp [List.getD_eq_getElem?_getD, h]
/-- a comprehension over a tuple of ints, its element reckoned from the item: a new tuple -/
theorem row_of_tuple {xs : List V} (h : Gv R ta σ H (fun v H => ∃ a, v = .ref a ∧ SqT K H a xs)) : Gv R ta σ H (RowV K xs) := h
theorem map_range_get {α : Type} (g : Int → α) (xs : List Int) : (List.range xs.length).map (fun i => g (xs.getD i 0)) = xs.map g := by
  refine List.ext_getElem (by simp) fun i h1 h2 => ?_
  have : i < xs.length := by simpa using h2
  simp [List.getD_eq_getElem?_getD, this]
end
/-- [e(x) for x in xs], e over ints, xs a tuple -/
theorem gv_mapR {R : Rel} {K : PySem.W.Frag} {σ : L2.St} {H : Hp} {tl te : TE} {vs : List Nat} {j : Nat} {xs : List Int} (g : Int → Int) (hl : Gv R tl σ H (Row K xs)) (hn : xs.length ≤ 1000) (o0 : R.ok H) (hw : ∀ x, wipe ((wipe σ vs).set j (some x)) vs = wipe σ vs)
    (he : ∀ D x H1, x ∈ xs → (R.wth D).ok H1 → Thru R D H H1 → Gv (R.wth D) te ((wipe σ vs).set j (some (.int x))) H1 (Is (.int (g x)))) :
    Gv R (tLc (iTup K tl) (gName j) tYes te vs) σ H (New R ((xs.map g).map V.int)) := by
  refine Gv.imp (gv_new (f := fun _ => true) (n := (xs.map V.int).length) (h := fun i => .int (g (xs.getD i 0))) (gv_lcN (f := fun _ => true) (Pe := fun _ i => Is (.int (g (xs.getD i 0)))) (gi_tup hl) (by rw [List.length_map]; omega) o0 (fun _ _ => mo_is) hw fun D i x H1 hx t o => ⟨gt_yes, fun _ => ?_⟩)) fun v H' _ p => ?_
  · rw [List.getElem?_map] at hx
    cases q : xs[i]? with
    | none => rw [q] at hx; cases hx
    | some z =>
      rw [q] at hx
      have e1 : V.int z = x := Option.some.inj hx
      subst e1
      have e2 : xs.getD i 0 = z := by rw [List.getD_eq_getElem?_getD, q]; rfl
      rw [e2]
      exact he D z H1 (List.mem_of_getElem? q) o t
  · rw [idx_all (fun _ _ => rfl), List.length_map] at p
    have : (List.range xs.length).map (fun i => V.int (g (xs.getD i 0))) = (xs.map g).map V.int := by
      rw [List.map_map]
      exact map_range_get (fun x => V.int (g x)) xs
    rw [← this]
    exact p
/-! statements, then the rest -/
section
variable {R : Rel} {σ : L2.St} {H : Hp} {te : TE} {t : TT} {P : Pv} {B : Bool → Prop} {D : Ends} {u x y tb : TS} {wi : TI} {g : TG} {i : Nat}
theorem st_asg (h : Gv R te σ H P) (o : R.ok H) (k : ∀ v H2, R.r H H2 → R.ok H2 → P v H2 → u D (σ.set i (some v)) H2) : tSeq (tAsg te (gName i)) u D σ H := h H (Rel.refl H) o _ k
theorem st_asg1 (h : Gv R te σ H P) (o : R.ok H) (k : ∀ v H2, R.r H H2 → R.ok H2 → P v H2 → D.nx (σ.set i (some v)) H2) : tAsg te (gName i) D σ H := h H (Rel.refl H) o _ k
theorem st_ret (h : Gv R te σ H P) (o : R.ok H) (k : ∀ v H2, R.r H H2 → R.ok H2 → P v H2 → D.rt v H2) : tRet te D σ H := h H (Rel.refl H) o _ k
theorem st_drop (h : Gv R te σ H P) (o : R.ok H) (k : ∀ v H2, R.r H H2 → R.ok H2 → P v H2 → u D σ H2) : tSeq (tDrop te) u D σ H := h H (Rel.refl H) o _ k
theorem st_drop1 (h : Gv R te σ H P) (o : R.ok H) (k : ∀ v H2, R.r H H2 → R.ok H2 → P v H2 → D.nx σ H2) : tDrop te D σ H := h H (Rel.refl H) o _ k
theorem st_if (h : GvT R t σ H B) (o : R.ok H) (k1 : ∀ H2, R.r H H2 → R.ok H2 → B true → x { D with nx := u D } σ H2) (k2 : ∀ H2, R.r H H2 → R.ok H2 → B false → y { D with nx := u D } σ H2) : tSeq (tIfS t x y) u D σ H := h H (Rel.refl H) o _ fun b H2 r2 o2 p => by
  cases b with
  | true => exact k1 H2 r2 o2 p
  | false => exact k2 H2 r2 o2 p
theorem st_if1 (h : GvT R t σ H B) (o : R.ok H) (k1 : ∀ H2, R.r H H2 → R.ok H2 → B true → x D σ H2) (k2 : ∀ H2, R.r H H2 → R.ok H2 → B false → y D σ H2) : tIfS t x y D σ H := h H (Rel.refl H) o _ fun b H2 r2 o2 p => by
  cases b with
  | true => exact k1 H2 r2 o2 p
  | false => exact k2 H2 r2 o2 p
/-- an if without else -/
theorem st_when (h : GvT R t σ H B) (o : R.ok H) (k1 : ∀ H2, R.r H H2 → R.ok H2 → B true → x { D with nx := u D } σ H2) (k2 : ∀ H2, R.r H H2 → R.ok H2 → B false → u D σ H2) : tSeq (tIfS t x tNext) u D σ H := st_if h o k1 k2
theorem st_when1 (h : GvT R t σ H B) (o : R.ok H) (k1 : ∀ H2, R.r H H2 → R.ok H2 → B true → x D σ H2) (k2 : ∀ H2, R.r H H2 → R.ok H2 → B false → D.nx σ H2) : tIfS t x tNext D σ H := st_if1 h o k1 k2
theorem st_for {n : Nat} {Y : Nat → Hp → V → Hp → Prop} (hi : GvIt R wi σ H n Y) (o : R.ok H) (Pv : Nat → L2.St → Hp → Prop) (h0 : ∀ H1, R.r H H1 → R.ok H1 → Pv 0 σ H1)
    (hs : ∀ i x σ' H' H'', i < n → R.r H H' → R.ok H' → Pv i σ' H' → Y i H' x H'' → g x σ' H'' fun σ2 H2 => tb { D with nx := fun σ3 H3 => R.r H' H3 ∧ R.ok H3 ∧ Pv (i + 1) σ3 H3, ct := fun σ3 H3 => R.r H' H3 ∧ R.ok H3 ∧ Pv (i + 1) σ3 H3, bk := u D } σ2 H2)
    (hd : ∀ σ' H', R.r H H' → R.ok H' → Pv n σ' H' → u D σ' H') : tSeq (tFor wi g tb) u D σ H := s_for (D := { D with nx := u D }) hi o Pv h0 hs hd
theorem g_name {i : Nat} {v : V} {σ : L2.St} {H : Hp} {Q : L2.St → Hp → Prop} (h : Q (σ.set i (some v)) H) : gName i v σ H Q := h
theorem g_pair {K : PySem.W.Frag} {i j : Nat} {T : Addr} {x y : V} {σ : L2.St} {H : Hp} {Q : L2.St → Hp → Prop} (h : Q ((σ.set i (some x)).set j (some y)) (upd H T (.tup [x, y]))) : gTup K 2 (gCons (gName i) (gCons (gName j) gNil)) (.ref T) σ (upd H T (.tup [x, y])) Q :=
  ⟨T, [x, y], rfl, st_of upd_same, rfl, x, [y], rfl, y, [], rfl, rfl, h⟩
end
/-! loops that may change what R lets change; what is walked is reckoned without a change -/
section
variable {R : Rel} {K : PySem.W.Frag} {σ : L2.St} {H : Hp} {ta tb tl : TE} {D : Ends} {u tb' : TS} {wi : TI} {g : TG}
def GvP (R : Rel) (wi : TI) (σ : L2.St) (H : Hp) (n : Nat) (Y : Nat → Hp → V → Hp → Prop) : Prop := ∀ H1, Ex H H1 → ∀ Q : It → Hp → Prop,
  (∀ J H2 G, Ex H1 H2 → Walk J n G Y → (∀ H3, R.r H2 H3 → R.ok H2 → G H3) → Q J H2) → wi σ H1 Q
theorem gp_tup {xs : List V} (h : Gv R0 tl σ H (RowV K xs)) : GvP R (iTup K tl) σ H xs.length (YAt xs) := fun H1 e Q k => h H1 (Rel.ex e) trivial _ fun v H2 e2 _ ⟨a, h1, h2⟩ =>
  ⟨a, h1, ⟨xs, h2⟩, k _ H2 (fun H => SqT K H a xs) (r0_ex e2) walk_tup fun H3 e3 o2 => mo_tup (Rel.rq e3) o2 h2⟩
theorem gp_lst {xs : List V} (h : Gv R0 tl σ H (fun v H => ∃ a, v = .ref a ∧ ¬ R.M a ∧ SqL K H a xs)) : GvP R (iList K tl) σ H xs.length (YAt xs) := fun H1 e Q k => h H1 (Rel.ex e) trivial _ fun v H2 e2 _ ⟨a, h1, m, h2⟩ =>
  ⟨a, h1, ⟨xs, h2⟩, k _ H2 (fun H => SqL K H a xs) (r0_ex e2) walk_list fun H3 e3 o2 => mo_lst e3 m h2⟩
theorem gp_rng1 {ta : TA} {n : Int} (h : GvA R0 ta σ H (fun vs _ => vs = [.int n])) (hn : -100000 ≤ n ∧ n ≤ 100000) : GvP R (iRng1 ta) σ H n.toNat (YFn fun i => .int (0 + i)) := fun H1 e Q k => h H1 (Rel.ex e) trivial _ fun vs H2 e2 _ p =>
  ⟨n, p, by omega, by omega, k _ H2 (fun _ => True) (r0_ex e2) walk_range fun _ _ _ => trivial⟩
theorem gp_rng2 {ta : TA} {lo n : Int} (h : GvA R0 ta σ H (fun vs _ => vs = [.int lo, .int n])) (hl : -100000 ≤ lo ∧ lo ≤ 100000) (hn : -100000 ≤ n ∧ n ≤ 100000) : GvP R (iRng2 ta) σ H (n - lo).toNat (YFn fun i => .int (lo + i)) := fun H1 e Q k => h H1 (Rel.ex e) trivial _ fun vs H2 e2 _ p =>
  ⟨lo, n, p, by omega, k _ H2 (fun _ => True) (r0_ex e2) walk_range fun _ _ _ => trivial⟩
theorem gp_enumT {ta : TA} {xs : List V} (h : GvA R0 ta σ H (fun vs H => ∃ a, vs = [.ref a] ∧ SqT K H a xs)) : GvP R (iEnumT K ta) σ H xs.length (YPair (fun i => some (.int (i : Nat))) (fun i => xs[i]?)) := fun H1 e Q k => h H1 (Rel.ex e) trivial _ fun vs H2 e2 _ ⟨a, h1, h2⟩ =>
  ⟨a, xs, h1, h2, k _ H2 (fun H => SqT K H a xs) (r0_ex e2) walk_enumT fun H3 e3 o2 => mo_tup (Rel.rq e3) o2 h2⟩
theorem gp_enum {ta : TA} {xs : List V} (h : GvA R0 ta σ H (fun vs H => ∃ a, vs = [.ref a] ∧ ¬ R.M a ∧ SqL K H a xs)) : GvP R (iEnum K ta) σ H xs.length (YPair (fun i => some (.int (i : Nat))) (fun i => xs[i]?)) := fun H1 e Q k => h H1 (Rel.ex e) trivial _ fun vs H2 e2 _ ⟨a, h1, m, h2⟩ =>
  ⟨a, xs, h1, h2, k _ H2 (fun H => SqL K H a xs) (r0_ex e2) walk_enum fun H3 e3 o2 => mo_lst e3 m h2⟩
theorem gp_seq {xs : List V} (h : Gv R0 tl σ H (fun v H => ∃ a, v = .ref a ∧ ((¬ R.M a ∧ SqL K H a xs) ∨ SqT K H a xs))) : GvP R (iSeq K tl) σ H xs.length (YAt xs) := fun H1 e Q k => h H1 (Rel.ex e) trivial _ fun v H2 e2 _ ⟨a, h1, h2⟩ => by
  rcases h2 with ⟨m, h2⟩ | h2
  · exact ⟨a, h1, .inl ⟨⟨xs, h2⟩, k _ H2 (fun H => SqL K H a xs) (r0_ex e2) walk_list fun H3 e3 o2 => mo_lst e3 m h2⟩⟩
  · exact ⟨a, h1, .inr ⟨⟨xs, h2⟩, k _ H2 (fun H => SqT K H a xs) (r0_ex e2) walk_tup fun H3 e3 o2 => mo_tup (Rel.rq e3) o2 h2⟩⟩
theorem s_forP {n : Nat} {Y : Nat → Hp → V → Hp → Prop} (hi : GvP R wi σ H n Y) (o : R.ok H) (Pv : Nat → L2.St → Hp → Prop) (h0 : ∀ H1, Ex H H1 → Pv 0 σ H1)
    (hs : ∀ i x σ' H' H'', i < n → R.r H H' → R.ok H' → Pv i σ' H' → Y i H' x H'' → g x σ' H'' fun σ2 H2 => tb' { D with nx := fun σ3 H3 => R.r H' H3 ∧ R.ok H3 ∧ Pv (i + 1) σ3 H3, ct := fun σ3 H3 => R.r H' H3 ∧ R.ok H3 ∧ Pv (i + 1) σ3 H3, bk := D.nx } σ2 H2)
    (hd : ∀ σ' H', R.r H H' → R.ok H' → Pv n σ' H' → D.nx σ' H') : tFor wi g tb' D σ H := hi H (Ex.refl H) _ fun J H1 G e1 wk g1 => by
  have o1 := R.ext _ _ e1 o
  refine ⟨fun i m σ' H' => m = n - i ∧ i ≤ n ∧ R.r H1 H' ∧ R.ok H' ∧ Pv i σ' H', ⟨n, by simp, Nat.zero_le _, Rel.refl _, o1, h0 H1 e1⟩, ?_⟩
  rintro i m σ' H' ⟨rfl, hi, r, o', p⟩
  have q := g1 H' r o1
  by_cases hlt : i < n
  · refine .inr ⟨wk.goes i H' hlt q, fun σ3 H3 => R.r H' H3 ∧ R.ok H3 ∧ Pv (i + 1) σ3 H3, fun σ3 H3 ⟨a, b, c⟩ => ⟨n - (i + 1), by omega, rfl, hlt, Rel.trans r a, b, c⟩, fun x H'' y => hs i x σ' H' H'' hlt (Rel.trans (Rel.ex e1) r) o' p (wk.yields i H' x H'' hlt q y)⟩
  · have e : i = n := by omega
    subst e
    exact .inl ⟨wk.stops H' q, hd σ' H' (Rel.trans (Rel.ex e1) r) o' p⟩
theorem st_forP {n : Nat} {Y : Nat → Hp → V → Hp → Prop} (hi : GvP R wi σ H n Y) (o : R.ok H) (Pv : Nat → L2.St → Hp → Prop) (h0 : ∀ H1, Ex H H1 → Pv 0 σ H1)
    (hs : ∀ i x σ' H' H'', i < n → R.r H H' → R.ok H' → Pv i σ' H' → Y i H' x H'' → g x σ' H'' fun σ2 H2 => tb' { D with nx := fun σ3 H3 => R.r H' H3 ∧ R.ok H3 ∧ Pv (i + 1) σ3 H3, ct := fun σ3 H3 => R.r H' H3 ∧ R.ok H3 ∧ Pv (i + 1) σ3 H3, bk := u D } σ2 H2)
    (hd : ∀ σ' H', R.r H H' → R.ok H' → Pv n σ' H' → u D σ' H') : tSeq (tFor wi g tb') u D σ H := s_forP (D := { D with nx := u D }) hi o Pv h0 hs hd
end
end Tm
end
section
set_option Elab.async false
set_option linter.all false
set_option maxRecDepth 100000
set_option maxHeartbeats 2000000
/-! the law's own helpers that draw nothing -/
namespace Tm
open PySem PySem.Spec PyProof.Rows L2
section
variable {P : Program} {w : World} {K : PySem.W.Frag} {mg : Str → Option Value} {base : Heap} {C : Addr}
/-! _law_is_integer -/
theorem sc_L_is_integer : FnScope ["_law_thing"] ["_law_thing"] (defScope s_L_is_integer) := ⟨rfl, rfl, rfl, by decide +kernel, rfl, by decide +kernel, by decide +kernel⟩
theorem do_L_is_integer (T : Txt K mg C) : Does P w K mg base 1 "_law_is_integer" ["_law_thing"] (PrG (fun (n : Int) vs _ => vs = [.int n]) fun _ => Is (.bl true)) :=
  mk_doesG T.L_is_integer sc_L_is_integer (fun _ _ _ _ _ _ us hl => match us, hl with | [_], _ => rfl) (fun g vs H h => by rw [h]; rfl) fun f cdv A outer s H vs Q E n hr h q => by
    cases h
    refine ⟨_, pss_one (ps_ret (pe_and (pe_callB call_isi (by rfl) T.z_isinstance (by decide +kernel) (pa_cons (pv 0) (pa_cons (pe_bltn (v := .ty "int") (by rfl) T.z_int (by decide +kernel) rfl) pa_nil)))
      (pe_one (pe_not (pe_callB call_isi (by rfl) T.z_isinstance (by decide +kernel) (pa_cons (pv 0) (pa_cons (pe_bltn (v := .ty "bool") (by rfl) T.z_bool (by decide +kernel) rfl) pa_nil))))))), ?_⟩
    refine ⟨_, rfl, _, _, _, _, true, rfl, .ty _, .base (.int n), kit_ty (by decide +kernel), true, rfl, iteT ?_⟩
    exact ⟨_, rfl, _, _, _, _, false, rfl, .ty _, .base (.int n), kit_ty (by decide +kernel), false, rfl, q _ H (Ex.refl H) rfl⟩
/-! _law_is_border -/
theorem sc_L_is_border : FnScope ["_law_width", "_law_thing", "_law_it"] ["_law_width", "_law_thing"] (defScope s_L_is_border) := ⟨rfl, rfl, rfl, by decide +kernel, rfl, by decide +kernel, by decide +kernel⟩
theorem do_L_is_border (T : Txt K mg C) : Does P w K mg base 2 "_law_is_border" ["_law_width", "_law_thing"] (PrG (fun (g : Int × List Int) vs H => ∃ v, vs = [.int g.1, v] ∧ Row K g.2 v H ∧ (g.2.length : Int) = g.1 ∧ g.2.length ≤ 1000) fun _ => Is (.bl true)) :=
  mk_doesG T.L_is_border sc_L_is_border (fun _ _ _ _ _ _ us hl => match us, hl with | [_, _], _ => rfl) (fun g vs H h => by obtain ⟨v, rfl, _⟩ := h; rfl) fun f cdv A outer s H vs Q E g hr h q => by
    obtain ⟨wd, r⟩ := g
    obtain ⟨v, rfl, hv, h1, h2⟩ := h
    dsimp only at hv h1 h2
    have nd := (sc_L_is_border).nd
    refine ⟨_, pss_one (ps_ret (pe_and (pe_callB call_isi (by rfl) T.z_isinstance (by decide +kernel) (pa_cons (pv 1) (pa_cons (pe_bltn (v := .ty "tuple") (by rfl) T.z_tuple (by decide +kernel) rfl) pa_nil)))
      (pe_and (pe_cmpR op_eq (pe_callB call_len_seq (by rfl) T.z_len boot_len (pa_cons (pv 1) pa_nil)) (pv 0) (nomark _))
      (pe_one (pe_cmpR (op_eqD hr.units) (pe_lc (own := [("_law_it", 2)]) (g := gName 2) rfl nd (pi_tup (pv 1)) (blkOk_by (N := ["_law_width", "_law_thing", "_law_it"]) (sc := defScope s_L_is_border) (by decide +kernel)) (fun _ _ _ _ _ => pg_name (i := 2) nd rfl (Or.inl rfl))
        (fun _ _ _ _ _ => pts_one (pt_not (pt_val (pe_do (do_L_is_integer T) hr (by rfl) (pa_cons (pv 2) pa_nil))))) (fun _ _ _ _ _ => pv 2)) (pe_lst pa_nil) (nomark _)))))), ?_⟩
    have gr : Gv R0 (tVar 1) (start ["_law_width", "_law_thing", "_law_it"] [.int wd, v]) H (Row K r) := gv_slot mo_row trivial rfl hv
    refine Gv.go (R := R0) (P := Is (.bl true)) (gv_is (gv_andV (b := true) (gv_isi (t := "tuple") (b := true) gr (fun v H p => by obtain ⟨a, rfl, h⟩ := p; exact tyX_tup h) (by decide +kernel)) fun _ => gv_is (gv_andV (b := true) (gv_is (gv_eq (gv_lenR gr) (gv_varI rfl) rfl) (show V.bl (decide (V.int (r.length : Int) = V.int wd)) = .bl true by rw [h1, decide_eq_true rfl])) fun _ => ?_) rfl) rfl) trivial fun v H1 e _ p => q v H1 (r0_ex e) p
    refine gv_eqNil (Gv.imp (gv_new (f := fun _ => false) (h := fun _ => V.non) (gv_lcN (f := fun _ => false) (Pe := fun _ _ => Is .non) (gi_tup gr) (by rw [List.length_map]; omega) trivial (fun _ _ => mo_is) (fun x => rfl) fun D i x H1 hx t o => ⟨?_, fun z => (Bool.noConfusion z)⟩)) fun v H' _ p => ?_)
    · rw [List.getElem?_map] at hx
      obtain ⟨z, _, rfl⟩ := Option.map_eq_some_iff.mp hx
      exact gt_is (gt_not (gt_B (gv_call z (ga_1 (gv_varI rfl)) (fun vs H2 _ _ ⟨v, e1, e2⟩ => by rw [e1, e2]) fun v H2 _ _ p => p))) rfl
    · have := nil_ints (K := K) (xs := []) (by
        have e : (idx (fun _ => false) (r.map V.int).length).map (fun _ => V.non) = ([] : List Int).map V.int := by
          unfold idx; simp
        rw [← e]
        exact p)
      exact this
/-! _law_value -/
theorem zip_range (ws xs : List Int) (h : ws.length = xs.length) : (List.range ws.length).map (fun i => ws.getD i 0 * xs.getD i 0) = List.zipWith (· * ·) ws xs := by
  refine List.ext_getElem (by simp [h]) fun i h1 h2 => ?_
  have a1 : i < ws.length := by simpa using h1
  have a2 : i < xs.length := by omega
  simp [List.getD_eq_getElem?_getD, a1, a2]
abbrev preValue (g : List Int × List Int) (vs : List V) (K : PySem.W.Frag) (H : Hp) : Prop := ∃ v u, vs = [v, u] ∧ Row K g.1 v H ∧ Row K g.2 u H ∧ g.1.length = g.2.length ∧ g.1.length ≤ 1000 ∧ Sm g.1 ∧ Sm g.2
theorem sc_L_value : FnScope ["_law_shut", "_law_point_here", "_law_x", "_law_y"] ["_law_shut", "_law_point_here"] (defScope s_L_value) := ⟨rfl, rfl, rfl, by decide +kernel, rfl, by decide +kernel, by decide +kernel⟩
theorem do_L_value (T : Txt K mg C) : Does P w K mg base 1 "_law_value" ["_law_shut", "_law_point_here"] (PrG (fun (g : List Int × List Int) vs H => preValue g vs K H) fun g => Is (.int (value g.1 g.2))) :=
  mk_doesG T.L_value sc_L_value (fun _ _ _ _ _ _ us hl => match us, hl with | [_, _], _ => rfl) (fun g vs H h => by obtain ⟨v, u, rfl, _⟩ := h; rfl) fun f cdv A outer s H vs Q E g hr h q => by
    obtain ⟨ws, xs⟩ := g
    obtain ⟨v, u, rfl, hv, hu, h1, h2, h3, h4⟩ := h
    dsimp only at hv hu h1 h2 h3 h4
    have nd := (sc_L_value).nd
    refine ⟨_, pss_one (ps_ret (pe_callB (cr_sum rfl) (by rfl) T.z_sum (by decide +kernel) (pa_cons (pe_lc (own := [("_law_x", 2), ("_law_y", 3)]) (g := gTup K 2 (gCons (gName 2) (gCons (gName 3) gNil))) (tt := tYes) rfl nd (RZ.pi_zipA (by rfl) T.z_zip (pa_cons (pv 0) (pa_cons (pv 1) pa_nil)))
      (blkOk_by (N := ["_law_shut", "_law_point_here", "_law_x", "_law_y"]) (sc := defScope s_L_value) (by decide +kernel)) (fun _ _ _ _ _ => pg_tup rfl (pgs_cons (pg_name (i := 2) nd rfl (Or.inl rfl) (by exact Or.inr rfl)) (pgs_cons (pg_name (i := 3) nd rfl (Or.inl rfl) (by exact Or.inr rfl)) pgs_nil)))
      (fun _ _ _ _ _ => pts_nil) (fun _ _ _ _ _ => pe_op op_mulW (pv 2) (pv 3))) pa_nil))), ?_⟩
    refine Gv.go (R := R0) (P := Is (.int (value ws xs))) (gv_sum (ns := List.zipWith (· * ·) ws xs) ?_) trivial fun v H1 e _ p => q v H1 (r0_ex e) p
    refine Gv.imp (gv_new (f := fun _ => true) (h := fun i => .int (ws.getD i 0 * xs.getD i 0)) (gv_lcP (f := fun _ => true) (Pe := fun _ i => Is (.int (ws.getD i 0 * xs.getD i 0))) (gi_zipT (xs := ws.map V.int) (ys := xs.map V.int) (gv_slot mo_row trivial rfl hv) (gv_slot mo_row trivial rfl hu)) (by rw [List.length_map]; omega) trivial (fun _ _ => mo_is) (fun x y => rfl) fun D i x y H1 hi hx hy t o => ⟨gt_yes, fun _ => ?_⟩)) fun v H' _ p => ?_
    · rw [List.length_map, List.length_map] at hi
      have a1 : i < ws.length := by omega
      have a2 : i < xs.length := by omega
      rw [List.getElem?_map, List.getElem?_eq_getElem a1] at hx
      rw [List.getElem?_map, List.getElem?_eq_getElem a2] at hy
      have e1 : V.int ws[i] = x := Option.some.inj hx
      have e2 : V.int xs[i] = y := Option.some.inj hy
      subst e1 e2
      have f1 : ws.getD i 0 = ws[i] := by simp [List.getD_eq_getElem?_getD, a1]
      have f2 : xs.getD i 0 = xs[i] := by simp [List.getD_eq_getElem?_getD, a2]
      rw [f1, f2]
      exact gv_I (C := CMulW) (g := fun i j => .int (i * j)) (gv_varI rfl) (gv_varI rfl) (sm_wide (h3 _ (List.getElem_mem a1)) (h4 _ (List.getElem_mem a2)))
    · rw [idx_all (fun _ _ => rfl), List.length_map, List.length_map, ← h1, Nat.min_self] at p
      have e : (List.range ws.length).map (fun i => V.int (ws.getD i 0 * xs.getD i 0)) = (List.zipWith (· * ·) ws xs).map V.int := by
        rw [← zip_range ws xs h1, List.map_map]; rfl
      rw [← e]
      exact p
/-- _law_value(e, e') -/
theorem gv_value {R : Rel} {σ : L2.St} {H : Hp} {ta tb : TE} {ws xs : List Int} (ha : Gv R ta σ H (Row K ws)) (hb : Gv R tb σ H (Row K xs)) (h1 : ws.length = xs.length) (h2 : ws.length ≤ 1000) (h3 : Sm ws) (h4 : Sm xs) :
    Gv R (tCall (PrG (fun (g : List Int × List Int) vs H => preValue g vs K H) fun g => Is (.int (value g.1 g.2))) [] E0 (tCons ta (tCons tb tNil))) σ H (Is (.int (value ws xs))) :=
  gv_call (ws, xs) (ga_2 ha mo_row hb) (fun vs H1 _ _ ⟨v, w, e1, e2, e3⟩ => ⟨v, w, e1, e2, e3, h1, h2, h3, h4⟩) fun v H1 _ _ p => p
end
end Tm
end
section
set_option Elab.async false
set_option linter.all false
set_option maxRecDepth 100000
set_option maxHeartbeats 2000000
namespace Tm
open PySem PySem.Spec PyProof.Rows L2
section
variable {R : Rel} {K : PySem.W.Frag} {σ : L2.St} {H : Hp} {tl te : TE} {t : TT} {vs : List Nat} {j : Nat}
theorem GvT.go {P : Bool → Prop} (g : GvT R t σ H P) (o : R.ok H) {Q : Bool → Hp → Prop} (k : ∀ b H2, R.r H H2 → R.ok H2 → P b → Q b H2) : t σ H Q := g H (Rel.refl H) o Q k
theorem idx_empty (f : Nat → Bool) (n : Nat) : (idx f n).isEmpty = (List.range n).all fun i => !f i := by
  unfold idx
  induction n with
  | zero => rfl
  | succ n ih =>
    rw [List.range_succ, List.filter_append, List.all_append, ← ih]
    cases h : f n <;> simp [h]
theorem all_range (rs : List (List Int)) (c : List Int → Bool) : ((List.range rs.length).all fun i => c (rs.getD i [])) = rs.all c := by
  rw [Bool.eq_iff_iff, List.all_eq_true, List.all_eq_true]
  constructor
  · intro h r hr
    obtain ⟨i, hi, e⟩ := List.mem_iff_getElem.mp hr
    have := h i (List.mem_range.mpr hi)
    simp [List.getD_eq_getElem?_getD, hi] at this
    rw [← e]
    exact this
  · intro h i hi
    have hi := List.mem_range.mp hi
    simp [List.getD_eq_getElem?_getD, hi]
    exact h _ (List.getElem_mem hi)
/-- [1 for r in rows if c(r)], as a new list -/
theorem gv_which {rs : List (List Int)} {ys : List V} (c : List Int → Bool) {wi : TI} (hi : GvIt R wi σ H ys.length (YAt ys)) (al : Al (Row K) rs ys H) (hn : rs.length ≤ 1000) (o0 : R.ok H) (hw : ∀ x, wipe ((wipe σ vs).set j (some x)) vs = wipe σ vs)
    (ht : ∀ D r y H1, r ∈ rs → Row K r y H1 → Thru R D H H1 → (R.wth D).ok H1 → GvT (R.wth D) t ((wipe σ vs).set j (some y)) H1 (· = c r)) :
    Gv R (tLc wi (gName j) t (tC (.int 1)) vs) σ H (New R ((idx (fun i => c (rs.getD i [])) rs.length).map fun _ => .int 1)) := by
  refine Gv.imp (gv_new (f := fun i => c (rs.getD i [])) (n := ys.length) (h := fun _ => .int 1) (gv_lcN (f := fun i => c (rs.getD i [])) (Pe := fun _ _ => Is (.int 1)) hi (by rw [al.1]; omega) o0 (fun _ _ => mo_is) hw fun D i x H1 hx t o => ⟨?_, fun _ => gv_c⟩)) fun v H' _ p => by rw [← al.1]; exact p
  have hlt : i < rs.length := by rw [← al.1]; exact (List.getElem?_eq_some_iff.mp hx).1
  have e : rs.getD i [] = rs[i] := by simp [List.getD_eq_getElem?_getD, hlt]
  rw [e]
  exact ht D rs[i] x H1 (List.getElem_mem hlt) (row_thru t (al.2 i x rs[i] hx (List.getElem?_eq_getElem hlt))) t o
/-- [1 for r in rows if c(r)] == [], the rows a tuple -/
theorem gv_none {rs : List (List Int)} (c : List Int → Bool) {a : Addr} {ys : List V} (hl : Gv R tl σ H (fun v H => ∃ a, v = .ref a ∧ SqT K H a ys)) (al : Al (Row K) rs ys H) (hn : rs.length ≤ 1000) (o0 : R.ok H) (hw : ∀ x, wipe ((wipe σ vs).set j (some x)) vs = wipe σ vs)
    (ht : ∀ D r y H1, r ∈ rs → Row K r y H1 → Thru R D H H1 → (R.wth D).ok H1 → GvT (R.wth D) t ((wipe σ vs).set j (some y)) H1 (· = c r)) :
    Gv R (tOp (rEqD K) (tLc (iTup K tl) (gName j) t (tC (.int 1)) vs) (tLst tNil)) σ H (Is (.bl (rs.all fun r => !c r))) := by
  refine gv_is (gv_eqNil (Gv.imp (gv_which c (gi_tup hl) al hn o0 hw ht) fun v H' _ p => nil_ints (xs := (idx (fun i => c (rs.getD i [])) rs.length).map fun _ => 1) (by rw [List.map_map]; exact p))) ?_
  rw [List.isEmpty_map, idx_empty]
  exact congrArg V.bl (all_range rs fun r => !c r)
end
theorem not_lt_dec (a b : Int) : (!decide (a < b)) = decide (b ≤ a) := by
  by_cases h : a < b
  · rw [decide_eq_true h, decide_eq_false (by omega)]; rfl
  · rw [decide_eq_false h, decide_eq_true (by omega)]; rfl
theorem not_le_dec (a b : Int) : (!decide (a ≤ b)) = decide (b < a) := by
  by_cases h : a ≤ b
  · rw [decide_eq_true h, decide_eq_false (by omega)]; rfl
  · rw [decide_eq_false h, decide_eq_true (by omega)]; rfl
theorem sm_neg' {xs : List Int} (h : Sm xs) : Sm (neg xs) := fun x hx => by
  unfold neg at hx
  obtain ⟨y, hy, rfl⟩ := List.mem_map.mp hx
  rw [Int.natAbs_neg]
  exact h y hy
section
variable {P : Program} {w : World} {K : PySem.W.Frag} {mg : Str → Option Value} {base : Heap} {C : Addr}
/-! _law_is_point -/
abbrev N_is_point : List Str := ["_law_width", "_law_shuts", "_law_stricts", "_law_thing", "_law_it"]
theorem sc_L_is_point : FnScope N_is_point ["_law_width", "_law_shuts", "_law_stricts", "_law_thing"] (defScope s_L_is_point) := ⟨rfl, rfl, rfl, by decide +kernel, rfl, by decide +kernel, by decide +kernel⟩
/-- rows of one width, not too great -/
structure Nice (W : Nat) (rs : List (List Int)) : Prop where
  len : ∀ r ∈ rs, r.length = W
  sm : ∀ r ∈ rs, Sm r
  few : rs.length ≤ 1000
theorem do_L_is_point (T : Txt K mg C) : Does P w K mg base 3 "_law_is_point" ["_law_width", "_law_shuts", "_law_stricts", "_law_thing"]
    (PrG (fun (g : Nat × List (List Int) × List (List Int) × List Int) vs H => ∃ v u y, vs = [.int (g.1 : Int), v, u, y] ∧ RowsT K g.2.1 v H ∧ RowsT K g.2.2.1 u H ∧ Row K g.2.2.2 y H ∧ Nice g.1 g.2.1 ∧ Nice g.1 g.2.2.1 ∧ g.2.2.2.length = g.1 ∧ Sm g.2.2.2 ∧ 1 ≤ g.1 ∧ g.1 ≤ 1000)
      fun g => Is (.bl (decide (1 ≤ last g.2.2.2) && (g.2.1.all (fun r => decide (0 ≤ value r g.2.2.2)) && g.2.2.1.all fun r => decide (0 < value r g.2.2.2))))) :=
  mk_doesG T.L_is_point sc_L_is_point (fun _ _ _ _ _ _ us hl => match us, hl with | [_, _, _, _], _ => rfl) (fun g vs H h => by obtain ⟨v, u, y, rfl, _⟩ := h; rfl) fun f cdv A outer s H vs Q E g hr h q => by
    obtain ⟨wd, ws, ss, p⟩ := g
    obtain ⟨v, u, y, rfl, hv, hu, hy, nw, ns, hp, hs, h1, h2⟩ := h
    dsimp only at hv hu hy nw ns hp hs h1 h2
    have nd := (sc_L_is_point).nd
    have hne : p ≠ [] := fun e => by rw [e] at hp; simp at hp; omega
    have hr1 : Room 1 _ := hr.mono (by decide)
    refine ⟨_, pss_cons (ps_if (PW.pt (pw_or (pt_not (pt_val (pe_do (do_L_is_border T) hr (by rfl) (pa_cons (pv 0) (pa_cons (pv 3) pa_nil))))) (pw_or1 (pt_cmpR op_lt (pe_ix ix_tup (pv 3) (pe_un un_neg pe_int) (fun _ _ => rfl)) pe_int (nomark _))))) (pss_one (ps_ret pe_bl)) pss_nil)
      (pss_one (ps_ret (pe_and (pe_cmpR (op_eqD hr.units) (pe_lc (own := [("_law_it", 4)]) (g := gName 4) rfl nd (pi_tup (pv 1)) (blkOk_by (N := N_is_point) (sc := defScope s_L_is_point) (by decide +kernel)) (fun _ _ _ _ _ => pg_name (i := 4) nd rfl (Or.inl rfl))
          (fun _ _ _ _ _ => pts_one (pt_cmpR op_lt (pe_do (do_L_value T) hr1 (by rfl) (pa_cons (pv 4) (pa_cons (pv 3) pa_nil))) pe_int (nomark _))) (fun _ _ _ _ _ => pe_int)) (pe_lst pa_nil) (nomark _))
        (pe_one (pe_cmpR (op_eqD hr.units) (pe_lc (own := [("_law_it", 4)]) (g := gName 4) rfl nd (pi_tup (pv 2)) (blkOk_by (N := N_is_point) (sc := defScope s_L_is_point) (by decide +kernel)) (fun _ _ _ _ _ => pg_name (i := 4) nd rfl (Or.inl rfl))
          (fun _ _ _ _ _ => pts_one (pt_cmpR op_le (pe_do (do_L_value T) hr1 (by rfl) (pa_cons (pv 4) (pa_cons (pv 3) pa_nil))) pe_int (nomark _))) (fun _ _ _ _ _ => pe_int)) (pe_lst pa_nil) (nomark _)))))), ?_⟩
    refine GvT.go (R := R0) (P := (· = (!decide (1 ≤ last p)))) ?_ trivial fun b H1 e1 _ hb => ?_
    · refine gt_is (gt_or (a := false) (b := !decide (1 ≤ last p)) (gt_is (gt_not (gt_B (b := true) ?_)) rfl) fun _ => gt_is (gt_test (gv_I0 (gv_lastR (gv_slot mo_row trivial rfl hy) hne) gv_c)) ?_) rfl
      · exact gv_call (wd, p) (ga_2 (gv_varI rfl) mo_is (gv_slot mo_row trivial rfl hy)) (fun vs H1 _ _ ⟨v, w, e1, e2, e3⟩ => ⟨w, by rw [e1, e2], e3, by rw [hp], by rw [hp]; exact h2⟩) fun v H1 _ _ p => p
      · by_cases e : 1 ≤ last p
        · rw [decide_eq_true e, decide_eq_false (by omega)]; rfl
        · rw [decide_eq_false e, decide_eq_true (by omega)]; rfl
    subst hb
    have e1 := r0_ex e1
    obtain ⟨a, ya, rfl, qa, ala⟩ := mo_rowsT (R := R0) v H H1 (Rel.ex e1) trivial hv
    obtain ⟨a', yb, rfl, qb, alb⟩ := mo_rowsT (R := R0) u H H1 (Rel.ex e1) trivial hu
    have hy1 := mo_row (R := R0) y H H1 (Rel.ex e1) trivial hy
    by_cases hb : 1 ≤ last p
    · rw [decide_eq_true hb]
      refine iteF ?_
      refine Gv.go (R := R0) (P := Is _) (gv_andV (gv_none (a := a) (fun r => decide (value r p < 0)) (gv_slot mo_rowV trivial rfl ⟨a, rfl, qa⟩) ala nw.few trivial (fun x => rfl) fun D r y' H2 hr hy' t o => gt_test (gv_I0 (g := fun i j => .bl (decide (i < j))) (gv_value (gv_slot mo_row o rfl hy') (gv_slot mo_row o rfl (row_thru t hy1)) (by rw [nw.len r hr, hp]) (by rw [nw.len r hr]; exact h2) (nw.sm r hr) hs) gv_c))
        fun _ => gv_none (a := a') (fun r => decide (value r p ≤ 0)) (gv_slot mo_rowV trivial rfl ⟨a', rfl, qb⟩) alb ns.few trivial (fun x => rfl) fun D r y' H2 hr hy' t o => gt_test (gv_I0 (g := fun i j => .bl (decide (i ≤ j))) (gv_value (gv_slot mo_row o rfl hy') (gv_slot mo_row o rfl (row_thru t hy1)) (by rw [ns.len r hr, hp]) (by rw [ns.len r hr]; exact h2) (ns.sm r hr) hs) gv_c)) trivial fun v H2 e2 _ hv => q v H2 (e1.trans (r0_ex e2)) ?_
      rw [hv]
      dsimp only
      rw [decide_eq_true hb]
      refine congrArg V.bl ?_
      rw [Bool.true_and]
      congr 1
      · congr 1; funext r; exact not_lt_dec _ _
      · congr 1; funext r; exact not_le_dec _ _
    · rw [decide_eq_false hb]
      refine iteT ?_
      exact q _ H1 e1 (by dsimp only; rw [decide_eq_false hb, Bool.false_and])
/-! _law_toward -/
def toward (s p : List Int) (least : Int) : List Int :=
  let t := if 0 ≤ value s p then s else neg s
  if least ≤ value t p then t else t.dropLast ++ [last t + 1]
abbrev N_toward : List Str := ["_law_shut", "_law_point_here", "_law_least", "_law_x"]
theorem sc_L_toward : FnScope N_toward ["_law_shut", "_law_point_here", "_law_least"] (defScope s_L_toward) := ⟨rfl, rfl, rfl, by decide +kernel, rfl, by decide +kernel, by decide +kernel⟩
theorem do_L_toward (T : Txt K mg C) : Does P w K mg base 2 "_law_toward" ["_law_shut", "_law_point_here", "_law_least"]
    (PrG (fun (g : List Int × List Int × Int) vs H => ∃ v u, vs = [v, u, .int g.2.2] ∧ Row K g.1 v H ∧ Row K g.2.1 u H ∧ g.1.length = g.2.1.length ∧ 1 ≤ g.1.length ∧ g.1.length ≤ 1000 ∧ Sm g.1 ∧ Sm g.2.1) fun g => Row K (toward g.1 g.2.1 g.2.2)) :=
  mk_doesG T.L_toward sc_L_toward (fun _ _ _ _ _ _ us hl => match us, hl with | [_, _, _], _ => rfl) (fun g vs H h => by obtain ⟨v, u, rfl, _⟩ := h; rfl) fun f cdv A outer s H vs Q E g hr h q => by
    obtain ⟨sh, p, le⟩ := g
    obtain ⟨v, u, rfl, hv, hu, h1, h2, h3, h4, h5⟩ := h
    dsimp only at hv hu h1 h2 h3 h4 h5
    have nd := (sc_L_toward).nd
    refine ⟨_, pss_cons (ps_set (i := 0) nd rfl (Or.inl rfl) (pe_ifExp (pt_cmpR op_ge (pe_do (do_L_value T) hr (by rfl) (pa_cons (pv 0) (pa_cons (pv 1) pa_nil))) pe_int (nomark _)) (pv 0)
        (pe_callTy call_tuple_of (by rfl) T.z_tuple (by decide +kernel) (pa_cons (pe_lc (own := [("_law_x", 3)]) (g := gName 3) (tt := tYes) rfl nd (pi_tup (pv 0)) (blkOk_by (N := N_toward) (sc := defScope s_L_toward) (by decide +kernel)) (fun _ _ _ _ _ => pg_name (i := 3) nd rfl (Or.inl rfl)) (fun _ _ _ _ _ => pts_nil) (fun _ _ _ _ _ => pe_un un_neg (pv 3))) pa_nil))))
      (pss_one (ps_ret (pe_ifExp (pt_cmpR op_ge (pe_do (do_L_value T) hr (by rfl) (pa_cons (pv 0) (pa_cons (pv 1) pa_nil))) (pv 2) (nomark _)) (pv 0)
        (pe_op op_catA (pe_slice sl_tupA (pv 0) po_none (po_some (pe_un un_neg pe_int))) (pe_tup (pa_cons (pe_op op_add (pe_ix ix_tup (pv 0) (pe_un un_neg pe_int) (fun _ _ => rfl)) pe_int) pa_nil)))))), ?_⟩
    -- the wall, turned about
    refine Gv.go (R := R0) (P := Row K (if 0 ≤ value sh p then sh else neg sh)) (gv_if (A := (· = decide (0 ≤ value sh p))) (gt_test (gv_I0 (g := fun i j => .bl (decide (j ≤ i))) (gv_value (gv_slot mo_row trivial rfl hv) (gv_slot mo_row trivial rfl hu) h1 h3 h4 h5) gv_c))
      (fun e => by rw [if_pos (of_decide_eq_true e.symm)]; exact gv_slot mo_row trivial rfl hv)
      (fun e => by rw [if_neg (of_decide_eq_false e.symm)]; exact gv_tuple (gv_mapR (fun x => -x) (gv_slot mo_row trivial rfl hv) h3 trivial (fun x => rfl) fun D x H1 hx o t => gv_U (g := fun i => .int (-i)) (gv_varI rfl)))) trivial fun v1 H1 e1 _ hv1 => ?_
    have e1 := r0_ex e1
    have hu1 := mo_row (R := R0) u H H1 (Rel.ex e1) trivial hu
    have ht : (if 0 ≤ value sh p then sh else neg sh).length = sh.length ∧ Sm (if 0 ≤ value sh p then sh else neg sh) := by
      split
      · exact ⟨rfl, h4⟩
      · exact ⟨by simp [neg], sm_neg' h4⟩
    have et : toward sh p le = if le ≤ value (if 0 ≤ value sh p then sh else neg sh) p then (if 0 ≤ value sh p then sh else neg sh) else (if 0 ≤ value sh p then sh else neg sh).dropLast ++ [last (if 0 ≤ value sh p then sh else neg sh) + 1] := rfl
    dsimp only at q
    rw [et] at q
    generalize (if 0 ≤ value sh p then sh else neg sh) = t at *
    obtain ⟨t1, t2⟩ := ht
    have hne : t ≠ [] := fun e => by rw [e] at t1; simp at t1; omega
    refine Gv.go (R := R0) (P := Row K (if le ≤ value t p then t else t.dropLast ++ [last t + 1])) (gv_if (A := (· = decide (le ≤ value t p))) (gt_test (gv_I0 (g := fun i j => .bl (decide (j ≤ i))) (gv_value (gv_slot mo_row trivial rfl hv1) (gv_slot mo_row trivial rfl hu1) (by rw [t1, h1]) (by rw [t1]; exact h3) t2 h5) (gv_varI rfl)))
      (fun e => by rw [if_pos (of_decide_eq_true e.symm)]; exact gv_slot mo_row trivial rfl hv1)
      (fun e => by rw [if_neg (of_decide_eq_false e.symm)]; exact gv_catR (gv_init (gv_slot mo_row trivial rfl hv1) hne) (gv_tup1 (gv_I0 (g := fun i j => .int (i + j)) (gv_lastR (gv_slot mo_row trivial rfl hv1) hne) gv_c)) (by simp; omega))) trivial fun v2 H2 e2 _ hv2 => ?_
    exact q v2 H2 (e1.trans (r0_ex e2)) hv2
end
end Tm
end
section
set_option Elab.async false
set_option linter.all false
set_option maxRecDepth 100000
set_option maxHeartbeats 2000000
namespace Tm
open PySem PySem.Spec PyProof.Rows L2
/-- not greater than so much -/
def Lim (b : Nat) (xs : List Int) : Prop := ∀ x ∈ xs, x.natAbs ≤ b
theorem Lim.sm {b : Nat} {xs : List Int} (h : Lim b xs) (hb : b ≤ 100000000) : Sm xs := fun x hx => lim_small (Nat.le_trans (h x hx) hb)
theorem Lim.neg {b : Nat} {xs : List Int} (h : Lim b xs) : Lim b (neg xs) := fun x hx => by
  unfold Tm.neg at hx
  obtain ⟨y, hy, rfl⟩ := List.mem_map.mp hx
  rw [Int.natAbs_neg]
  exact h y hy
section
variable {R : Rel} {K : PySem.W.Frag} {σ : L2.St} {H : Hp} {ta tb : TE}
/-- an item at a written place -/
theorem gv_at {xs : List Int} {i : Nat} (ha : Gv R ta σ H (Row K xs)) (h : i < xs.length) : Gv R (tOp (rIxT K) ta (tC (.int (i : Int)))) σ H (Is (.int (xs.getD i 0))) := gv_ixR ha gv_c (at_nat h)
theorem gv_mulW {i j : Int} (ha : Gv R ta σ H (Is (.int i))) (hb : Gv R tb σ H (Is (.int j))) (h1 : i.natAbs < lim) (h2 : j.natAbs < lim) : Gv R (tOp (rI CMulW fun i j => .int (i * j)) ta tb) σ H (Is (.int (i * j))) := gv_I (g := fun i j => .int (i * j)) ha hb (sm_wide h1 h2)
theorem gv_sub {i j : Int} (ha : Gv R ta σ H (Is (.int i))) (hb : Gv R tb σ H (Is (.int j))) : Gv R (tOp (rI0 fun i j => .int (i - j)) ta tb) σ H (Is (.int (i - j))) := gv_I0 (g := fun i j => .int (i - j)) ha hb
theorem gv_add {i j : Int} (ha : Gv R ta σ H (Is (.int i))) (hb : Gv R tb σ H (Is (.int j))) : Gv R (tOp (rI0 fun i j => .int (i + j)) ta tb) σ H (Is (.int (i + j))) := gv_I0 (g := fun i j => .int (i + j)) ha hb
theorem gv_negI {i : Int} (ha : Gv R ta σ H (Is (.int i))) : Gv R (tUn (rU fun i => .int (-i)) ta) σ H (Is (.int (-i))) := gv_U (g := fun i => .int (-i)) ha
end
section
variable {P : Program} {w : World} {K : PySem.W.Frag} {mg : Str → Option Value} {base : Heap} {C : Addr}
/-! _law_cut -/
abbrev N_cut : List Str := ["_law_one", "_law_other", "_law_point_here", "_law_x"]
theorem sc_L_cut : FnScope N_cut ["_law_one", "_law_other"] (defScope s_L_cut) := ⟨rfl, rfl, rfl, by decide +kernel, rfl, by decide +kernel, by decide +kernel⟩
abbrev postCut (K : PySem.W.Frag) (a b : List Int) : Pv := fun v H => match cut a b with
  | none => v = .non
  | some p => Row K p v H
theorem do_L_cut (T : Txt K mg C) : Does P w K mg base 1 "_law_cut" ["_law_one", "_law_other"]
    (PrG (fun (g : List Int × List Int) vs H => ∃ v u, vs = [v, u] ∧ Row K g.1 v H ∧ Row K g.2 u H ∧ (g.1.length = 2 ∨ g.1.length = 3) ∧ g.2.length = g.1.length ∧ Lim 10000000 g.1 ∧ Lim 10000000 g.2) fun g => postCut K g.1 g.2) :=
  mk_doesG T.L_cut sc_L_cut (fun _ _ _ _ _ _ us hl => match us, hl with | [_, _], _ => rfl) (fun g vs H h => by obtain ⟨v, u, rfl, _⟩ := h; rfl) fun f cdv A outer s H vs Q E g hr h q => by
    obtain ⟨a, b⟩ := g
    obtain ⟨v, u, rfl, hv, hu, h1, h2, h3, h4⟩ := h
    dsimp only at hv hu h1 h2 h3 h4
    have nd := (sc_L_cut).nd
    refine ⟨_, pss_cons (ps_if (pt_cmpR op_eq (pe_callB call_len_seq (by rfl) T.z_len boot_len (pa_cons (pv 0) pa_nil)) pe_int (nomark _))
        (pss_one (ps_set (i := 2) nd rfl (Or.inl rfl) (pe_tup (pa_cons (pe_un un_neg (pe_ix ix_tup (pv 0) pe_int (fun _ _ => rfl))) (pa_cons (pe_ix ix_tup (pv 0) pe_int (fun _ _ => rfl)) pa_nil)))))
        (pss_one (ps_set (i := 2) nd rfl (Or.inl rfl) (pe_tup (pa_cons (pe_op op_sub (pe_op op_mulW (pe_ix ix_tup (pv 0) pe_int (fun _ _ => rfl)) (pe_ix ix_tup (pv 1) pe_int (fun _ _ => rfl))) (pe_op op_mulW (pe_ix ix_tup (pv 0) pe_int (fun _ _ => rfl)) (pe_ix ix_tup (pv 1) pe_int (fun _ _ => rfl))))
          (pa_cons (pe_op op_sub (pe_op op_mulW (pe_ix ix_tup (pv 0) pe_int (fun _ _ => rfl)) (pe_ix ix_tup (pv 1) pe_int (fun _ _ => rfl))) (pe_op op_mulW (pe_ix ix_tup (pv 0) pe_int (fun _ _ => rfl)) (pe_ix ix_tup (pv 1) pe_int (fun _ _ => rfl))))
          (pa_cons (pe_op op_sub (pe_op op_mulW (pe_ix ix_tup (pv 0) pe_int (fun _ _ => rfl)) (pe_ix ix_tup (pv 1) pe_int (fun _ _ => rfl))) (pe_op op_mulW (pe_ix ix_tup (pv 0) pe_int (fun _ _ => rfl)) (pe_ix ix_tup (pv 1) pe_int (fun _ _ => rfl)))) pa_nil)))))))
      (pss_cons (ps_if (pt_cmpR op_eq (pe_ix ix_tup (pv 2) (pe_un un_neg pe_int) (fun _ _ => rfl)) pe_int (nomark _)) (pss_one (ps_ret pe_non)) pss_nil)
      (pss_one (ps_ret (pe_ifExp (pt_cmpR op_gt (pe_ix ix_tup (pv 2) (pe_un un_neg pe_int) (fun _ _ => rfl)) pe_int (nomark _)) (pv 2)
        (pe_callTy call_tuple_of (by rfl) T.z_tuple (by decide +kernel) (pa_cons (pe_lc (own := [("_law_x", 3)]) (g := gName 3) (tt := tYes) rfl nd (pi_tup (pv 2)) (blkOk_by (N := N_cut) (sc := defScope s_L_cut) (by decide +kernel)) (fun _ _ _ _ _ => pg_name (i := 3) nd rfl (Or.inl rfl)) (fun _ _ _ _ _ => pts_nil) (fun _ _ _ _ _ => pe_un un_neg (pv 3))) pa_nil)))))), ?_⟩
    -- what follows the first statement
    have fin : ∀ (v2 : V) (H1 : Hp), Ex H H1 → raw a b ≠ [] → (raw a b).length ≤ 3 → Row K (raw a b) v2 H1 →
        tSeq (tIfS (tTest (tOp rEq (tOp (rIxT K) (tVar 2) (tUn (rU fun i => .int (-i)) (tC (.int 1)))) (tC (.int 0)))) (tRet (tC .non)) tNext)
          (tRet (tIf (tTest (tOp (rI0 fun i j => .bl (decide (j < i))) (tOp (rIxT K) (tVar 2) (tUn (rU fun i => .int (-i)) (tC (.int 1)))) (tC (.int 0)))) (tVar 2)
            (tCB (fun xs H Q => ∃ p ys, xs = [.ref p] ∧ ((SqL K H p ys ∧ ∀ l, H l = none → Q (.ref l) (upd H l (.tup ys))) ∨ (SqT K H p ys ∧ Q (.ref p) H))) (tCons (tLc (iTup K (tVar 2)) (gName 3) tYes (tUn (rU fun i => .int (-i)) (tVar 3)) [3]) tNil))))
          { nx := fun _ H' => Q .non H', rt := Q } [some v, some u, some v2, none] H1 := by
      intro v2 H1 e1 hne hlen hr2
      refine GvT.go (R := R0) (P := (· = decide (last (raw a b) = 0))) (gt_is (gt_test (gv_eq (gv_lastR (gv_slot mo_row trivial rfl hr2) hne) gv_c rfl)) (by by_cases e : last (raw a b) = 0 <;> simp [e])) trivial fun c H2 e2 _ hc => ?_
      have e2 := r0_ex e2
      subst hc
      by_cases h0 : last (raw a b) = 0
      · rw [decide_eq_true h0]
        refine iteT ?_
        refine q _ H2 (e1.trans e2) ?_
        show postCut K a b .non H2
        unfold postCut cut
        rw [if_pos h0]
      · rw [decide_eq_false h0]
        refine iteF ?_
        have hr3 := mo_row (R := R0) v2 H1 H2 (Rel.ex e2) trivial hr2
        unfold tNext tRet
        dsimp only
        refine Gv.go (R := R0) (P := Row K (if 0 < last (raw a b) then raw a b else neg (raw a b))) ?_ trivial fun v3 H3 e3 _ hv3 => ?_
        · exact gv_if (A := (· = decide (0 < last (raw a b)))) (gt_test (gv_I0 (g := fun i j => .bl (decide (j < i))) (gv_lastR (gv_slot mo_row trivial rfl hr3) hne) gv_c))
            (fun e => by rw [if_pos (of_decide_eq_true e.symm)]; exact gv_slot mo_row trivial rfl hr3)
            (fun e => by rw [if_neg (of_decide_eq_false e.symm)]; exact gv_tuple (gv_mapR (fun x => -x) (gv_slot mo_row trivial rfl hr3) (by omega) trivial (fun x => rfl) fun D x H1 hx o t => gv_negI (gv_varI rfl)))
        · refine q _ H3 ((e1.trans e2).trans (r0_ex e3)) ?_
          show postCut K a b v3 H3
          unfold postCut cut
          rw [if_neg h0]
          exact hv3
    have ga : Gv R0 (tVar 0) [some v, some u, none, none] H (Row K a) := gv_slot mo_row trivial rfl hv
    have gb : Gv R0 (tVar 1) [some v, some u, none, none] H (Row K b) := gv_slot mo_row trivial rfl hu
    refine GvT.go (R := R0) (P := (· = decide (a.length = 2))) (gt_is (gt_test (gv_eq (gv_lenR ga) gv_c rfl)) (by rcases h1 with h | h <;> simp [h])) trivial fun c H1 e1 _ hc => ?_
    have e1' := r0_ex e1
    have ga1 := ga.later e1
    have gb1 := gb.later e1
    subst hc
    rcases h1 with h1 | h1
    · rw [decide_eq_true h1]
      refine iteT ?_
      obtain ⟨a0, a1, rfl⟩ := len2 h1
      refine Gv.go (R := R0) (P := Row K [-a1, a0]) (gv_tupK (vs := [.int (-a1), .int a0]) (ga_k (gv_negI (gv_at (i := 1) ga1 (by simp))) (ga_k (gv_at (i := 0) ga1 (by simp)) ga_n)) (by simp)) trivial fun v2 H2 e2 _ hv2 => ?_
      exact fin v2 H2 (e1'.trans (r0_ex e2)) (by simp [raw]) (by simp [raw]) hv2
    · rw [decide_eq_false (by omega)]
      refine iteF ?_
      obtain ⟨a0, a1, a2, rfl⟩ := len3 h1
      obtain ⟨b0, b1, b2, rfl⟩ := len3 (by rw [h2]; exact h1)
      have la : ∀ x ∈ [a0, a1, a2], x.natAbs < lim := h3.sm (by decide)
      have lb : ∀ x ∈ [b0, b1, b2], x.natAbs < lim := h4.sm (by decide)
      have la0 := la a0 (by simp)
      have la1 := la a1 (by simp)
      have la2 := la a2 (by simp)
      have lb0 := lb b0 (by simp)
      have lb1 := lb b1 (by simp)
      have lb2 := lb b2 (by simp)
      refine Gv.go (R := R0) (P := Row K [a1 * b2 - a2 * b1, a2 * b0 - a0 * b2, a0 * b1 - a1 * b0]) (gv_tupK (vs := [.int (a1 * b2 - a2 * b1), .int (a2 * b0 - a0 * b2), .int (a0 * b1 - a1 * b0)])
        (ga_k (gv_sub (gv_mulW (gv_at (i := 1) ga1 (by simp)) (gv_at (i := 2) gb1 (by simp)) la1 lb2) (gv_mulW (gv_at (i := 2) ga1 (by simp)) (gv_at (i := 1) gb1 (by simp)) la2 lb1))
        (ga_k (gv_sub (gv_mulW (gv_at (i := 2) ga1 (by simp)) (gv_at (i := 0) gb1 (by simp)) la2 lb0) (gv_mulW (gv_at (i := 0) ga1 (by simp)) (gv_at (i := 2) gb1 (by simp)) la0 lb2))
        (ga_k (gv_sub (gv_mulW (gv_at (i := 0) ga1 (by simp)) (gv_at (i := 1) gb1 (by simp)) la0 lb1) (gv_mulW (gv_at (i := 1) ga1 (by simp)) (gv_at (i := 0) gb1 (by simp)) la1 lb0)) ga_n))) (by simp)) trivial fun v2 H2 e2 _ hv2 => ?_
      exact fin v2 H2 (e1'.trans (r0_ex e2)) (by simp [raw]) (by simp [raw]) hv2
end
end Tm
end
section
set_option Elab.async false
set_option linter.all false
set_option maxRecDepth 100000
set_option maxHeartbeats 2000000
namespace Tm
open PySem PySem.Spec PyProof.Rows L2
section
variable {R : Rel} {K : PySem.W.Frag} {σ : L2.St} {H : Hp} {ta tb te : TE}
theorem al_append {Pe : List Int → Pv} {rs ts : List (List Int)} {vs ws : List V} (h1 : Al Pe rs vs H) (h2 : Al Pe ts ws H) : Al Pe (rs ++ ts) (vs ++ ws) H := by
  refine ⟨by simp [h1.1, h2.1], fun i y r a b => ?_⟩
  by_cases hi : i < rs.length
  · rw [List.getElem?_append_left hi] at b
    rw [List.getElem?_append_left (by rw [h1.1]; exact hi)] at a
    exact h1.2 i y r a b
  · rw [List.getElem?_append_right (by omega)] at b
    rw [List.getElem?_append_right (by rw [h1.1]; omega), h1.1] at a
    exact h2.2 _ y r a b
theorem al_one {Pe : List Int → Pv} {r : List Int} {v : V} (h : Pe r v H) : Al Pe [r] [v] H := by
  refine ⟨rfl, fun i y q a b => ?_⟩
  cases i with
  | zero =>
    rw [← Option.some.inj a, ← Option.some.inj b]
    exact h
  | succ i => simp at a
theorem al_nil {Pe : List Int → Pv} : Al Pe [] [] H := ⟨rfl, fun i y q a => by simp at a⟩
theorem gv_catRows {rs ts : List (List Int)} (ha : Gv R ta σ H (RowsT K rs)) (hb : Gv R tb σ H (RowsT K ts)) (hl : rs.length + ts.length ≤ 100000) : Gv R (tOp (rCatA K) ta tb) σ H (RowsT K (rs ++ ts)) :=
  gv_op ha hb mo_rowsT fun x y H1 e o ⟨a, xs, h1, h2, h3⟩ ⟨b, ys, h4, h5, h6⟩ Q k => by
    have al := al_append h3 h6
    refine ⟨a, b, xs, ys, h1, h4, h2, h5, sz_of (by rw [h3.1, h6.1]; exact hl), fun z => k _ H1 (Rel.refl _) o ⟨b, ys, rfl, h5, ?_⟩, fun _ z => k _ H1 (Rel.refl _) o ⟨a, xs, rfl, h2, ?_⟩,
      fun _ _ p np => k _ _ (Rel.ex (Ex.new np)) (R.ext _ _ (Ex.new np) o) ⟨p, xs ++ ys, rfl, st_of upd_same, al_row (R := R) (Rel.ex (Ex.new np)) o al⟩⟩
    · rw [z] at al; exact al
    · rw [z, List.append_nil] at al; exact al
theorem gv_oneRow {r : List Int} (h : Gv R te σ H (Row K r)) : Gv R (tTup (tCons te tNil)) σ H (RowsT K [r]) :=
  gv_tup (ga_1 h) (fun vs H1 ⟨v, e, _⟩ => by rw [e]; simp) fun vs H1 p e o ⟨v, e1, e2⟩ np => ⟨p, [v], rfl, by rw [e1]; exact st_of upd_same, al_one (mo_row (R := R) v H1 _ (Rel.ex (Ex.new np)) o e2)⟩
theorem gv_twoRows {r s : List Int} (h1 : Gv R ta σ H (Row K r)) (h2 : Gv R tb σ H (Row K s)) : Gv R (tTup (tCons ta (tCons tb tNil))) σ H (RowsT K [r, s]) :=
  gv_tup (ga_2 h1 mo_row h2) (fun vs H1 ⟨v, w, e, _⟩ => by rw [e]; simp) fun vs H1 p e o ⟨v, w, e1, e2, e3⟩ np => ⟨p, [v, w], rfl, by rw [e1]; exact st_of upd_same,
    al_append (al_one (mo_row (R := R) v H1 _ (Rel.ex (Ex.new np)) o e2)) (al_one (mo_row (R := R) w H1 _ (Rel.ex (Ex.new np)) o e3))⟩
end
section
variable {P : Program} {w : World} {K : PySem.W.Frag} {mg : Str → Option Value} {base : Heap} {C : Addr}
/-! _law_box -/
def unitRow (W i : Nat) : List Int := List.replicate i 0 ++ [1] ++ List.replicate (W - 2 - i) 0
def boxAt (W : Nat) (k : Int) (i : Nat) : List (List Int) := [neg (unitRow W i) ++ [k], unitRow W i ++ [k]]
theorem box_eq (W : Nat) (hW : W = 2 ∨ W = 3) (k : Int) : (List.range (W - 1)).flatMap (boxAt W k) = box W k := by
  rcases hW with rfl | rfl <;> rfl
abbrev N_box : List Str := ["_law_width", "_law_k", "_law_found", "_law_at", "_law_one", "_law_x"]
theorem sc_L_box : FnScope N_box ["_law_width", "_law_k"] (defScope s_L_box) := ⟨rfl, rfl, rfl, by decide +kernel, rfl, by decide +kernel, by decide +kernel⟩
theorem do_L_box (T : Txt K mg C) : Does P w K mg base 1 "_law_box" ["_law_width", "_law_k"]
    (PrG (fun (g : Nat × Int) vs H => vs = [.int (g.1 : Int), .int g.2] ∧ (g.1 = 2 ∨ g.1 = 3)) fun g => RowsT K (box g.1 g.2)) :=
  mk_doesG T.L_box sc_L_box (fun _ _ _ _ _ _ us hl => match us, hl with | [_, _], _ => rfl) (fun g vs H h => by rw [h.1]; rfl) fun f cdv A outer s H vs Q E g hr h q => by
    obtain ⟨W, k⟩ := g
    obtain ⟨rfl, hW⟩ := h
    dsimp only at hW
    have nd := (sc_L_box).nd
    refine ⟨_, pss_cons (ps_set (i := 2) nd rfl (Or.inl rfl) (pe_tup pa_nil))
      (pss_cons (ps_for PassesOwn.never rfl (pi_range1 (by rfl) T.z_range (pa_cons (pe_op op_sub (pv 0) pe_int) pa_nil)) (pg_name (i := 3) nd rfl (Or.inl rfl))
        (pss_cons (ps_set (i := 4) nd rfl (Or.inl rfl) (pe_op op_catA (pe_op op_catA (pe_op op_repA (pe_tup (pa_cons pe_int pa_nil)) (pv 3)) (pe_tup (pa_cons pe_int pa_nil))) (pe_op op_repA (pe_tup (pa_cons pe_int pa_nil)) (pe_op op_sub (pe_op op_sub (pv 0) pe_int) (pv 3)))))
        (pss_one (ps_set (i := 2) nd rfl (Or.inl rfl) (pe_op op_catA (pv 2) (pe_tup (pa_cons (pe_op op_catA
            (pe_callTy call_tuple_of (by rfl) T.z_tuple (by decide +kernel) (pa_cons (pe_lc (own := [("_law_x", 5)]) (g := gName 5) (tt := tYes) rfl nd (pi_tup (pv 4)) (blkOk_by (N := N_box) (sc := defScope s_L_box) (by decide +kernel)) (fun _ _ _ _ _ => pg_name (i := 5) nd rfl (Or.inl rfl)) (fun _ _ _ _ _ => pts_nil) (fun _ _ _ _ _ => pe_un un_neg (pv 5))) pa_nil))
            (pe_tup (pa_cons (pv 1) pa_nil))) (pa_cons (pe_op op_catA (pv 4) (pe_tup (pa_cons (pv 1) pa_nil))) pa_nil))))))))
      (pss_one (ps_ret (pv 2)))), ?_⟩
    refine ⟨Nat.zero_le _, fun p np => ?_⟩
    have e0 : Ex H (upd H p (.tup [])) := Ex.new np
    have hW1 : 1 ≤ W - 1 ∧ W - 1 ≤ 2 := by omega
    refine g_name ?_
    dsimp only
    show tSeq (tFor _ _ _) _ _ [some (.int (W : Int)), some (.int k), some (.ref p), none, none, none] _
    refine st_for (R := R0) (n := W - 1) (Y := YFn fun i => .int (0 + i)) ?_ trivial (fun i σ' H' => ∃ v2 s3 s4 s5, σ' = [some (.int (W : Int)), some (.int k), some v2, s3, s4, s5] ∧ RowsT K ((List.range i).flatMap (boxAt W k)) v2 H') (fun H1 e1 _ => ⟨_, none, none, none, rfl, p, [], rfl, ex_tup (r0_ex e1) (st_of upd_same), al_nil⟩) (fun i x σ' H' H'' hi e' _ hp y => ?_) (fun σ' H' e' _ hp => ?_)
    · have := gi_rng1 (R := R0) (σ := [some (.int (W : Int)), some (.int k), some (.ref p), none, none, none]) (H := upd H p (.tup [])) (ta := tCons (tOp (rI0 fun i j => .int (i - j)) (tVar 0) (tC (.int 1))) tNil) (n := (W : Int) - 1) (ga_k (gv_sub (gv_varI rfl) gv_c) ga_n) (by omega)
      rw [show ((W : Int) - 1).toNat = W - 1 by omega] at this
      exact this
    · obtain ⟨v2, s3, s4, s5, rfl, hv2⟩ := hp
      obtain ⟨rfl, rfl⟩ := y
      refine g_name ?_
      dsimp only
      show tSeq _ _ _ [some (.int (W : Int)), some (.int k), some v2, some (.int (0 + (i : Int))), s4, s5] H''
      have ei : (0 : Int) + (i : Int) = (i : Int) := Int.zero_add _
      rw [ei]
      refine st_asg (R := R0) (P := Row K (unitRow W i)) ?_ trivial fun v4 H2 e2 _ hv4 => ?_
      · have e1 : (List.replicate (i : Int).toNat (0 : Int)) = List.replicate i 0 := by rw [Int.toNat_natCast]
        have e3 : (List.replicate ((W : Int) - 2 - (i : Int)).toNat (0 : Int)) = List.replicate (W - 2 - i) 0 := by rw [show ((W : Int) - 2 - (i : Int)).toNat = W - 2 - i by omega]
        have g1 := gv_zeros (R := R0) (K := K) (σ := [some (.int (W : Int)), some (.int k), some v2, some (.int (i : Int)), s4, s5]) (H := H'') (tb := tVar 3) (k := (i : Int)) (gv_varI rfl) (by omega) (by omega)
        have g3 := gv_zeros (R := R0) (K := K) (σ := [some (.int (W : Int)), some (.int k), some v2, some (.int (i : Int)), s4, s5]) (H := H'') (tb := tOp (rI0 fun i j => .int (i - j)) (tOp (rI0 fun i j => .int (i - j)) (tVar 0) (tC (.int 2))) (tVar 3)) (k := (W : Int) - 2 - (i : Int)) (gv_sub (gv_sub (gv_varI rfl) gv_c) (gv_varI rfl)) (by omega) (by omega)
        rw [e1] at g1
        rw [e3] at g3
        exact gv_catR (gv_catR g1 (gv_tup1 gv_c) (by simp; omega)) g3 (by simp; omega)
      · have e2 := r0_ex e2
        have hl4 : (unitRow W i).length ≤ 1000 := by unfold unitRow; simp; omega
        have hv2' := mo_rowsT (R := R0) v2 H'' H2 (Rel.ex e2) trivial hv2
        show tAsg _ _ _ [some (.int (W : Int)), some (.int k), some v2, some (.int (i : Int)), some v4, s5] H2
        refine st_asg1 (R := R0) (P := RowsT K ((List.range i).flatMap (boxAt W k) ++ boxAt W k i)) ?_ trivial fun v5 H3 e3 _ hv5 => ?_
        · refine gv_catRows (gv_slot mo_rowsT trivial rfl hv2') (gv_twoRows (gv_catR (gv_tuple (gv_mapR (fun x => -x) (gv_slot mo_row trivial rfl hv4) hl4 trivial (fun x => rfl) fun D x H1 hx o t => gv_negI (gv_varI rfl))) (gv_tup1 (gv_varI rfl)) (by simp [neg]; omega)) (gv_catR (gv_slot mo_row trivial rfl hv4) (gv_tup1 (gv_varI rfl)) (by simp; omega))) ?_
          have : ∀ n, ((List.range n).flatMap (boxAt W k)).length = 2 * n := fun n => by
            induction n with
            | zero => rfl
            | succ n ih => rw [List.range_succ, List.flatMap_append, List.length_append, ih]; simp [boxAt]; omega
          rw [this]
          show 2 * i + 2 ≤ 100000
          omega
        · refine ⟨Rel.trans (Rel.ex e2) e3, trivial, v5, some (.int (i : Int)), some v4, s5, rfl, ?_⟩
          rw [List.range_succ, List.flatMap_append]
          simpa using hv5
    · obtain ⟨v2, s3, s4, s5, rfl, hv2⟩ := hp
      rw [box_eq W hW] at hv2
      exact ⟨v2, rfl, q _ H' (e0.trans (r0_ex e')) hv2⟩
end
end Tm
end
section
set_option Elab.async false
set_option linter.all false
set_option maxRecDepth 100000
set_option maxHeartbeats 2000000
namespace Tm
open PySem PySem.Spec PyProof.Rows L2
/-- a list of one's own may change -/
def Rel.mut (R : Rel) (D : Addr) : Rel where
  M a := R.M a ∨ a = D
  W a := R.W a ∨ a = D
  sub a h := h.imp (R.sub a) id
  ok H := R.ok H ∧ ∃ xs, H D = some (.lst xs)
  sep H a o m := by
    rcases m with m | rfl
    · exact R.sep H a o.1 m
    · exact .inr (.inl o.2)
  ext H H' e o := ⟨R.ext H H' e o.1, o.2.imp fun xs h => e D _ h⟩
  put H p u o m := ⟨R.put H p u o.1 fun z => m (.inl z), o.2.imp fun xs h => by rw [upd_ne fun z => m (.inr z.symm)]; exact h⟩
theorem mut_ex {H H' : Hp} {p : Addr} (np : H p = none) {H1 : Hp} (e : Ex H H1) (r : (R0.mut p).r H1 H') : Ex H H' := fun a o h => r a o (e a o h) (by
  rintro (z | rfl)
  · exact z
  · rw [np] at h; cases h)
section
variable {R : Rel} {K : PySem.W.Frag} {σ : L2.St} {H : Hp} {ta tb te tl : TE} {D : Ends} {u : TS}
/-- L.append(e), L a list that may change -/
theorem put_mut {L : Addr} {H : Hp} (o : (R.mut L).ok H) (hL : ¬ R.W L) (zs : List V) : (R.mut L).r H (upd H L (.lst zs)) ∧ (R.mut L).ok (upd H L (.lst zs)) :=
  ⟨fun a u h m => by rw [upd_ne fun z => m (.inr z)]; exact h, R.put _ _ _ o.1 hL, zs, upd_same⟩
end
section
variable {P : Program} {w : World} {K : PySem.W.Frag} {mg : Str → Option Value} {base : Heap} {C : Addr}
/-! _law_fits -/
abbrev N_fits : List Str := ["_law_shuts", "_law_shut", "_law_x"]
def lcScope : Expr → Scope
  | .ListComp _ _ sc _ => sc
  | _ => ⟨.function, [], false, false, []⟩
def cmpLeft : Stmt → Expr
  | .Return (some (.Compare a _ _ _)) _ => a
  | _ => .Constant .none 0 ⟨0, 0, 0, 0⟩
theorem sc_L_fits : FnScope N_fits ["_law_shuts"] (defScope s_L_fits) := ⟨rfl, rfl, rfl, by decide +kernel, rfl, by decide +kernel, by decide +kernel⟩
theorem do_L_fits (T : Txt K mg C) : Does P w K mg base 1 "_law_fits" ["_law_shuts"]
    (PrG (fun (r : List Int) vs H => ∃ v, vs = [v] ∧ RowsL R0 K [r] v H ∧ r.length ≤ 1000) fun r => Is (.bl (r.all fun x => decide (x.natAbs ≤ 1000000)))) :=
  mk_doesG T.L_fits sc_L_fits (fun _ _ _ _ _ _ us hl => match us, hl with | [_], _ => rfl) (fun g vs H h => by obtain ⟨v, rfl, _⟩ := h; rfl) fun f cdv A outer s H vs Q E r hr h q => by
    obtain ⟨v, rfl, ⟨a, ys, rfl, _, hq, al⟩, hl⟩ := h
    have nd := (sc_L_fits).nd
    refine ⟨_, pss_one (ps_ret (pe_cmpR (op_eqD hr.units) (pe_lc (own := [("_law_shut", 1)]) (g := gName 1) rfl nd (pi_list (pv 0)) (blkOk_by (N := N_fits) (sc := defScope s_L_fits) (by decide +kernel)) (fun _ _ _ _ _ => pg_name (i := 1) nd rfl (Or.inl rfl))
      (fun _ _ _ _ _ => pts_one (pt_cmpR (r := rNeD K) (op_neD hr.units) (pe_lc (own := [("_law_x", 2)]) (g := gName 2) (wi := iTup K (tVar 1)) (te := tVar 2) rfl nd (pi_tup (pv 1)) (blkOk_by (N := N_fits) (sc := relS (lcScope (cmpLeft ((defBody s_L_fits).getD 0 (.Pass ⟨0, 0, 0, 0⟩)))) (defScope s_L_fits)) (by decide +kernel)) (fun _ _ _ _ _ => pg_name (i := 2) nd rfl (Or.inl rfl))
        (fun _ _ _ _ _ => pts_one (pt_cmpR op_gt (pe_callB call_abs (by rfl) T.z_abs (by decide +kernel) (pa_cons (pv 2) pa_nil)) (pe_op op_pow pe_int pe_int) (nomark _))) (fun _ _ _ _ _ => pv 2)) (pe_lst pa_nil) (nomark _))) (fun _ _ _ _ _ => pe_int)) (pe_lst pa_nil) (nomark _))), ?_⟩
    refine st_ret (R := R0) (P := Is (.bl ([r].all fun r => !(!(r.all fun x => decide (x.natAbs ≤ 1000000))))) ) ?_ trivial fun v H1 e _ p => q v H1 (r0_ex e) (by rw [p]; simp)
    refine gv_is (gv_eqNil (Gv.imp (gv_which (rs := [r]) (ys := ys) (fun r => !(r.all fun x => decide (x.natAbs ≤ 1000000))) (gi_lst (gv_slot (P := fun v H => ∃ a, v = .ref a ∧ ¬ R0.W a ∧ SqL K H a ys) (fun v H H' e o ⟨a, h1, m, h2⟩ => ⟨a, h1, m, mo_lst e m h2⟩) trivial rfl ⟨a, rfl, id, hq⟩)) al (by simp) trivial (fun x => rfl) fun D r' y H1 hr' hy t o => ?_) fun v H' _ p => nil_ints (xs := (idx (fun i => !(([r].getD i []).all fun x => decide (x.natAbs ≤ 1000000))) [r].length).map fun _ => 1) (by rw [List.map_map]; exact p))) ?_
    · have er : r' = r := List.mem_singleton.mp hr'
      subst er
      refine gt_test (gv_is (gv_neNil (b := r'.all fun x => decide (x.natAbs ≤ 1000000)) (Gv.imp (gv_new (f := fun i => decide (1000000 < (r'.getD i 0).natAbs)) (n := (r'.map V.int).length) (h := fun i => .int (r'.getD i 0)) (gv_lcN (f := fun i => decide (1000000 < (r'.getD i 0).natAbs)) (Pe := fun _ i => Is (.int (r'.getD i 0))) (gi_tup (gv_slot mo_row o rfl hy)) (by rw [List.length_map]; omega) o (fun _ _ => mo_is) (fun x => rfl) fun D2 i x H2 hx t2 o2 => ?_)) fun v H' _ p => ?_)) rfl)
      · rw [List.getElem?_map] at hx
        cases qx : r'[i]? with
        | none => rw [qx] at hx; cases hx
        | some z =>
          rw [qx] at hx
          have e1 : V.int z = x := Option.some.inj hx
          subst e1
          have e2 : r'.getD i 0 = z := by rw [List.getD_eq_getElem?_getD, qx]; rfl
          rw [e2]
          refine ⟨gt_is (gt_test (gv_I0 (g := fun i j => .bl (decide (j < i))) (i := if z < 0 then -z else z) (j := 10 ^ 6) (gv_cb (ga_k (gv_varI rfl) ga_n) fun vs H3 _ o3 e3 Q k => ⟨z, e3, k _ H3 (Rel.refl _) o3 rfl⟩) (gv_I (C := CPow) (g := fun i j => .int (i ^ j.toNat)) gv_c gv_c ⟨by decide, by decide, by decide⟩))) ?_, fun _ => gv_varI rfl⟩
          have : (10 : Int) ^ 6 = 1000000 := by decide
          rw [this]
          congr 1
          refine propext ?_
          split <;> omega
      · have := nil_ints (K := K) (xs := (idx (fun i => decide (1000000 < (r'.getD i 0).natAbs)) r'.length).map fun i => r'.getD i 0) (by rw [List.map_map, ← List.length_map (f := V.int) (as := r')]; exact p)
        obtain ⟨a', ys', ds, h1, h2, h3, h4, h5⟩ := this
        refine ⟨a', ys', ds, h1, h2, h3, h4, ?_⟩
        rw [h5, List.isEmpty_map, idx_empty]
        have : ∀ i, (!decide (1000000 < (r'.getD i 0).natAbs)) = decide ((r'.getD i 0).natAbs ≤ 1000000) := fun i => by
          by_cases hh : 1000000 < (r'.getD i 0).natAbs
          · rw [decide_eq_true hh, decide_eq_false (by omega)]; rfl
          · rw [decide_eq_false hh, decide_eq_true (by omega)]; rfl
        simp only [this]
        rw [Bool.eq_iff_iff, List.all_eq_true, List.all_eq_true]
        constructor
        · intro h x hx
          obtain ⟨i, hi, e⟩ := List.mem_iff_getElem.mp hx
          have := h i (List.mem_range.mpr hi)
          simp only [List.getD_eq_getElem?_getD, List.getElem?_eq_getElem hi, Option.getD_some] at this
          rw [← e]
          exact this
        · intro h i hi
          have hi := List.mem_range.mp hi
          simp only [List.getD_eq_getElem?_getD, List.getElem?_eq_getElem hi, Option.getD_some]
          exact h _ (List.getElem_mem hi)
    · rw [List.isEmpty_map, idx_empty]
      exact congrArg V.bl (all_range [r] fun r => !(!(r.all fun x => decide (x.natAbs ≤ 1000000))))
/-- a list of rows, made on the way -/
def RowsN (R : Rel) (K : PySem.W.Frag) (rs : List (List Int)) : Pv := fun v H => ∃ a vs, v = .ref a ∧ ¬ R.W a ∧ H a = some (.lst vs) ∧ Al (Row K) rs vs H
theorem mo_rowsN {R : Rel} {rs : List (List Int)} : Mo R (RowsN R K rs) := fun v H H' e o ⟨a, vs, h1, m, h2, h3⟩ => ⟨a, vs, h1, m, e a _ h2 m, al_row e o h3⟩
theorem RowsN.l {R : Rel} {rs : List (List Int)} {v : V} {H : Hp} (h : RowsN R K rs v H) : RowsL R K rs v H := by
  obtain ⟨a, vs, h1, m, h2, h3⟩ := h
  exact ⟨a, vs, h1, m, sq_of h2, h3⟩
/-! _law_longer -/
abbrev N_longer : List Str := ["_law_points", "_law_found", "_law_x", "_law_point_here"]
theorem sc_L_longer : FnScope N_longer ["_law_points"] (defScope s_L_longer) := ⟨rfl, rfl, rfl, by decide +kernel, rfl, by decide +kernel, by decide +kernel⟩
def longerTo (rs : List (List Int)) (n : Nat) : List (List Int) := (List.range n).flatMap fun (i : Nat) => rs.map fun r => r ++ [-3 + (i : Int)]
theorem longerTo_len (rs : List (List Int)) (n : Nat) : (longerTo rs n).length = n * rs.length := by
  unfold longerTo
  induction n with
  | zero => simp
  | succ n ih => rw [List.range_succ, List.flatMap_append, List.length_append, ih]; simp [Nat.add_mul]
theorem map_range_rows {α : Type} (g : List Int → α) (rs : List (List Int)) : (List.range rs.length).map (fun i => g (rs.getD i [])) = rs.map g := by
  refine List.ext_getElem (by simp) fun i h1 h2 => ?_
  have : i < rs.length := by simpa using h2
  simp [List.getD_eq_getElem?_getD, this]
theorem do_L_longer (T : Txt K mg C) : Does P w K mg base 1 "_law_longer" ["_law_points"]
    (PrG (fun (rs : List (List Int)) vs H => ∃ v, vs = [v] ∧ RowsN R0 K rs v H ∧ rs.length ≤ 100 ∧ ∀ r ∈ rs, r.length ≤ 100) fun rs => RowsN R0 K (longerTo rs 7)) :=
  mk_doesG T.L_longer sc_L_longer (fun _ _ _ _ _ _ us hl => match us, hl with | [_], _ => rfl) (fun g vs H h => by obtain ⟨v, rfl, _⟩ := h; rfl) fun f cdv A outer s H vs Q E rs hr h q => by
    obtain ⟨v, rfl, ⟨a, ys, rfl, _, hq, al⟩, hl, hlr⟩ := h
    have nd := (sc_L_longer).nd
    refine ⟨_, pss_cons (ps_set (i := 1) nd rfl (Or.inl rfl) (pe_lst pa_nil))
      (pss_cons (ps_for PassesOwn.never rfl (pi_range2 (by rfl) T.z_range (pa_cons (pe_un un_neg pe_int) (pa_cons pe_int pa_nil))) (pg_name (i := 2) nd rfl (Or.inr rfl))
        (pss_one (ps_expr (pe_bm PySem.F.plainAttrs_list PySem.F.slot_list_extend PySem.F.type_list_extend mt_extend (pv 1) (pa_cons (pe_lc (own := [("_law_point_here", 3)]) (g := gName 3) (tt := tYes) rfl nd (pi_list (pv 0)) (blkOk_by (N := N_longer) (sc := defScope s_L_longer) (by decide +kernel)) (fun _ _ _ _ _ => pg_name (i := 3) nd rfl (Or.inl rfl)) (fun _ _ _ _ _ => pts_nil)
          (fun _ _ _ _ _ => pe_op (r := rCatA K) op_catA (pv 3) (pe_tup (pa_cons (pv 2) pa_nil)))) pa_nil)))))
      (pss_one (ps_ret (pv 1)))), ?_⟩
    refine ⟨Nat.zero_le _, fun L nL => ?_⟩
    have e0 : Ex H (upd H L (.lst [])) := Ex.new nL
    have aL : a ≠ L := ne_of_none hq nL
    have o0 : (R0.mut L).ok (upd H L (.lst [])) := ⟨trivial, [], upd_same⟩
    refine g_name ?_
    dsimp only
    show tSeq (tFor _ _ _) _ _ [some (.ref a), some (.ref L), none, none] _
    refine st_forP (R := R0.mut L) (n := 7) (Y := YFn fun i => .int (-3 + i)) (gp_rng2 (lo := -3) (n := 4) (ga_k (gv_negI gv_c) (ga_k gv_c ga_n)) (by decide) (by decide)) o0 (fun i σ' H' => ∃ s2 s3 zs, σ' = [some (.ref a), some (.ref L), s2, s3] ∧ H' a = some (.lst ys) ∧ Al (Row K) rs ys H' ∧ H' L = some (.lst zs) ∧ Al (Row K) (longerTo rs i) zs H') (fun H1 e1 => ?_) (fun i x σ' H' H'' hi r' o' hp y => ?_) (fun σ' H' r' o' hp => ?_)
    · exact ⟨none, none, [], rfl, e1 _ _ (e0 _ _ hq), al_row (R := R0) (Rel.ex (e0.trans e1)) trivial al, e1 _ _ upd_same, al_nil⟩
    · obtain ⟨s2, s3, zs, rfl, ha, al', hL, alz⟩ := hp
      obtain ⟨rfl, rfl⟩ := y
      refine g_name ?_
      show tDrop _ _ [some (.ref a), some (.ref L), some (.int (-3 + (i : Int))), s3] H''
      have hz : zs.length = i * rs.length := by rw [alz.1, longerTo_len]
      have hz2 : i * rs.length ≤ 7 * 100 := Nat.mul_le_mul (by omega) hl
      refine ⟨.ref L, rfl, .inl ⟨rfl, _, sq_of hL⟩, ?_⟩
      refine Gv.go (R := R0) (gv_lcN (R := R0) (σ := [some (.ref a), some (.ref L), some (.int (-3 + (i : Int))), s3]) (H := H'') (xs := ys) (fun _ => true) (fun _ j => Row K (rs.getD j [] ++ [-3 + (i : Int)])) (gi_lst (gv_slot (P := fun v H => ∃ a, v = .ref a ∧ ¬ R0.W a ∧ SqL K H a ys) (fun v H H' e o ⟨a, h1, m, h2⟩ => ⟨a, h1, m, mo_lst e m h2⟩) trivial rfl ⟨a, rfl, id, sq_of ha⟩)) (by rw [al.1]; omega) trivial (fun _ _ => mo_row) (fun x => rfl) fun D j x H1 hx t o => ⟨gt_yes, fun _ => ?_⟩) trivial fun v H3 e3 _ hv => ?_
      · have hj : j < rs.length := by rw [← al.1]; exact (List.getElem?_eq_some_iff.mp hx).1
        have ej : rs.getD j [] = rs[j] := by simp [List.getD_eq_getElem?_getD, hj]
        rw [ej]
        have hrow := row_thru t (al'.2 j x rs[j] hx (List.getElem?_eq_getElem hj))
        have := hlr rs[j] (List.getElem_mem hj)
        exact gv_catR (gv_slot mo_row o rfl hrow) (gv_tup1 (gv_varI rfl)) (by simp; omega)
      · obtain ⟨D, ws, rfl, _, hD, hf⟩ := hv
        have e3 := r0_ex e3
        rw [idx_all (fun _ _ => rfl), al.1] at hf
        have alw := al_fits hf
        rw [map_range_rows (fun r => r ++ [-3 + (i : Int)])] at alw
        have lw : ws.length = rs.length := by rw [alw.1, List.length_map]
        have hL3 := e3 _ _ hL
        refine ⟨L, D, zs, ws, rfl, rfl, hL3, hD, sz_of (by omega), ?_⟩
        have oL : (R0.mut L).ok H3 := ⟨trivial, zs, hL3⟩
        obtain ⟨g1, g2⟩ := put_mut (R := R0) oL id (zs ++ ws)
        refine ⟨Rel.trans (Rel.ex e3) g1, g2, some (.int (-3 + (i : Int))), s3, zs ++ ws, rfl, ?_, ?_, upd_same, ?_⟩
        · rw [upd_ne aL]; exact e3 _ _ ha
        · exact al_row (R := R0.mut L) (Rel.rq g1) oL (al_row (R := R0) (Rel.ex e3) trivial al')
        · have := al_append (al_row (R := R0.mut L) (Rel.rq g1) oL (al_row (R := R0) (Rel.ex e3) trivial alz)) (al_row (R := R0.mut L) (Rel.rq g1) oL alw)
          unfold longerTo
          rw [List.range_succ, List.flatMap_append]
          simpa [longerTo] using this
    · obtain ⟨s2, s3, zs, rfl, ha, al', hL, alz⟩ := hp
      refine ⟨.ref L, rfl, q _ H' (mut_ex nL e0 r') ⟨L, zs, rfl, id, hL, alz⟩⟩
end
end Tm
end
section
set_option Elab.async false
set_option linter.all false
set_option maxRecDepth 100000
set_option maxHeartbeats 4000000
set_option exponentiation.threshold 100000
namespace Tm
open PySem PySem.Spec PyProof.Rows L2
section
variable {R : Rel} {K : PySem.W.Frag} {σ : L2.St} {H : Hp} {ta tb te tl : TE}
/-- t[:i] -/
theorem gv_take {xs : List V} {i : Nat} (ha : Gv R ta σ H (RowV K xs)) (hb : Gv R tb σ H (Is (.int (i : Int)))) : Gv R (tSl (rSlA K) ta tNoPart (tPart tb)) σ H (RowV K (xs.take i)) := fun H1 e o Q k =>
  ha H1 e o _ fun v H2 e2 o2 ⟨a, h1, h2⟩ => hb H2 (Rel.trans e e2) o2 _ fun w H3 e3 o3 q => by
    subst q
    refine ⟨(i : Int), rfl, a, xs, h1, mo_tup (Rel.rq e3) o2 h2, fun z => k _ H3 (Rel.trans e2 e3) o3 ⟨a, rfl, ?_⟩, fun _ p np => k _ _ (Rel.trans e2 (Rel.trans e3 (Rel.ex (Ex.new np)))) (R.ext _ _ (Ex.new np) o3) ⟨p, rfl, ?_⟩⟩
    · have := z.2
      rw [HT.sIx_nat] at this
      rw [List.take_of_length_le (by omega)]
      exact mo_tup (Rel.rq e3) o2 h2
    · have : cutV xs none (some (i : Int)) = xs.take i := by
        unfold cutV
        rw [HT.sIx_nat, HT.sIx_none]
        simp
      rw [← this]
      exact st_of upd_same
end
theorem mem_others {ws : List (List Int)} {i : Nat} {x o : List Int} (h : o ∈ others ws i x) (hx : x ∈ ws) : o ∈ ws := by
  unfold others at h
  split at h
  · exact List.mem_of_mem_take h
  · rw [List.mem_singleton.mp h]; exact hx
theorem mul_lim {x y : Int} {a b : Nat} (h1 : x.natAbs ≤ a) (h2 : y.natAbs ≤ b) : (x * y).natAbs ≤ a * b := by
  rw [Int.natAbs_mul]; exact Nat.mul_le_mul h1 h2
theorem cut_lim {a b p : List Int} (h1 : a.length = 2 ∨ a.length = 3) (h2 : b.length = a.length) (ha : Lim 10000000 a) (hb : Lim 10000000 b) (h : cut a b = some p) : Lim 200000000000000 p := by
  have key : Lim 200000000000000 (raw a b) := by
    rcases h1 with h1 | h1
    · obtain ⟨a0, a1, rfl⟩ := len2 h1
      have l0 := ha a0 (by simp)
      have l1 := ha a1 (by simp)
      intro x hx
      simp [raw] at hx
      rcases hx with rfl | rfl <;> omega
    · obtain ⟨a0, a1, a2, rfl⟩ := len3 h1
      obtain ⟨b0, b1, b2, rfl⟩ := len3 (by rw [h2]; exact h1)
      have l0 := ha a0 (by simp)
      have l1 := ha a1 (by simp)
      have l2 := ha a2 (by simp)
      have m0 := hb b0 (by simp)
      have m1 := hb b1 (by simp)
      have m2 := hb b2 (by simp)
      intro x hx
      simp [raw] at hx
      rcases hx with rfl | rfl | rfl
      · have := mul_lim l1 m2
        have := mul_lim l2 m1
        omega
      · have := mul_lim l2 m0
        have := mul_lim l0 m2
        omega
      · have := mul_lim l0 m1
        have := mul_lim l1 m0
        omega
  unfold cut at h
  split at h
  · cases h
  · split at h
    · cases h; exact key
    · cases h; exact key.neg
theorem Lim.smB {b : Nat} {xs : List Int} (h : Lim b xs) (hb : b < 2 ^ 1000) : Sm xs := fun x hx => lim_of (Nat.lt_of_le_of_lt (h x hx) hb)
section
variable {P : Program} {w : World} {K : PySem.W.Frag} {mg : Str → Option Value} {base : Heap} {C : Addr}
/-! _law_corners -/
abbrev N_corners : List Str := ["_law_shuts", "_law_found", "_law_at", "_law_one", "_law_other", "_law_point_here", "_law_shut"]
theorem sc_L_corners : FnScope N_corners ["_law_shuts"] (defScope s_L_corners) := ⟨rfl, rfl, rfl, by decide +kernel, rfl, by decide +kernel, by decide +kernel⟩
/-- rows of the width 2 or 3 within so much -/
structure Fine (W : Nat) (rs : List (List Int)) : Prop where
  w : W = 2 ∨ W = 3
  len : ∀ r ∈ rs, r.length = W
  lim : ∀ r ∈ rs, Lim 10000000 r
  few : rs.length ≤ 100
theorem do_L_corners (T : Txt K mg C) : Does P w K mg base 2 "_law_corners" ["_law_shuts"]
    (PrG (fun (g : (Addr → Prop) × Nat × List (List Int)) vs H => ∃ v, vs = [v] ∧ RowsT K g.2.2 v H ∧ Fine g.2.1 g.2.2 ∧ ∀ a, g.1 a → H a ≠ none) fun g v H => RowsN R0 K (corners g.2.2) v H ∧ ∀ a, v = .ref a → ¬ g.1 a) :=
  mk_doesG T.L_corners sc_L_corners (fun _ _ _ _ _ _ us hl => match us, hl with | [_], _ => rfl) (fun g vs H h => by obtain ⟨v, rfl, _⟩ := h; rfl) fun f cdv A outer s H vs Q E g hr h q => by
    obtain ⟨zz, W, ws⟩ := g
    obtain ⟨v, rfl, ⟨a, ys, rfl, hq, al⟩, fn, hzz⟩ := h
    dsimp only at al fn q hzz
    have nd := (sc_L_corners).nd
    refine ⟨_, pss_cons (ps_set (i := 1) nd rfl (Or.inl rfl) (pe_lst pa_nil))
      (pss_cons (ps_for PassesOwn.never rfl (pi_enumT (by rfl) T.z_enumerate (pa_cons (pv 0) pa_nil)) (pg_tup rfl (pgs_cons (pg_name (i := 2) nd rfl (Or.inl rfl)) (pgs_cons (pg_name (i := 3) nd rfl (Or.inl rfl)) pgs_nil)))
        (pss_one (ps_for PassesOwn.never rfl (pi_seq (pe_ifExp (pt_cmpR op_eq (pe_callB call_len_seq (by rfl) T.z_len boot_len (pa_cons (pv 3) pa_nil)) pe_int (nomark _)) (pe_slice sl_tupA (pv 0) po_none (po_some (pv 2))) (pe_lst (pa_cons (pv 3) pa_nil)))) (pg_name (i := 4) nd rfl (Or.inl rfl))
          (pss_cons (ps_set (i := 5) nd rfl (Or.inr rfl) (pe_do (do_L_cut T) hr (by rfl) (pa_cons (pv 3) (pa_cons (pv 4) pa_nil))))
          (pss_one (ps_if (PW.pt (pw_and (pt_cmp (pc_notN (pv 5))) (pw_and1 (pt_cmpR (op_eqD hr.units) (pe_lc (own := [("_law_shut", 6)]) (g := gName 6) rfl nd (pi_tup (pv 0)) (blkOk_by (N := N_corners) (sc := defScope s_L_corners) (by decide +kernel)) (fun _ _ _ _ _ => pg_name (i := 6) nd rfl (Or.inl rfl))
              (fun _ _ _ _ _ => pts_one (pt_cmpR op_lt (pe_do (do_L_value T) hr (by rfl) (pa_cons (pv 6) (pa_cons (pv 5) pa_nil))) pe_int (nomark _))) (fun _ _ _ _ _ => pe_int)) (pe_lst pa_nil) (nomark _)))))
            (pss_one (ps_expr (pe_bm PySem.F.plainAttrs_list PySem.F.slot_list_append PySem.F.type_list_append mt_append (pv 1) (pa_cons (pv 5) pa_nil)))) pss_nil))))))
      (pss_one (ps_ret (pv 1)))), ?_⟩
    refine ⟨Nat.zero_le _, fun L nL => ?_⟩
    have e0 : Ex H (upd H L (.lst [])) := Ex.new nL
    have o0 : (R0.mut L).ok (upd H L (.lst [])) := ⟨trivial, [], upd_same⟩
    have hq0 := ex_tup e0 hq
    have al0 := al_row (R := R0) (Rel.ex e0) trivial al
    refine g_name ?_
    dsimp only
    show tSeq (tFor _ _ _) _ _ [some (.ref a), some (.ref L), none, none, none, none, none] _
    refine st_forP (R := R0.mut L) (n := ys.length) (gp_enumT (xs := ys) ?_) o0 (fun i σ' H' => ∃ s2 s3 s4 s5 zs, σ' = [some (.ref a), some (.ref L), s2, s3, s4, s5, none] ∧ H' L = some (.lst zs) ∧ Al (Row K) ((List.range i).flatMap (cornersAt ws)) zs H') (fun H1 e1 => ?_) (fun i x σ' H' H'' hi r' o' hp y => ?_) (fun σ' H' r' o' hp => ?_)
    · exact fun H1 e o Q k => ⟨_, rfl, k _ H1 (Rel.refl _) o ⟨a, rfl, ex_tup (r0_ex e) hq0⟩⟩
    · exact ⟨none, none, none, none, [], rfl, e1 _ _ upd_same, al_nil⟩
    · obtain ⟨s2, s3, s4, s5, zs, rfl, hL, alz⟩ := hp
      obtain ⟨Tp, x1, x2, rfl, nT, rfl, hx1, hx2⟩ := y
      cases hx1
      have eT : Ex H' (upd H' Tp (.tup [.int (i : Int), x2])) := Ex.new nT
      refine g_pair ?_
      show tFor _ _ _ _ [some (.ref a), some (.ref L), some (.int (i : Int)), some x2, s4, s5, none] _
      -- what is known of the walls here
      have rH : (R0.mut L).r (upd H L (.lst [])) (upd H' Tp (.tup [.int (i : Int), x2])) := Rel.trans r' (Rel.ex eT)
      have oH : (R0.mut L).ok (upd H' Tp (.tup [.int (i : Int), x2])) := (R0.mut L).ext _ _ eT o'
      have hiw : i < ws.length := by rw [← al.1]; exact hi
      have hw0 : ws.getD i [] = ws[i] := by simp [List.getD_eq_getElem?_getD, hiw]
      have rowx := (al_row (R := R0.mut L) (Rel.rq rH) o0 al0).2 i x2 ws[i] hx2 (List.getElem?_eq_getElem hiw)
      have lw := fn.len ws[i] (List.getElem_mem hiw)
      have limw := fn.lim ws[i] (List.getElem_mem hiw)
      have hLT := eT _ _ hL
      have alzT := al_row (R := R0) (Rel.ex eT) trivial alz
      have hqT := mo_tup (R := R0.mut L) (Rel.rq rH) o0 hq0
      have alT := al_row (R := R0.mut L) (Rel.rq rH) o0 al0
      generalize hHc : upd H' Tp (.tup [.int (i : Int), x2]) = Hc at *
      -- the others
      have hoth : ∃ os : List V, (os = if ws[i].length = 3 then ys.take i else [x2]) ∧ Al (Row K) (others ws i ws[i]) os Hc := by
        refine ⟨_, rfl, ?_⟩
        unfold others
        by_cases h3 : ws[i].length = 3
        · rw [if_pos h3, if_pos h3]
          refine ⟨by simp [al.1], fun j y r h1 h2 => ?_⟩
          rw [List.getElem?_take] at h1 h2
          split at h1
          · rename_i hj
            rw [if_pos hj] at h2
            exact alT.2 j y r h1 h2
          · cases h1
        · rw [if_neg h3, if_neg h3]
          exact al_one rowx
      obtain ⟨os, hos, alo⟩ := hoth
      refine s_forP (R := R0.mut L) (n := os.length) (gp_seq (xs := os) ?_) oH (fun j σ' H' => ∃ s4 s5 zs, σ' = [some (.ref a), some (.ref L), some (.int (i : Int)), some x2, s4, s5, none] ∧ H' L = some (.lst zs) ∧ Al (Row K) ((List.range i).flatMap (cornersAt ws) ++ ((others ws i ws[i]).take j).filterMap (cand ws ws[i])) zs H') (fun H1 e1 => ?_) (fun j x σ' H1 H2 hj r1 o1 hp y => ?_) (fun σ' H1 r1 o1 hp => ?_)
      · refine gv_if (A := (· = decide (ws[i].length = 3))) (gt_is (gt_test (gv_eq (gv_lenR (gv_slot mo_row trivial rfl rowx)) gv_c rfl)) ?_) (fun e => ?_) (fun e => ?_)
        · by_cases h3 : ws[i].length = 3
          · simp [h3]
          · simp [h3]; omega
        · have h3 := of_decide_eq_true e.symm
          rw [hos, if_pos h3]
          exact (gv_take (xs := ys) (i := i) (gv_slot mo_rowV trivial rfl ⟨a, rfl, hqT⟩) (gv_varI rfl)).imp fun v H' _ ⟨b, e1, e2⟩ => ⟨b, e1, .inr e2⟩
        · have h3 := of_decide_eq_false e.symm
          rw [hos, if_neg h3]
          refine gv_lst (ga_k (v := x2) (gv_varI rfl) ga_n) (fun vs H1 e => by rw [e]; simp) fun vs H1 p e o h np => ⟨p, rfl, .inl ⟨?_, by rw [h]; exact sq_of upd_same⟩⟩
          rintro (z | z)
          · exact z
          · subst z
            rw [r0_ex e _ _ hLT] at np
            cases np
      · exact ⟨s4, s5, zs, rfl, e1 _ _ hLT, by simpa using al_row (R := R0) (Rel.ex e1) trivial alzT⟩
      · obtain ⟨s4, s5, zs, rfl, hL1, alz1⟩ := hp
        obtain ⟨rfl, hx⟩ := y
        refine g_name ?_
        show tSeq _ _ _ [some (.ref a), some (.ref L), some (.int (i : Int)), some x2, some x, s5, none] H2
        have hjo : j < (others ws i ws[i]).length := by rw [← alo.1]; exact hj
        have rowo := (al_row (R := R0.mut L) (Rel.rq r1) oH alo).2 j x _ hx (List.getElem?_eq_getElem hjo)
        have rowx1 := mo_row (R := R0.mut L) x2 Hc H2 (Rel.rq r1) oH rowx
        have memo := mem_others (List.getElem_mem hjo) (List.getElem_mem hiw)
        have takej : ((others ws i ws[i]).take (j + 1)).filterMap (cand ws ws[i]) = ((others ws i ws[i]).take j).filterMap (cand ws ws[i]) ++ (cand ws ws[i] (others ws i ws[i])[j]).toList := by
          rw [List.take_add_one, List.getElem?_eq_getElem hjo, List.filterMap_append]
          congr 1
        generalize (others ws i ws[i])[j] = od at *
        have lo := fn.len od memo
        have limo := fn.lim od memo
        refine st_asg (R := R0) (P := postCut K ws[i] od) (gv_call (ws[i], od) (ga_2 (gv_slot mo_row trivial rfl rowx1) mo_row (gv_slot mo_row trivial rfl rowo)) (fun vs H3 _ _ ⟨v, w, e1, e2, e3⟩ => ⟨v, w, e1, e2, e3, by rw [lw]; exact fn.w, by rw [lo, lw], limw, limo⟩) fun v H3 _ _ p => p) trivial fun v5 H3 e3 _ hv5 => ?_
        have e3 := r0_ex e3
        show tIfS _ _ _ _ [some (.ref a), some (.ref L), some (.int (i : Int)), some x2, some x, some v5, none] H3
        have hL3 := e3 _ _ hL1
        have alz3 := al_row (R := R0) (Rel.ex e3) trivial alz1
        have hq3 := ex_tup e3 (mo_tup (R := R0.mut L) (Rel.rq r1) oH hqT)
        have al3 := al_row (R := R0) (Rel.ex e3) trivial (al_row (R := R0.mut L) (Rel.rq r1) oH alT)
        cases hc : cut ws[i] od with
        | none =>
          unfold postCut at hv5
          rw [hc] at hv5
          have hv5 : v5 = .non := hv5
          subst hv5
          have hcand : cand ws ws[i] od = none := by unfold cand; rw [hc]; rfl
          refine st_when1 (R := R0) (B := (· = false)) ?_ trivial (fun _ _ _ e => Bool.noConfusion e) fun H4 e4 _ _ => ?_
          · exact gt_is (gt_and (a := false) (b := false) (gt_B (b := false) fun H1 e o Q k => ⟨_, rfl, k _ H1 (Rel.refl _) o rfl⟩) fun z => Bool.noConfusion z) rfl
          · have e4 := r0_ex e4
            refine ⟨Rel.ex (e3.trans e4), (R0.mut L).ext _ _ (e3.trans e4) o1, some x, some .non, zs, rfl, e4 _ _ hL3, ?_⟩
            rw [takej, hcand]
            simpa using al_row (R := R0) (Rel.ex e4) trivial alz3
        | some p =>
          unfold postCut at hv5
          rw [hc] at hv5
          have hv5 : Row K p v5 H3 := hv5
          have lp : p.length = W := (cut_len fn.w lw lo hc).1
          have smp : Sm p := (cut_lim (by rw [lw]; exact fn.w) (by rw [lo, lw]) limw limo hc).smB (by decide)
          have hnn : v5 ≠ .non := by
            obtain ⟨b, rfl, _⟩ := hv5
            exact fun z => V.noConfusion z
          refine st_when1 (R := R0) (B := (· = keeps ws p)) ?_ trivial (fun H4 e4 _ hk => ?_) fun H4 e4 _ hk => ?_
          · refine gt_is (gt_and (a := true) (b := keeps ws p) (gt_B (b := true) fun H1 e o Q k => ⟨_, rfl, k _ H1 (Rel.refl _) o (by rw [decide_eq_false hnn]; rfl)⟩) fun _ => gt_test (gv_is (gv_none (a := a) (fun r => decide (value r p < 0)) (gv_slot mo_rowV trivial rfl ⟨a, rfl, hq3⟩) al3 (Nat.le_trans fn.few (by decide)) trivial (fun x => rfl) fun D r y' H5 hr' hy' t o => gt_test (gv_I0 (g := fun i j => .bl (decide (i < j))) (gv_value (gv_slot mo_row o rfl hy') (gv_slot mo_row o rfl (row_thru t hv5)) (by rw [fn.len r hr', lp]) (by rw [fn.len r hr']; rcases fn.w with h | h <;> omega) ((fn.lim r hr').sm (by decide)) smp) gv_c)) ?_)) (by simp)
            unfold keeps
            refine congrArg V.bl ?_
            congr 1
            funext r
            exact not_lt_dec _ _
          · have e4 := r0_ex e4
            have hL4 := e4 _ _ hL3
            have oL : (R0.mut L).ok H4 := ⟨trivial, zs, hL4⟩
            have hcand : cand ws ws[i] od = some p := by unfold cand; rw [hc]; simp [Option.filter, ← hk]
            have lz : zs.length < 100000 := by
              have h1 : ((List.range i).flatMap (cornersAt ws)).length ≤ i * 100 := by
                have : ∀ n, n ≤ ws.length → ((List.range n).flatMap (cornersAt ws)).length ≤ n * 100 := fun n => by
                  induction n with
                  | zero => intro _; simp
                  | succ n ih =>
                    intro hn
                    rw [List.range_succ, List.flatMap_append, List.length_append]
                    have h2 := ih (by omega)
                    have h3 : (cornersAt ws n).length ≤ 100 := by
                      unfold cornersAt
                      refine Nat.le_trans (List.length_filterMap_le _ _) ?_
                      unfold others
                      split
                      · rw [List.length_take]; have := fn.few; omega
                      · simp
                    simp only [List.flatMap_cons, List.flatMap_nil, List.append_nil]
                    omega
                exact this i (Nat.le_of_lt hiw)
              have h4 : (((others ws i ws[i]).take j).filterMap (cand ws ws[i])).length ≤ 100 := by
                refine Nat.le_trans (List.length_filterMap_le _ _) ?_
                rw [List.length_take]
                have : (others ws i ws[i]).length ≤ 100 := by
                  unfold others
                  split
                  · rw [List.length_take]; have := fn.few; omega
                  · simp
                omega
              have := fn.few
              rw [alz3.1, List.length_append]
              have : i * 100 ≤ 100 * 100 := Nat.mul_le_mul_right _ (by omega)
              omega
            show tDrop _ _ [some (.ref a), some (.ref L), some (.int (i : Int)), some x2, some x, some v5, none] H4
            obtain ⟨g1, g2⟩ := put_mut (R := R0) oL id (zs ++ [v5])
            refine ⟨.ref L, rfl, .inl ⟨rfl, _, sq_of hL4⟩, v5, rfl, L, zs, v5, rfl, rfl, hL4, sz_lt lz, ?_⟩
            refine ⟨Rel.trans (Rel.ex (e3.trans e4)) g1, g2, some x, some v5, zs ++ [v5], rfl, upd_same, ?_⟩
            rw [takej, hcand, ← List.append_assoc]
            exact al_append (al_row (R := R0.mut L) (Rel.rq g1) oL (al_row (R := R0) (Rel.ex e4) trivial alz3)) (al_one (mo_row (R := R0.mut L) v5 H4 _ (Rel.rq g1) oL (mo_row (R := R0) v5 H3 H4 (Rel.ex e4) trivial hv5)))
          · have e4 := r0_ex e4
            have hcand : cand ws ws[i] od = none := by unfold cand; rw [hc]; simp [Option.filter, ← hk]
            refine ⟨Rel.ex (e3.trans e4), (R0.mut L).ext _ _ (e3.trans e4) o1, some x, some v5, zs, rfl, e4 _ _ hL3, ?_⟩
            rw [takej, hcand]
            simpa using al_row (R := R0) (Rel.ex e4) trivial alz3
      · obtain ⟨s4, s5, zs, rfl, hL1, alz1⟩ := hp
        show _ ∧ _ ∧ _
        refine ⟨Rel.trans (Rel.ex eT) r1, o1, some (.int (i : Int)), some x2, s4, s5, zs, rfl, hL1, ?_⟩
        rw [List.range_succ, List.flatMap_append]
        rw [List.take_of_length_le (by rw [← alo.1]; exact Nat.le_refl _)] at alz1
        have : cornersAt ws i = (others ws i ws[i]).filterMap (cand ws ws[i]) := by unfold cornersAt; rw [hw0]
        simpa [this] using alz1
    · obtain ⟨s2, s3, s4, s5, zs, rfl, hL, alz⟩ := hp
      refine ⟨.ref L, rfl, q _ H' (mut_ex nL e0 r') ⟨⟨L, zs, rfl, id, hL, ?_⟩, fun a ha m => hzz a m (by rw [← V.ref.inj ha]; exact nL)⟩⟩
      rw [al.1] at alz
      exact alz
end
end Tm
end
section
set_option Elab.async false
set_option linter.all false
set_option maxRecDepth 100000
set_option maxHeartbeats 4000000
set_option exponentiation.threshold 100000
namespace Tm
open PySem PySem.Spec PyProof.Rows L2
section
variable {R : Rel} {K : PySem.W.Frag} {σ : L2.St} {H : Hp} {ta tb te tl : TE}
/-- an item of a list of rows -/
theorem gv_rowAt {rs : List (List Int)} {i : Nat} (ha : Gv R ta σ H (RowsN R K rs)) (hb : Gv R tb σ H (Is (.int (i : Int)))) (h : i < rs.length) : Gv R (tOp (rIxL K) ta tb) σ H (Row K (rs.getD i [])) :=
  gv_op ha hb mo_rowsN fun x y H1 e o ⟨a, vs, h1, _, h2, h3⟩ q Q k => by
    have hv : i < vs.length := by rw [h3.1]; exact h
    refine ⟨a, vs, (i : Int), vs[i], h1, q, sq_of h2, atI_nat (List.getElem?_eq_getElem hv), k _ H1 (Rel.refl _) o ?_⟩
    have e : rs.getD i [] = rs[i] := by simp [List.getD_eq_getElem?_getD, h]
    rw [e]
    exact h3.2 i _ _ (List.getElem?_eq_getElem hv) (List.getElem?_eq_getElem h)
theorem gv_lenN {rs : List (List Int)} (ha : Gv R ta σ H (RowsN R K rs)) : Gv R (tCB (fun xs H Q => ∃ p ys, xs = [.ref p] ∧ (SqL K H p ys ∨ SqT K H p ys) ∧ Q (.int ys.length) H) (tCons ta tNil)) σ H (Is (.int rs.length)) :=
  gv_len (ha.imp fun v H' o ⟨a, vs, h1, _, h2, h3⟩ => ⟨a, _, h1, .inl (sq_of h2), by rw [h3.1]⟩)
/-- xs[1:] of a list of rows -/
theorem gv_tail {rs : List (List Int)} (ha : Gv R ta σ H (RowsN R K rs)) : Gv R (tSl (rSlL K) ta (tPart (tC (.int 1))) tNoPart) σ H (RowsN R K rs.tail) := fun H1 e o Q k =>
  ha H1 e o _ fun v H2 e2 o2 ⟨a, vs, h1, m, h2, h3⟩ => ⟨1, rfl, a, vs, h1, sq_of h2, fun p np => k _ _ (Rel.trans e2 (Rel.ex (Ex.new np))) (R.ext _ _ (Ex.new np) o2) ⟨p, vs.tail, rfl, R.notW o2 np, by
    rw [upd_same]
    have : cutV vs (some 1) none = vs.tail := by
      unfold cutV
      rw [show HT.sIx vs.length 0 (some 1) = min 1 vs.length from HT.sIx_nat vs.length 0 1, HT.sIx_none]
      cases vs with
      | nil => rfl
      | cons x r =>
        rw [show min 1 (x :: r).length = 1 by rw [List.length_cons]; omega]
        simp
    rw [this], by
    have h4 := al_row (R := R) (Rel.ex (Ex.new (o := .lst (cutV vs (some 1) none)) np)) o2 h3
    refine ⟨by simp [h4.1], fun i y r q1 q2 => ?_⟩
    rw [List.getElem?_tail] at q1 q2
    exact h4.2 _ y r q1 q2⟩⟩
end
/-- what a sum of n points may reach -/
def mB (n : Nat) : Nat := 2 ^ (60 * (n + 1))
theorem mB_lim {n : Nat} (h : n ≤ 200) : mB n < lim := Nat.pow_lt_pow_right (by decide) (by omega)
theorem mB_step {x y p q : Int} {n : Nat} (h1 : x.natAbs < mB n) (h2 : y.natAbs < mB n) (h3 : p.natAbs ≤ 200000000000000) (h4 : q.natAbs ≤ 200000000000000) : (x * p + q * y).natAbs < mB (n + 1) := by
  have e : mB (n + 1) = mB n * 2 ^ 60 := by unfold mB; rw [← Nat.pow_add, show 60 * (n + 1 + 1) = 60 * (n + 1) + 60 by omega]
  have a1 : (x * p).natAbs ≤ mB n * 200000000000000 := by rw [Int.natAbs_mul]; exact Nat.mul_le_mul (Nat.le_of_lt h1) h3
  have a2 : (q * y).natAbs ≤ mB n * 200000000000000 := by rw [Int.natAbs_mul, Nat.mul_comm]; exact Nat.mul_le_mul (Nat.le_of_lt h2) h4
  have a3 : 0 < mB n := Nat.pos_of_ne_zero fun z => by rw [z] at h1; omega
  rw [e]
  have : (2 : Nat) ^ 60 = 1152921504606846976 := by decide
  rw [this]
  omega
theorem last_mem {f : List Int} (h : f ≠ []) : last f ∈ f := by
  unfold last
  rw [List.getLastD_eq_getLast?, List.getLast?_eq_some_getLast h]
  exact List.getLast_mem h
theorem mstep_len {f p : List Int} (h : f.length = p.length) (hne : f ≠ []) : (mstep f p).length = f.length := by
  have : 0 < f.length := List.length_pos_iff.mpr hne
  simp [mstep, h]
  omega
theorem mstep_lim {f p : List Int} {n : Nat} (h : f.length = p.length) (hne : f ≠ []) (hf : ∀ x ∈ f, x.natAbs < mB n) (hp : Lim 200000000000000 p) : ∀ x ∈ mstep f p, x.natAbs < mB (n + 1) := by
  have hpne : p ≠ [] := fun e => by rw [e] at h; exact hne (List.length_eq_zero_iff.mp h)
  intro x hx
  unfold mstep at hx
  rcases List.mem_append.mp hx with hx | hx
  · obtain ⟨i, hi, e⟩ := List.mem_iff_getElem.mp hx
    rw [List.getElem_zipWith] at e
    have m1 : f.dropLast[i]'(by simp at hi; simp; omega) ∈ f := List.dropLast_subset _ (List.getElem_mem _)
    have m2 : p.dropLast[i]'(by simp at hi; simp; omega) ∈ p := List.dropLast_subset _ (List.getElem_mem _)
    rw [← e]
    exact mB_step (hf _ m1) (hf _ (last_mem hne)) (hp _ (last_mem hpne)) (hp _ m2)
  · rw [List.mem_singleton.mp hx]
    have := mB_step (y := 0) (q := 0) (hf _ (last_mem hne)) (by have := hf _ (last_mem hne); simp; omega) (hp _ (last_mem hpne)) (by simp)
    simpa using this
section
variable {P : Program} {w : World} {K : PySem.W.Frag} {mg : Str → Option Value} {base : Heap} {C : Addr}
/-! _law_mean -/
abbrev N_mean : List Str := ["_law_corners_here", "_law_found", "_law_point_here", "_law_x", "_law_y"]
theorem sc_L_mean : FnScope N_mean ["_law_corners_here"] (defScope s_L_mean) := ⟨rfl, rfl, rfl, by decide +kernel, rfl, by decide +kernel, by decide +kernel⟩
theorem do_L_mean (T : Txt K mg C) : Does P w K mg base 1 "_law_mean" ["_law_corners_here"]
    (PrG (fun (g : Nat × List (List Int)) vs H => ∃ v, vs = [v] ∧ RowsN R0 K g.2 v H ∧ (g.1 = 2 ∨ g.1 = 3) ∧ (∀ p ∈ g.2, p.length = g.1 ∧ Lim 200000000000000 p) ∧ g.2 ≠ [] ∧ g.2.length ≤ 150) fun g => Row K (mean g.2)) :=
  mk_doesG T.L_mean sc_L_mean (fun _ _ _ _ _ _ us hl => match us, hl with | [_], _ => rfl) (fun g vs H h => by obtain ⟨v, rfl, _⟩ := h; rfl) fun f cdv A outer s H vs Q E g hr h q => by
    obtain ⟨W, ps⟩ := g
    obtain ⟨v, rfl, hv, hW, hp, hne, hl⟩ := h
    dsimp only at hv hW hp hne hl q
    have nd := (sc_L_mean).nd
    refine ⟨_, pss_cons (ps_set (i := 1) nd rfl (Or.inr rfl) (pe_ix ix_list (pv 0) pe_int (fun _ _ => rfl)))
      (pss_cons (ps_for PassesOwn.never rfl (pi_list (pe_slice sl_list (pv 0) (po_some pe_int) po_none)) (pg_name (i := 2) nd rfl (Or.inr rfl))
        (pss_one (ps_set (i := 1) nd rfl (Or.inr rfl) (pe_op op_catA
          (pe_callTy call_tuple_of (by rfl) T.z_tuple (by decide +kernel) (pa_cons (pe_lc (own := [("_law_x", 3), ("_law_y", 4)]) (g := gTup K 2 (gCons (gName 3) (gCons (gName 4) gNil))) (tt := tYes) rfl nd
            (RZ.pi_zipA (by rfl) T.z_zip (pa_cons (pe_slice sl_tupA (pv 1) po_none (po_some (pe_un un_neg pe_int))) (pa_cons (pe_slice sl_tupA (pv 2) po_none (po_some (pe_un un_neg pe_int))) pa_nil)))
            (blkOk_by (N := N_mean) (sc := defScope s_L_mean) (by decide +kernel)) (fun _ _ _ _ _ => pg_tup rfl (pgs_cons (pg_name (i := 3) nd rfl (Or.inl rfl) (by exact Or.inr rfl)) (pgs_cons (pg_name (i := 4) nd rfl (Or.inl rfl) (by exact Or.inr rfl)) pgs_nil))) (fun _ _ _ _ _ => pts_nil)
            (fun _ _ _ _ _ => pe_op op_add (pe_op op_mulW (pv 3) (pe_ix (r := rIxT K) ix_tup (pv 2) (pe_un un_neg pe_int) (fun _ _ => rfl))) (pe_op op_mulW (pv 4) (pe_ix (r := rIxT K) ix_tup (pv 1) (pe_un un_neg pe_int) (fun _ _ => rfl))))) pa_nil))
          (pe_tup (pa_cons (pe_op op_mulW (pe_ix ix_tup (pv 1) (pe_un un_neg pe_int) (fun _ _ => rfl)) (pe_ix ix_tup (pv 2) (pe_un un_neg pe_int) (fun _ _ => rfl))) pa_nil))))))
      (pss_one (ps_ret (pe_op op_catA (pe_slice sl_tupA (pv 1) po_none (po_some (pe_un un_neg pe_int))) (pe_tup (pa_cons (pe_op op_mulW (pe_ix ix_tup (pv 1) (pe_un un_neg pe_int) (fun _ _ => rfl)) (pe_callB call_len_seq (by rfl) T.z_len boot_len (pa_cons (pv 0) pa_nil))) pa_nil)))))), ?_⟩
    have hne0 : 0 < ps.length := List.length_pos_iff.mpr hne
    have g0 : Gv R0 (tVar 0) (L2.start N_mean [v]) H (RowsN R0 K ps) := gv_slot mo_rowsN trivial rfl hv
    have head_in : ps.getD 0 [] ∈ ps := by
      have e : ps.getD 0 [] = ps[0] := by simp [List.getD_eq_getElem?_getD, hne0]
      rw [e]; exact List.getElem_mem _
    refine st_asg (R := R0) (gv_rowAt (i := 0) g0 gv_c hne0) trivial fun v1 H1 e1 _ hv1 => ?_
    have hv0 := mo_rowsN (R := R0) v H H1 (Rel.rq e1) trivial hv
    show tSeq (tFor _ _ _) _ _ [some v, some v1, none, none, none] _
    have tin : ∀ r ∈ ps.tail, r ∈ ps := fun r hr => List.mem_of_mem_tail hr
    -- the list of the others
    refine Gv.go (R := R0) (gv_tail (R := R0) (K := K) (ta := tVar 0) (σ := [some v, some v1, none, none, none]) (gv_slot mo_rowsN trivial rfl hv0)) trivial fun vt Ht et _ ht => ?_
    obtain ⟨a, ys, rfl, _, hq, al⟩ := ht
    have hv1t := mo_row (R := R0) v1 H1 Ht (Rel.rq et) trivial hv1
    refine ⟨a, rfl, ⟨ys, sq_of hq⟩, ?_⟩
    refine for_it (walk_list (K := K) (xs := ys)) (fun i σ' H' => Ex Ht H' ∧ ∃ v1 s2 s3 s4, σ' = [some v, some v1, s2, s3, s4] ∧ ∃ f, Row K f v1 H' ∧ f = (ps.tail.take i).foldl mstep (ps.headD []) ∧ f.length = W ∧ ∀ x ∈ f, x.natAbs < mB i) ?_ (fun i σ' H' _ p => ex_lst p.1 (sq_of hq)) (fun i x σ' H' H'' hi p y => ?_) (fun σ' H' p => ?_)
    · refine ⟨Ex.refl _, v1, none, none, none, rfl, ps.getD 0 [], hv1t, by cases ps <;> rfl, (hp _ head_in).1, fun x hx => ?_⟩
      have := (hp _ head_in).2 x hx
      have e : mB 0 = 1152921504606846976 := by decide
      omega
    · obtain ⟨e', w1, s2, s3, s4, rfl, fo, hfo, hfe, hfl, hfb⟩ := p
      obtain ⟨rfl, hx⟩ := y
      refine g_name ?_
      show tAsg _ _ _ [some v, some w1, some x, s3, s4] H''
      have hit : i < ps.tail.length := by rw [← al.1]; exact hi
      have rowx := (al_row (R := R0) (Rel.ex e') trivial al).2 i x _ hx (List.getElem?_eq_getElem hit)
      have pin := hp _ (tin _ (List.getElem_mem hit))
      have htk : (ps.tail.take (i + 1)).foldl mstep (ps.headD []) = mstep fo ps.tail[i] := by
        rw [List.take_add_one, List.getElem?_eq_getElem hit, List.foldl_append, ← hfe]; rfl
      generalize ps.tail[i] = p at *
      obtain ⟨pl, plim⟩ := pin
      have fne : fo ≠ [] := fun e => by rw [e] at hfl; simp at hfl; omega
      have pne : p ≠ [] := fun e => by rw [e] at pl; simp at pl; omega
      have il : i ≤ 149 := by rw [List.length_tail] at hit; omega
      have flim : ∀ x ∈ fo, x.natAbs < lim := fun x hx => Nat.lt_trans (hfb x hx) (mB_lim (by omega))
      have pl2 : ∀ x ∈ p, x.natAbs < lim := fun x hx => lim_of (Nat.lt_of_le_of_lt (plim x hx) (by decide))
      have gf : ∀ {R : Rel} {H2 : Hp}, R.ok H2 → Row K fo w1 H2 → Gv R (tVar 1) [some v, some w1, some x, s3, s4] H2 (Row K fo) := fun o h => gv_slot mo_row o rfl h
      have gp : ∀ {R : Rel} {H2 : Hp}, R.ok H2 → Row K p x H2 → Gv R (tVar 2) [some v, some w1, some x, s3, s4] H2 (Row K p) := fun o h => gv_slot mo_row o rfl h
      refine st_asg1 (R := R0) (P := Row K (mstep fo p)) ?_ trivial fun w2 H3 e3 _ hw2 => ?_
      · refine gv_catR (xs := List.zipWith (fun x y => x * last p + y * last fo) fo.dropLast p.dropLast) (ys := [last fo * last p]) (gv_tuple ?_) (gv_tup1 (gv_mulW (gv_lastR (gf trivial hfo) fne) (gv_lastR (gp trivial rowx) pne) (flim _ (last_mem fne)) (pl2 _ (last_mem pne)))) ?_
        · refine Gv.imp (gv_new (f := fun _ => true) (h := fun j => .int (fo.dropLast.getD j 0 * last p + p.dropLast.getD j 0 * last fo)) (gv_lcP (f := fun _ => true) (Pe := fun _ j => Is (.int (fo.dropLast.getD j 0 * last p + p.dropLast.getD j 0 * last fo))) (gi_zipT (xs := fo.dropLast.map V.int) (ys := p.dropLast.map V.int) (gv_init (gf trivial hfo) fne) (gv_init (gp trivial rowx) pne)) (by simp; omega) trivial (fun _ _ => mo_is) (fun x y => rfl) fun D j x1 y1 H4 hj hx1 hy1 t o => ⟨gt_yes, fun _ => ?_⟩)) fun v' H' _ pp => ?_
          · rw [List.length_map, List.length_map] at hj
            have a1 : j < fo.dropLast.length := by omega
            have a2 : j < p.dropLast.length := by omega
            rw [List.getElem?_map, List.getElem?_eq_getElem a1] at hx1
            rw [List.getElem?_map, List.getElem?_eq_getElem a2] at hy1
            have e1 : V.int fo.dropLast[j] = x1 := Option.some.inj hx1
            have e2 : V.int p.dropLast[j] = y1 := Option.some.inj hy1
            subst e1 e2
            have f1 : fo.dropLast.getD j 0 = fo.dropLast[j] := by rw [List.getD_eq_getElem?_getD, List.getElem?_eq_getElem a1]; rfl
            have f2 : p.dropLast.getD j 0 = p.dropLast[j] := by rw [List.getD_eq_getElem?_getD, List.getElem?_eq_getElem a2]; rfl
            rw [f1, f2]
            have m1 := flim _ (List.dropLast_subset _ (List.getElem_mem a1))
            have m2 := pl2 _ (List.dropLast_subset _ (List.getElem_mem a2))
            exact gv_add (gv_mulW (gv_varI rfl) (gv_lastR (gv_slot mo_row o rfl (row_thru t rowx)) pne) m1 (pl2 _ (last_mem pne))) (gv_mulW (gv_varI rfl) (gv_lastR (gv_slot mo_row o rfl (row_thru t hfo)) fne) m2 (flim _ (last_mem fne)))
          · rw [idx_all (fun _ _ => rfl), List.length_map, List.length_map] at pp
            have e : (List.range (min fo.dropLast.length p.dropLast.length)).map (fun j => V.int (fo.dropLast.getD j 0 * last p + p.dropLast.getD j 0 * last fo)) = (List.zipWith (fun x y => x * last p + y * last fo) fo.dropLast p.dropLast).map V.int := by
              refine List.ext_getElem (by simp) fun j h1 h2 => ?_
              have a : j < min fo.dropLast.length p.dropLast.length := by simpa using h1
              have a1 : j < fo.dropLast.length := by omega
              have a2 : j < p.dropLast.length := by omega
              rw [List.getElem_map, List.getElem_map, List.getElem_range, List.getElem_zipWith, List.getD_eq_getElem?_getD, List.getD_eq_getElem?_getD, List.getElem?_eq_getElem a1, List.getElem?_eq_getElem a2]
              rfl
            rw [← e]
            exact pp
        · simp; omega
      · exact ⟨e'.trans (r0_ex e3), w2, some x, s3, s4, rfl, mstep fo p, hw2, htk.symm, by rw [mstep_len (by rw [hfl, pl]) fne]; exact hfl, mstep_lim (by rw [hfl, pl]) fne hfb plim⟩
    · obtain ⟨e', w1, s2, s3, s4, rfl, fo, hfo, hfe, hfl, hfb⟩ := p
      have fne : fo ≠ [] := fun e => by rw [e] at hfl; simp at hfl; omega
      rw [al.1, List.take_of_length_le (Nat.le_refl _)] at hfe
      have em : mean ps = fo.dropLast ++ [last fo * (ps.length : Int)] := by unfold mean; rw [hfe]
      have hv3 := mo_rowsN (R := R0) v H1 H' (Rel.ex ((r0_ex et).trans e')) trivial hv0
      dsimp only
      refine st_ret (R := R0) (P := Row K (mean ps)) ?_ trivial fun v5 H5 e5 _ h5 => q v5 H5 ((((r0_ex e1).trans (r0_ex et)).trans e').trans (r0_ex e5)) h5
      rw [em]
      have hlast : (last fo).natAbs < lim := Nat.lt_trans (hfb _ (last_mem fne)) (mB_lim (by rw [al.1, List.length_tail]; omega))
      exact gv_catR (gv_init (gv_slot mo_row trivial rfl hfo) fne) (gv_tup1 (gv_mulW (gv_lastR (gv_slot mo_row trivial rfl hfo) fne) (gv_lenN (gv_slot mo_rowsN trivial rfl hv3)) hlast (lim_small (by omega)))) (by simp; omega)
end
end Tm
end
section
set_option Elab.async false
set_option linter.all false
set_option maxRecDepth 100000
set_option maxHeartbeats 4000000
set_option exponentiation.threshold 100000
namespace Tm
open PySem PySem.Spec PyProof.Rows L2
theorem fold_lim {W : Nat} : ∀ (ps : List (List Int)) (f : List Int) (n : Nat), f.length = W → f ≠ [] → (∀ x ∈ f, x.natAbs < mB n) → (∀ p ∈ ps, p.length = W ∧ Lim 200000000000000 p) →
    (ps.foldl mstep f).length = W ∧ ∀ x ∈ ps.foldl mstep f, x.natAbs < mB (n + ps.length)
  | [], f, n, h1, _, h3, _ => ⟨h1, by simpa using h3⟩
  | p :: ps, f, n, h1, h2, h3, h4 => by
    obtain ⟨p1, p2⟩ := h4 p List.mem_cons_self
    have l := mstep_len (f := f) (p := p) (by rw [h1, p1]) h2
    have ne : mstep f p ≠ [] := fun e => by rw [e] at l; exact h2 (List.length_eq_zero_iff.mp l.symm)
    obtain ⟨a, b⟩ := fold_lim ps (mstep f p) (n + 1) (by rw [l, h1]) ne (mstep_lim (by rw [h1, p1]) h2 h3 p2) fun q hq => h4 q (List.mem_cons_of_mem _ hq)
    refine ⟨a, fun x hx => ?_⟩
    have := b x hx
    rwa [List.length_cons, show n + (ps.length + 1) = n + 1 + ps.length by omega]
theorem mean_lim {W : Nat} (hW : 1 ≤ W) {ps : List (List Int)} (hne : ps ≠ []) (hl : ps.length ≤ 150) (hp : ∀ p ∈ ps, p.length = W ∧ Lim 200000000000000 p) : Sm (mean ps) := by
  match ps, hne with
  | q :: qs, _ =>
    obtain ⟨q1, q2⟩ := hp q List.mem_cons_self
    have ne : q ≠ [] := fun e => by rw [e] at q1; simp at q1; omega
    obtain ⟨a, b⟩ := fold_lim qs q 0 q1 ne (fun x hx => Nat.lt_of_le_of_lt (q2 x hx) (by decide)) fun p h => hp p (List.mem_cons_of_mem _ h)
    have em : mean (q :: qs) = (qs.foldl mstep q).dropLast ++ [last (qs.foldl mstep q) * ((q :: qs).length : Int)] := rfl
    rw [em]
    generalize qs.foldl mstep q = f at *
    have fne : f ≠ [] := fun e => by rw [e] at a; simp at a; omega
    have l0 : qs.length ≤ 149 := by simpa using hl
    intro x hx
    rcases List.mem_append.mp hx with hx | hx
    · exact Nat.lt_trans (b x (List.dropLast_subset _ hx)) (mB_lim (by omega))
    · rw [List.mem_singleton.mp hx]
      have h1 := b _ (last_mem fne)
      have := mB_step (y := 0) (p := ((q :: qs).length : Int)) (q := 0) h1 (by rw [Int.natAbs_zero]; omega) (by rw [Int.natAbs_natCast]; omega) (by simp)
      have e : (last f * ((q :: qs).length : Int)).natAbs < mB (0 + qs.length + 1) := by simpa using this
      exact Nat.lt_trans e (mB_lim (by omega))
theorem corners_len {W : Nat} (hW : W = 2 ∨ W = 3) {ws : List (List Int)} (hl : ∀ r ∈ ws, r.length = W) (h : ws.length ≤ 12) : (corners ws).length ≤ 144 := by
  have key : ∀ n, ((List.range n).flatMap (cornersAt ws)).length ≤ n * 12 := fun n => by
    induction n with
    | zero => simp
    | succ n ih =>
      rw [List.range_succ, List.flatMap_append, List.length_append]
      have h3 : (cornersAt ws n).length ≤ 12 := by
        unfold cornersAt
        refine Nat.le_trans (List.length_filterMap_le _ _) ?_
        unfold others
        split
        · rw [List.length_take]; omega
        · simp
      simp only [List.flatMap_cons, List.flatMap_nil, List.append_nil]
      omega
  have := key ws.length
  unfold corners
  omega
/-- each corner's width, and how great -/
theorem corners_fine {W : Nat} {ws : List (List Int)} (fn : Fine W ws) : ∀ p ∈ corners ws, p.length = W ∧ Lim 200000000000000 p := fun p hp => by
  obtain ⟨a, ha, b, hb, hc, _⟩ := of_corners hp
  exact ⟨(cut_len fn.w (fn.len a ha) (fn.len b hb) hc).1, cut_lim (by rw [fn.len a ha]; exact fn.w) (by rw [fn.len a ha, fn.len b hb]) (fn.lim a ha) (fn.lim b hb) hc⟩
section
variable {P : Program} {w : World} {K : PySem.W.Frag} {mg : Str → Option Value} {base : Heap} {C : Addr}
/-! _law_is_broken -/
abbrev N_broken : List Str := ["_law_shuts", "_law_stricts", "_law_shut", "_law_far", "_law_corners_here", "_law_middle", "_law_x", "_law_it"]
theorem sc_L_broken : FnScope N_broken ["_law_shuts", "_law_stricts", "_law_shut"] (defScope s_L_is_broken) := ⟨rfl, rfl, rfl, by decide +kernel, rfl, by decide +kernel, by decide +kernel⟩
/-- what the law's own judgement is asked -/
structure Asked (W : Nat) (ws ss : List (List Int)) (w : List Int) : Prop where
  fine : Fine W (ws ++ ss ++ [neg w])
  few : ws.length + ss.length ≤ 11
theorem do_L_broken (T : Txt K mg C) : Does P w K mg base 3 "_law_is_broken" ["_law_shuts", "_law_stricts", "_law_shut"]
    (PrG (fun (g : Nat × List (List Int) × List (List Int) × List Int) vs H => ∃ v u y, vs = [v, u, y] ∧ RowsT K g.2.1 v H ∧ RowsT K g.2.2.1 u H ∧ Row K g.2.2.2 y H ∧ Asked g.1 g.2.1 g.2.2.1 g.2.2.2) fun g => Is (.bl (broken g.2.1 g.2.2.1 g.2.2.2))) :=
  mk_doesG T.L_is_broken sc_L_broken (fun _ _ _ _ _ _ us hl => match us, hl with | [_, _, _], _ => rfl) (fun g vs H h => by obtain ⟨v, u, y, rfl, _⟩ := h; rfl) fun f cdv A outer s H vs Q E g hr h q => by
    obtain ⟨W, ws, ss, r⟩ := g
    obtain ⟨v, u, y, rfl, hv, hu, hy, fn, hfew⟩ := h
    dsimp only at hv hu hy fn hfew q
    have nd := (sc_L_broken).nd
    have hr1 : Room 1 _ := hr.mono (by decide)
    refine ⟨_, pss_cons (ps_set (i := 3) nd rfl (Or.inl rfl) (pe_callTy call_tuple_of (by rfl) T.z_tuple (by decide +kernel) (pa_cons (pe_lc (own := [("_law_x", 6)]) (g := gName 6) (tt := tYes) rfl nd (pi_tup (pv 2)) (blkOk_by (N := N_broken) (sc := defScope s_L_is_broken) (by decide +kernel)) (fun _ _ _ _ _ => pg_name (i := 6) nd rfl (Or.inl rfl)) (fun _ _ _ _ _ => pts_nil) (fun _ _ _ _ _ => pe_un un_neg (pv 6))) pa_nil)))
      (pss_cons (ps_set (i := 4) nd rfl (Or.inl rfl) (pe_do (do_L_corners T) hr (by rfl) (pa_cons (pe_op op_catA (pe_op op_catA (pv 0) (pv 1)) (pe_tup (pa_cons (pv 3) pa_nil))) pa_nil)))
      (pss_cons (ps_if (pt_cmpR (op_eqD hr.units) (pv 4) (pe_lst pa_nil) (nomark _)) (pss_one (ps_ret pe_bl)) pss_nil)
      (pss_cons (ps_set (i := 5) nd rfl (Or.inr rfl) (pe_do (do_L_mean T) hr1 (by rfl) (pa_cons (pv 4) pa_nil)))
      (pss_one (ps_ret (pe_cmpR (op_eqD hr.units) (pe_lc (own := [("_law_it", 7)]) (g := gName 7) rfl nd (pi_tup (pe_op op_catA (pv 1) (pe_tup (pa_cons (pv 3) pa_nil)))) (blkOk_by (N := N_broken) (sc := defScope s_L_is_broken) (by decide +kernel)) (fun _ _ _ _ _ => pg_name (i := 7) nd rfl (Or.inl rfl))
          (fun _ _ _ _ _ => pts_one (pt_cmpR op_le (pe_do (do_L_value T) hr1 (by rfl) (pa_cons (pv 7) (pa_cons (pv 5) pa_nil))) pe_int (nomark _))) (fun _ _ _ _ _ => pe_int)) (pe_lst pa_nil) (nomark _))))))), ?_⟩
    have lr : (neg r).length = W := fn.len _ (List.mem_append_right _ (List.mem_singleton.mpr rfl))
    have lr' : r.length = W := by rw [← lr]; simp [neg]
    have hW1 : 1 ≤ W ∧ W ≤ 3 := by rcases fn.w with h | h <;> omega
    refine st_asg (R := R0) (P := Row K (neg r)) (gv_tuple (gv_mapR (fun x => -x) (gv_slot mo_row trivial rfl hy) (by omega) trivial (fun x => rfl) fun D x H1 hx o t => gv_negI (gv_varI rfl))) trivial fun v3 H1 e1 _ hv3 => ?_
    have e1 := r0_ex e1
    have hv1 := mo_rowsT (R := R0) v H H1 (Rel.ex e1) trivial hv
    have hu1 := mo_rowsT (R := R0) u H H1 (Rel.ex e1) trivial hu
    show tSeq _ _ _ [some v, some u, some y, some v3, none, none, none, none] H1
    refine st_asg (R := R0) (P := RowsN R0 K (corners (ws ++ ss ++ [neg r]))) ?_ trivial fun v4 H2 e2 _ hv4 => ?_
    · exact gv_call (pre := fun (g : (Addr → Prop) × Nat × List (List Int)) vs H => ∃ v, vs = [v] ∧ RowsT K g.2.2 v H ∧ Fine g.2.1 g.2.2 ∧ ∀ a, g.1 a → H a ≠ none) (post := fun g v H => RowsN R0 K (corners g.2.2) v H ∧ ∀ a, v = .ref a → ¬ g.1 a) (fun _ => False, W, ws ++ ss ++ [neg r]) (ga_1 (gv_catRows (gv_catRows (gv_slot mo_rowsT trivial rfl hv1) (gv_slot mo_rowsT trivial rfl hu1) (by omega)) (gv_oneRow (gv_slot mo_row trivial rfl hv3)) (by simp; omega))) (fun vs H1 _ _ ⟨v, e1, e2⟩ => ⟨v, e1, e2, fn, fun _ z => z.elim⟩) fun v H1 _ _ p => p.1
    have e2 := r0_ex e2
    have hc := corners_fine fn
    have hcl : (corners (ws ++ ss ++ [neg r])).length ≤ 144 := corners_len fn.w fn.len (by simp; omega)
    have hpos : broken ws ss r = if corners (ws ++ ss ++ [neg r]) = [] then false else (ss ++ [neg r]).all fun s => decide (0 < value s (mean (corners (ws ++ ss ++ [neg r])))) := rfl
    rw [hpos] at q
    generalize corners (ws ++ ss ++ [neg r]) = cs at *
    show tSeq _ _ _ [some v, some u, some y, some v3, some v4, none, none, none] H2
    refine st_when (R := R0) (B := (· = cs.isEmpty)) (gt_test (gv_eqNil (Gv.imp (gv_slot mo_rowsN trivial rfl hv4) fun v H' _ p => nil_rows p.l))) trivial (fun H3 e3 _ hb => ?_) fun H3 e3 _ hb => ?_
    · have : cs = [] := List.isEmpty_iff.mp hb.symm
      exact q _ H3 ((e1.trans e2).trans (r0_ex e3)) (by rw [if_pos this])
    · have e3 := r0_ex e3
      have hne : cs ≠ [] := fun e => by rw [e] at hb; simp at hb
      rw [if_neg hne] at q
      have hv4' := mo_rowsN (R := R0) v4 H2 H3 (Rel.ex e3) trivial hv4
      refine st_asg (R := R0) (P := Row K (mean cs)) ?_ trivial fun v5 H4 e4 _ hv5 => ?_
      · exact gv_call (pre := fun (g : Nat × List (List Int)) vs H => ∃ v, vs = [v] ∧ RowsN R0 K g.2 v H ∧ (g.1 = 2 ∨ g.1 = 3) ∧ (∀ p ∈ g.2, p.length = g.1 ∧ Lim 200000000000000 p) ∧ g.2 ≠ [] ∧ g.2.length ≤ 150) (post := fun g => Row K (mean g.2)) (W, cs) (ga_1 (gv_slot mo_rowsN trivial rfl hv4')) (fun vs H1 _ _ ⟨v, e1, e2⟩ => ⟨v, e1, e2, fn.w, hc, hne, by dsimp only; omega⟩) fun v H1 _ _ p => p
      have e4 := r0_ex e4
      have ee : Ex H1 H4 := (e2.trans e3).trans e4
      obtain ⟨a, us, rfl, hq, al⟩ := mo_rowsT (R := R0) u H1 H4 (Rel.ex ee) trivial hu1
      have hf := mo_row (R := R0) v3 H1 H4 (Rel.ex ee) trivial hv3
      have sm := mean_lim hW1.1 hne (by omega) hc
      have lm : (mean cs).length = W := by
        have base := fold_lim cs.tail (cs.headD []) 0 (W := W) (by cases cs with | nil => exact absurd rfl hne | cons c cs => exact (hc c List.mem_cons_self).1) (by cases cs with | nil => exact absurd rfl hne | cons c cs => exact fun e => by have := (hc c List.mem_cons_self).1; simp at e; rw [e] at this; simp at this; omega) (by cases cs with | nil => exact absurd rfl hne | cons c cs => exact fun x hx => Nat.lt_of_le_of_lt ((hc c List.mem_cons_self).2 x hx) (by decide)) fun p hp => hc p (List.mem_of_mem_tail hp)
        unfold mean
        dsimp only
        rw [List.length_append, List.length_dropLast, base.1]
        simp
        omega
      show tRet _ _ [some v, some (.ref a), some y, some v3, some v4, some v5, none, none] H4
      refine st_ret (R := R0) (P := Is (.bl ((ss ++ [neg r]).all fun s => decide (0 < value s (mean cs))))) ?_ trivial fun v6 H5 e5 _ h6 => q v6 H5 ((e1.trans ee).trans (r0_ex e5)) h6
      have mem2 : ∀ s ∈ ss ++ [neg r], s ∈ ws ++ ss ++ [neg r] := fun s hs => by
        rcases List.mem_append.mp hs with h | h
        · exact List.mem_append_left _ (List.mem_append_right _ h)
        · exact List.mem_append_right _ h
      refine gv_is (gv_none (a := a) (rs := ss ++ [neg r]) (ys := us ++ [v3]) (fun s => decide (value s (mean cs) ≤ 0)) (gv_cat (gv_slot mo_rowV trivial rfl ⟨a, rfl, hq⟩) (gv_tupK (ga_k (gv_varI rfl) ga_n) (by simp)) (by rw [al.1]; simp; omega)) (al_append al (al_one hf)) (by simp; omega) trivial (fun x => rfl) fun D s y' H5 hs hy' t o => gt_test (gv_I0 (g := fun i j => .bl (decide (i ≤ j))) (gv_value (gv_slot mo_row o rfl hy') (gv_slot mo_row o rfl (row_thru t hv5)) (by rw [fn.len s (mem2 s hs), lm]) (by rw [fn.len s (mem2 s hs)]; omega) ((fn.lim s (mem2 s hs)).sm (by decide)) sm) gv_c)) ?_
      refine congrArg V.bl ?_
      congr 1
      funext s
      exact not_le_dec _ _
end
end Tm
end
section
set_option Elab.async false
set_option linter.all false
set_option maxRecDepth 100000
set_option maxHeartbeats 4000000
set_option exponentiation.threshold 100000
namespace Tm
open PySem PySem.Spec PyProof.Rows L2
def pts : Nat → List (List Int)
  | 0 => [[]]
  | n + 1 => longerTo (pts n) 7
theorem pts_len : ∀ n, (pts n).length = 7 ^ n
  | 0 => rfl
  | n + 1 => by rw [show pts (n + 1) = longerTo (pts n) 7 from rfl, longerTo_len, pts_len n, Nat.pow_succ, Nat.mul_comm]
theorem pts_ok : ∀ n, ∀ r ∈ pts n, r.length = n ∧ Lim 3 r
  | 0 => fun r hr => by
    rw [show pts 0 = [[]] from rfl] at hr
    rw [List.mem_singleton.mp hr]
    exact ⟨rfl, fun x hx => by cases hx⟩
  | n + 1 => fun r hr => by
    rw [show pts (n + 1) = longerTo (pts n) 7 from rfl] at hr
    unfold longerTo at hr
    obtain ⟨i, hi, hr⟩ := List.mem_flatMap.mp hr
    obtain ⟨s, hs, rfl⟩ := List.mem_map.mp hr
    have hi := List.mem_range.mp hi
    obtain ⟨h1, h2⟩ := pts_ok n s hs
    refine ⟨by simp [h1], fun x hx => ?_⟩
    rcases List.mem_append.mp hx with h | h
    · exact h2 x h
    · rw [List.mem_singleton.mp h]; omega
section
variable {P : Program} {w : World} {K : PySem.W.Frag} {mg : Str → Option Value} {base : Heap} {C : Addr}
/-! _law_is_kept_nearby -/
abbrev N_kept : List Str := ["_law_width", "_law_shuts", "_law_stricts", "_law_shut", "_law_points", "_law_at", "_law_bound", "_law_point_here"]
theorem sc_L_kept : FnScope N_kept ["_law_width", "_law_shuts", "_law_stricts", "_law_shut"] (defScope s_L_is_kept_nearby) := ⟨rfl, rfl, rfl, by decide +kernel, rfl, by decide +kernel, by decide +kernel⟩
theorem do_L_kept (T : Txt K mg C) : Does P w K mg base 4 "_law_is_kept_nearby" ["_law_width", "_law_shuts", "_law_stricts", "_law_shut"]
    (PrG (fun (g : Nat × List (List Int) × List (List Int) × List Int) vs H => ∃ v u y, vs = [.int (g.1 : Int), v, u, y] ∧ RowsT K g.2.1 v H ∧ RowsT K g.2.2.1 u H ∧ Row K g.2.2.2 y H ∧ (g.1 = 2 ∨ g.1 = 3) ∧ Nice g.1 g.2.1 ∧ Nice g.1 g.2.2.1 ∧ g.2.2.2.length = g.1 ∧ Sm g.2.2.2 ∧ ∀ p, ¬ Breaks g.1 g.2.1 g.2.2.1 g.2.2.2 p) fun _ => Is (.bl true)) :=
  mk_doesG T.L_is_kept_nearby sc_L_kept (fun _ _ _ _ _ _ us hl => match us, hl with | [_, _, _, _], _ => rfl) (fun g vs H h => by obtain ⟨v, u, y, rfl, _⟩ := h; rfl) fun f cdv A outer s H vs Q E g hr h q => by
    obtain ⟨W, ws, ss, r⟩ := g
    obtain ⟨v, u, y, rfl, hv, hu, hy, hW, nw, ns, lr, smr, nb⟩ := h
    dsimp only at hv hu hy hW nw ns lr smr nb q
    have nd := (sc_L_kept).nd
    have hr1 : Room 1 _ := hr.mono (by decide)
    refine ⟨_, pss_cons (ps_set (i := 4) nd rfl (Or.inl rfl) (pe_lst (pa_cons (pe_tup pa_nil) pa_nil)))
      (pss_cons (ps_for PassesOwn.never rfl (pi_range1 (by rfl) T.z_range (pa_cons (pe_op op_sub (pv 0) pe_int) pa_nil)) (pg_name (i := 5) nd rfl (Or.inl rfl))
        (pss_one (ps_set (i := 4) nd rfl (Or.inl rfl) (pe_do (do_L_longer T) hr1 (by rfl) (pa_cons (pv 4) pa_nil)))))
      (pss_cons (ps_for PassesOwn.never rfl (pi_tup (pe_tup (pa_cons pe_int (pa_cons pe_int (pa_cons pe_int pa_nil))))) (pg_name (i := 6) nd rfl (Or.inl rfl))
        (pss_one (ps_for PassesOwn.never rfl (pi_list (pv 4)) (pg_name (i := 7) nd rfl (Or.inl rfl))
          (pss_one (ps_if (PW.pt (pw_and (pt_val (pe_do (do_L_is_point T) hr (by rfl) (pa_cons (pv 0) (pa_cons (pv 1) (pa_cons (pv 2) (pa_cons (pe_op op_catA (pv 7) (pe_tup (pa_cons (pv 6) pa_nil))) pa_nil)))))) (pw_and1 (pt_cmpR op_lt (pe_do (do_L_value T) hr1 (by rfl) (pa_cons (pv 3) (pa_cons (pe_op op_catA (pv 7) (pe_tup (pa_cons (pv 6) pa_nil))) pa_nil))) pe_int (nomark _)))))
            (pss_one (ps_ret pe_bl)) pss_nil)))))
      (pss_one (ps_ret pe_bl)))), ?_⟩
    have hW1 : 1 ≤ W ∧ W ≤ 3 := by rcases hW with h | h <;> omega
    refine st_asg (R := R0) (P := RowsN R0 K (pts 0)) ?_ trivial fun v4 H1 e1 _ hv4 => ?_
    · refine gv_lst (A := fun vs H => ∃ v, vs = [v] ∧ Row K [] v H) (ga_1 ?_) (fun vs H1 ⟨v, e, _⟩ => by rw [e]; simp) fun vs H1 p e o ⟨v, e1, e2⟩ np => ?_
      · exact gv_tup (A := fun ws _ => ws = []) ga_nil (fun ws H1 e => by rw [e]; simp) fun ws H1 p e o h np => ⟨p, rfl, by rw [h]; exact st_of upd_same⟩
      · exact ⟨p, [v], rfl, id, by rw [e1]; exact upd_same, al_one (mo_row (R := R0) v H1 _ (Rel.ex (Ex.new np)) trivial e2)⟩
    have e1 := r0_ex e1
    have hv1 := mo_rowsT (R := R0) v H H1 (Rel.ex e1) trivial hv
    have hu1 := mo_rowsT (R := R0) u H H1 (Rel.ex e1) trivial hu
    have hy1 := mo_row (R := R0) y H H1 (Rel.ex e1) trivial hy
    show tSeq (tFor _ _ _) _ _ [some (.int (W : Int)), some v, some u, some y, some v4, none, none, none] H1
    refine st_for (R := R0) (n := W - 1) (Y := YFn fun i => .int (0 + i)) ?_ trivial (fun i σ' H' => ∃ v4 s5, σ' = [some (.int (W : Int)), some v, some u, some y, some v4, s5, none, none] ∧ RowsN R0 K (pts i) v4 H') (fun H2 e2 _ => ⟨v4, none, rfl, mo_rowsN (R := R0) v4 H1 H2 (Rel.rq e2) trivial hv4⟩) (fun i x σ' H' H'' hi e' _ hp y' => ?_) (fun σ' H2 e2 _ hp => ?_)
    · have := gi_rng1 (R := R0) (σ := [some (.int (W : Int)), some v, some u, some y, some v4, none, none, none]) (H := H1) (ta := tCons (tOp (rI0 fun i j => .int (i - j)) (tVar 0) (tC (.int 1))) tNil) (n := (W : Int) - 1) (ga_k (gv_sub (gv_varI rfl) gv_c) ga_n) (by omega)
      rw [show ((W : Int) - 1).toNat = W - 1 by omega] at this
      exact this
    · obtain ⟨w4, s5, rfl, hw4⟩ := hp
      obtain ⟨rfl, rfl⟩ := y'
      refine g_name ?_
      show tAsg _ _ _ [some (.int (W : Int)), some v, some u, some y, some w4, some (.int (0 + (i : Int))), none, none] H''
      refine st_asg1 (R := R0) (P := RowsN R0 K (pts (i + 1))) ?_ trivial fun w5 H3 e3 _ hw5 => ⟨e3, trivial, w5, some (.int (0 + (i : Int))), rfl, hw5⟩
      have l7 : 7 ^ i ≤ 7 ^ 1 := Nat.pow_le_pow_right (by decide) (by omega)
      exact gv_call (pre := fun (rs : List (List Int)) vs H => ∃ v, vs = [v] ∧ RowsN R0 K rs v H ∧ rs.length ≤ 100 ∧ ∀ r ∈ rs, r.length ≤ 100) (post := fun rs => RowsN R0 K (longerTo rs 7)) (pts i) (ga_1 (gv_slot mo_rowsN trivial rfl hw4)) (fun vs H1 _ _ ⟨v, e1, e2⟩ => ⟨v, e1, e2, by rw [pts_len]; omega, fun r hr => by rw [(pts_ok i r hr).1]; omega⟩) fun v H1 _ _ p => p
    · have e2 := r0_ex e2
      obtain ⟨w4, s5, rfl, hw4⟩ := hp
      have hv2 := mo_rowsT (R := R0) v H1 H2 (Rel.ex e2) trivial hv1
      have hu2 := mo_rowsT (R := R0) u H1 H2 (Rel.ex e2) trivial hu1
      have hy2 := mo_row (R := R0) y H1 H2 (Rel.ex e2) trivial hy1
      show tSeq (tFor _ _ _) _ _ [some (.int (W : Int)), some v, some u, some y, some w4, s5, none, none] H2
      refine st_for (R := R0) (n := 3) (Y := YAt [.int 1, .int 2, .int 3]) (gi_tup (xs := [.int 1, .int 2, .int 3]) (gv_tupK (ga_k gv_c (ga_k gv_c (ga_k gv_c ga_n))) (by simp))) trivial (fun i σ' H' => ∃ s6 s7, σ' = [some (.int (W : Int)), some v, some u, some y, some w4, s5, s6, s7]) (fun H3 e3 _ => ⟨none, none, rfl⟩) (fun i x σ' H3 H'' hi e3 _ hp y' => ?_) (fun σ' H3 e3 _ hp => ?_)
      · obtain ⟨s6, s7, rfl⟩ := hp
        obtain ⟨rfl, hx⟩ := y'
        have hxi : ∃ b : Int, x = .int b ∧ 1 ≤ b ∧ b ≤ 3 := by
          match i, hi with
          | 0, _ => exact ⟨1, (Option.some.inj hx).symm, by decide, by decide⟩
          | 1, _ => exact ⟨2, (Option.some.inj hx).symm, by decide, by decide⟩
          | 2, _ => exact ⟨3, (Option.some.inj hx).symm, by decide, by decide⟩
        obtain ⟨b, rfl, hb1, hb2⟩ := hxi
        have e3 := r0_ex e3
        have hv3 := mo_rowsT (R := R0) v H2 H'' (Rel.ex e3) trivial hv2
        have hu3 := mo_rowsT (R := R0) u H2 H'' (Rel.ex e3) trivial hu2
        have hy3 := mo_row (R := R0) y H2 H'' (Rel.ex e3) trivial hy2
        obtain ⟨a, ys, rfl, _, ha, al⟩ := mo_rowsN (R := R0) w4 H2 H'' (Rel.ex e3) trivial hw4
        refine g_name ?_
        show tFor _ _ _ _ [some (.int (W : Int)), some v, some u, some y, some (.ref a), s5, some (.int b), s7] H''
        refine s_for (R := R0) (n := ys.length) (Y := YAt ys) (gi_lst (gv_slot (P := fun v H => ∃ a, v = .ref a ∧ ¬ R0.W a ∧ SqL K H a ys) (fun v H H' e o ⟨a, h1, m, h2⟩ => ⟨a, h1, m, mo_lst e m h2⟩) trivial rfl ⟨a, rfl, id, sq_of ha⟩)) trivial (fun i σ' H' => ∃ s7, σ' = [some (.int (W : Int)), some v, some u, some y, some (.ref a), s5, some (.int b), s7]) (fun H3 e3 _ => ⟨s7, rfl⟩) (fun j x σ' H4 H5 hj e4 _ hp y' => ?_) (fun σ' H4 e4 _ hp => ?_)
        · obtain ⟨s7, rfl⟩ := hp
          obtain ⟨rfl, hx⟩ := y'
          have e4 := r0_ex e4
          refine g_name ?_
          have hjl : j < (pts (W - 1)).length := by rw [← al.1]; exact hj
          have hrow := (al_row (R := R0) (Rel.ex e4) trivial al).2 j x _ hx (List.getElem?_eq_getElem hjl)
          obtain ⟨pl, plim⟩ := pts_ok (W - 1) _ (List.getElem_mem hjl)
          generalize (pts (W - 1))[j] = p at *
          show tIfS _ _ _ _ [some (.int (W : Int)), some v, some u, some y, some (.ref a), s5, some (.int b), some x] H5
          have hv5 := mo_rowsT (R := R0) v H'' H5 (Rel.ex e4) trivial hv3
          have hu5 := mo_rowsT (R := R0) u H'' H5 (Rel.ex e4) trivial hu3
          have hy5 := mo_row (R := R0) y H'' H5 (Rel.ex e4) trivial hy3
          have lpb : (p ++ [b]).length = W := by simp; omega
          have smp : Sm (p ++ [b]) := fun x hx => lim_small (by
            rcases List.mem_append.mp hx with h | h
            · exact Nat.le_trans (plim x h) (by decide)
            · rw [List.mem_singleton.mp h]; omega)
          have gp : Gv R0 (tOp (rCatA K) (tVar 7) (tTup (tCons (tVar 6) tNil))) [some (.int (W : Int)), some v, some u, some y, some (.ref a), s5, some (.int b), some x] H5 (Row K (p ++ [b])) := gv_catR (gv_slot mo_row trivial rfl hrow) (gv_tup1 (gv_varI rfl)) (by simp; omega)
          have hlast : last (p ++ [b]) = b := by simp [last]
          refine st_when1 (R := R0) (B := (· = false)) ?_ trivial (fun _ _ _ e => Bool.noConfusion e) fun H6 e6 _ _ => ⟨e6, trivial, some x, rfl⟩
          refine gt_is (gt_and (a := (decide (1 ≤ last (p ++ [b])) && (ws.all (fun r => decide (0 ≤ value r (p ++ [b]))) && ss.all fun r => decide (0 < value r (p ++ [b]))))) (b := decide (value r (p ++ [b]) < 0)) (gt_B ?_) fun _ => gt_test (gv_I0 (g := fun i j => .bl (decide (i < j))) (gv_value (gv_slot mo_row trivial rfl hy5) gp (by rw [lr, lpb]) (by omega) smr smp) gv_c)) ?_
          · refine gv_call (pre := fun (g : Nat × List (List Int) × List (List Int) × List Int) vs H => ∃ v u y, vs = [.int (g.1 : Int), v, u, y] ∧ RowsT K g.2.1 v H ∧ RowsT K g.2.2.1 u H ∧ Row K g.2.2.2 y H ∧ Nice g.1 g.2.1 ∧ Nice g.1 g.2.2.1 ∧ g.2.2.2.length = g.1 ∧ Sm g.2.2.2 ∧ 1 ≤ g.1 ∧ g.1 ≤ 1000)
              (post := fun g => Is (.bl (decide (1 ≤ last g.2.2.2) && (g.2.1.all (fun r => decide (0 ≤ value r g.2.2.2)) && g.2.2.1.all fun r => decide (0 < value r g.2.2.2))))) (W, ws, ss, p ++ [b]) (ga_cons (gv_varI rfl) mo_is (ga_cons (gv_slot mo_rowsT trivial rfl hv5) mo_rowsT (ga_cons (gv_slot mo_rowsT trivial rfl hu5) mo_rowsT (ga_1 gp)))) (fun vs H1 _ _ h => ?_) fun v H1 _ _ p => p
            obtain ⟨a1, r1, rfl, rfl, a2, r2, rfl, h2, a3, r3, rfl, h3, a4, rfl, h4⟩ := h
            exact ⟨a2, a3, a4, rfl, h2, h3, h4, nw, ns, lpb, smp, hW1.1, by dsimp only; omega⟩
          · by_cases hh : (decide (1 ≤ last (p ++ [b])) && (ws.all (fun r => decide (0 ≤ value r (p ++ [b]))) && ss.all fun r => decide (0 < value r (p ++ [b])))) && decide (value r (p ++ [b]) < 0)
            · exfalso
              rw [Bool.and_eq_true, Bool.and_eq_true, Bool.and_eq_true] at hh
              obtain ⟨⟨_, h1, h2⟩, h3⟩ := hh
              exact nb (p ++ [b]) ⟨lpb, by rw [hlast]; omega, fun d hd => of_decide_eq_true (List.all_eq_true.mp h1 d hd), fun d hd => of_decide_eq_true (List.all_eq_true.mp h2 d hd), of_decide_eq_true h3⟩
            · exact Bool.eq_false_iff.mpr hh
        · obtain ⟨s7, rfl⟩ := hp
          exact ⟨e4, trivial, some (.int b), s7, rfl⟩
      · exact q _ H3 ((e1.trans e2).trans (r0_ex e3)) rfl
end
end Tm
end
section
set_option linter.all false
namespace Tm
/-! determinants of four columns with four parts; columns are functions of their parts -/
def m2 (a b : Nat → Int) (i j : Nat) : Int := a i * b j - a j * b i
def dd (a b c d : Nat → Int) : Int :=
  m2 a b 0 1 * m2 c d 2 3 - m2 a b 0 2 * m2 c d 1 3 + m2 a b 0 3 * m2 c d 1 2 + m2 a b 1 2 * m2 c d 0 3 - m2 a b 1 3 * m2 c d 0 2 + m2 a b 2 3 * m2 c d 0 1
def put (c : Nat → Nat → Int) (k : Nat) (v : Nat → Int) : Nat → Nat → Int := fun x => if x = k then v else c x
def D (c : Nat → Nat → Int) : Int := dd (c 0) (c 1) (c 2) (c 3)
theorem four {k : Nat} (h : k < 4) : k = 0 ∨ k = 1 ∨ k = 2 ∨ k = 3 := by omega
theorem dd_lin0 (a b c d a' : Nat → Int) (x y : Int) : dd (fun t => x * a t + y * a' t) b c d = x * dd a b c d + y * dd a' b c d := by
  simp only [dd, m2]; grind
theorem dd_lin1 (a b c d a' : Nat → Int) (x y : Int) : dd b (fun t => x * a t + y * a' t) c d = x * dd b a c d + y * dd b a' c d := by
  simp only [dd, m2]; grind
theorem dd_lin2 (a b c d a' : Nat → Int) (x y : Int) : dd b c (fun t => x * a t + y * a' t) d = x * dd b c a d + y * dd b c a' d := by
  simp only [dd, m2]; grind
theorem dd_lin3 (a b c d a' : Nat → Int) (x y : Int) : dd b c d (fun t => x * a t + y * a' t) = x * dd b c d a + y * dd b c d a' := by
  simp only [dd, m2]; grind
theorem dd_sw01 (a b c d : Nat → Int) : dd b a c d = - dd a b c d := by simp only [dd, m2]; grind
theorem dd_sw12 (a b c d : Nat → Int) : dd a c b d = - dd a b c d := by simp only [dd, m2]; grind
theorem dd_sw23 (a b c d : Nat → Int) : dd a b d c = - dd a b c d := by simp only [dd, m2]; grind
theorem dd_cramer (a b c d v : Nat → Int) : ∀ t, t < 4 → dd a b c d * v t = dd v b c d * a t + dd a v c d * b t + dd a b v d * c t + dd a b c v * d t := by
  intro t ht
  rcases four ht with rfl | rfl | rfl | rfl <;> (simp only [dd, m2]; grind)
end Tm
end
section
set_option linter.all false
namespace Tm
theorem dd_fun1 (u c d : Nat → Int) : ∃ f0 f1 f2 f3 : Int, ∀ x : Nat → Int, dd u x c d = f0 * x 0 + f1 * x 1 + f2 * x 2 + f3 * x 3 := by
  refine ⟨-(u 1 * m2 c d 2 3) + u 2 * m2 c d 1 3 - u 3 * m2 c d 1 2, u 0 * m2 c d 2 3 - u 2 * m2 c d 0 3 + u 3 * m2 c d 0 2, -(u 0 * m2 c d 1 3) + u 1 * m2 c d 0 3 - u 3 * m2 c d 0 1, u 0 * m2 c d 1 2 - u 1 * m2 c d 0 2 + u 2 * m2 c d 0 1, fun x => ?_⟩
  simp only [dd]
  simp only [m2]
  grind
theorem dd_eq12 (a b d : Nat → Int) : dd a b b d = 0 := by simp only [dd, m2]; grind
theorem dd_eq13 (a b d : Nat → Int) : dd a b d b = 0 := by simp only [dd, m2]; grind
theorem dd_pl (a b c d u v : Nat → Int) : dd a b c d * dd u v c d = dd u b c d * dd a v c d - dd a u c d * dd v b c d := by
  obtain ⟨f0, f1, f2, f3, hf⟩ := dd_fun1 u c d
  have h0 := dd_cramer a b c d v 0 (by decide)
  have h1 := dd_cramer a b c d v 1 (by decide)
  have h2 := dd_cramer a b c d v 2 (by decide)
  have h3 := dd_cramer a b c d v 3 (by decide)
  have fa := hf a
  have fb := hf b
  have fc := hf c
  have fd := hf d
  have fv := hf v
  rw [dd_eq12] at fc
  rw [dd_eq13] at fd
  rw [dd_sw01] at fa
  generalize dd a b c d = E at *
  generalize dd v b c d = e0 at *
  generalize dd a v c d = e1 at *
  generalize dd a b v d = e2 at *
  generalize dd a b c v = e3 at *
  rw [fv, fb]
  have t : E * (f0 * v 0 + f1 * v 1 + f2 * v 2 + f3 * v 3) = f0 * (E * v 0) + f1 * (E * v 1) + f2 * (E * v 2) + f3 * (E * v 3) := by grind
  rw [t, h0, h1, h2, h3]
  have s : f0 * (e0 * a 0 + e1 * b 0 + e2 * c 0 + e3 * d 0) + f1 * (e0 * a 1 + e1 * b 1 + e2 * c 1 + e3 * d 1) + f2 * (e0 * a 2 + e1 * b 2 + e2 * c 2 + e3 * d 2) + f3 * (e0 * a 3 + e1 * b 3 + e2 * c 3 + e3 * d 3)
    = e0 * (f0 * a 0 + f1 * a 1 + f2 * a 2 + f3 * a 3) + e1 * (f0 * b 0 + f1 * b 1 + f2 * b 2 + f3 * b 3) + e2 * (f0 * c 0 + f1 * c 1 + f2 * c 2 + f3 * c 3) + e3 * (f0 * d 0 + f1 * d 1 + f2 * d 2 + f3 * d 3) := by grind
  rw [s, ← fa, ← fc, ← fd]
  grind
/-! slots -/
theorem dd_sw02 (a b c d : Nat → Int) : dd c b a d = - dd a b c d := by simp only [dd, m2]; grind
theorem dd_sw03 (a b c d : Nat → Int) : dd d b c a = - dd a b c d := by simp only [dd, m2]; grind
theorem dd_sw13 (a b c d : Nat → Int) : dd a d c b = - dd a b c d := by simp only [dd, m2]; grind
/-- the exchange of two slots: from slots 0, 1 -/
theorem pl01 (a b c d u v : Nat → Int) : dd a b c d * dd u v c d = dd u b c d * dd a v c d - dd a u c d * dd v b c d := dd_pl a b c d u v
theorem pl02 (a b c d u v : Nat → Int) : dd a b c d * dd u b v d = dd u b c d * dd a b v d - dd a b u d * dd v b c d := by
  have h := dd_pl a c b d u v
  have e1 := dd_sw12 a b c d
  have e2 := dd_sw12 u b v d
  have e3 := dd_sw12 u b c d
  have e4 := dd_sw12 a b v d
  have e5 := dd_sw12 a b u d
  have e6 := dd_sw12 v b c d
  grind
theorem pl03 (a b c d u v : Nat → Int) : dd a b c d * dd u b c v = dd u b c d * dd a b c v - dd a b c u * dd v b c d := by
  have h := dd_pl a d c b u v
  have e1 := dd_sw13 a b c d
  have e2 := dd_sw13 u b c v
  have e3 := dd_sw13 u b c d
  have e4 := dd_sw13 a b c v
  have e5 := dd_sw13 a b c u
  have e6 := dd_sw13 v b c d
  grind
theorem pl12 (a b c d u v : Nat → Int) : dd a b c d * dd a u v d = dd a u c d * dd a b v d - dd a b u d * dd a v c d := by
  have h := pl02 b a c d u v
  have e1 := dd_sw01 a b c d
  have e2 := dd_sw01 a u v d
  have e3 := dd_sw01 a u c d
  have e4 := dd_sw01 a b v d
  have e5 := dd_sw01 a b u d
  have e6 := dd_sw01 a v c d
  grind
theorem pl13 (a b c d u v : Nat → Int) : dd a b c d * dd a u c v = dd a u c d * dd a b c v - dd a b c u * dd a v c d := by
  have h := pl03 b a c d u v
  have e1 := dd_sw01 a b c d
  have e2 := dd_sw01 a u c v
  have e3 := dd_sw01 a u c d
  have e4 := dd_sw01 a b c v
  have e5 := dd_sw01 a b c u
  have e6 := dd_sw01 a v c d
  grind
theorem pl23 (a b c d u v : Nat → Int) : dd a b c d * dd a b u v = dd a b u d * dd a b c v - dd a b c u * dd a b v d := by
  have h := pl13 a c b d u v
  have e1 := dd_sw12 a b c d
  have e2 := dd_sw12 a b u v
  have e3 := dd_sw12 a b u d
  have e4 := dd_sw12 a b c v
  have e5 := dd_sw12 a b c u
  have e6 := dd_sw12 a b v d
  grind
theorem put_same (c : Nat → Nat → Int) (k : Nat) (v : Nat → Int) : put c k v k = v := by simp [put]
theorem put_ne (c : Nat → Nat → Int) {k i : Nat} (v : Nat → Int) (h : i ≠ k) : put c k v i = c i := by simp [put, h]
theorem put_put (c : Nat → Nat → Int) (k : Nat) (u v : Nat → Int) : put (put c k u) k v = put c k v := by
  funext x t
  simp only [put]
  split <;> rfl
theorem plu (c : Nat → Nat → Int) {r i : Nat} (hr : r < 4) (hi : i < 4) (h : i ≠ r) (u v : Nat → Int) :
    D c * D (put (put c r u) i v) = D (put c r u) * D (put c i v) - D (put c i u) * D (put c r v) := by
  rcases four hr with rfl | rfl | rfl | rfl <;> rcases four hi with rfl | rfl | rfl | rfl <;> first | exact absurd rfl h | skip
  all_goals simp [D, put]
  · exact pl01 ..
  · exact pl02 ..
  · exact pl03 ..
  · have := pl01 (c 0) (c 1) (c 2) (c 3) v u; grind
  · exact pl12 ..
  · exact pl13 ..
  · have := pl02 (c 0) (c 1) (c 2) (c 3) v u; grind
  · have := pl12 (c 0) (c 1) (c 2) (c 3) v u; grind
  · exact pl23 ..
  · have := pl03 (c 0) (c 1) (c 2) (c 3) v u; grind
  · have := pl13 (c 0) (c 1) (c 2) (c 3) v u; grind
  · have := pl23 (c 0) (c 1) (c 2) (c 3) v u; grind
theorem D_lin (c : Nat → Nat → Int) {k : Nat} (hk : k < 4) (u v : Nat → Int) (x y : Int) : D (put c k (fun t => x * u t + y * v t)) = x * D (put c k u) + y * D (put c k v) := by
  rcases four hk with rfl | rfl | rfl | rfl
  all_goals simp [D, put]
  · exact dd_lin0 ..
  · exact dd_lin1 ..
  · exact dd_lin2 ..
  · exact dd_lin3 ..
theorem D_cramer (c : Nat → Nat → Int) (v : Nat → Int) {t : Nat} (ht : t < 4) : D c * v t = D (put c 0 v) * c 0 t + D (put c 1 v) * c 1 t + D (put c 2 v) * c 2 t + D (put c 3 v) * c 3 t := by
  simp [D, put]
  exact dd_cramer _ _ _ _ _ t ht
theorem put_own (c : Nat → Nat → Int) (k : Nat) : put c k (c k) = c := by
  funext x t
  simp only [put]
  split
  · rename_i h; rw [h]
  · rfl
theorem D_dup (c : Nat → Nat → Int) {k i : Nat} (hk : k < 4) (hi : i < 4) (h : i ≠ k) : D (put c k (c i)) = 0 := by
  rcases four hk with rfl | rfl | rfl | rfl <;> rcases four hi with rfl | rfl | rfl | rfl <;> first | exact absurd rfl h | skip
  all_goals (simp [D, put]; simp only [dd, m2]; grind)
/-- D sees the first four parts of a column alone -/
theorem D_congr (c : Nat → Nat → Int) (k : Nat) (u v : Nat → Int) (h : ∀ t, t < 4 → u t = v t) : D (put c k u) = D (put c k v) := by
  have h0 := h 0 (by decide)
  have h1 := h 1 (by decide)
  have h2 := h 2 (by decide)
  have h3 := h 3 (by decide)
  simp only [D, dd, m2, put]
  split <;> split <;> split <;> split <;> simp only [h0, h1, h2, h3]
end Tm
end
section
set_option linter.all false
namespace Tm
def unit (k t : Nat) : Int := if t = k then 1 else 0
/-- the column in a slot of a basis; slots behind the last are filled with units -/
def col (A : Nat → Nat → Int) (m : Nat) (bs : List Nat) (k : Nat) : Nat → Int := if k < m then A (bs.getD k 0) else unit k
def det (A : Nat → Nat → Int) (m : Nat) (bs : List Nat) : Int := D (col A m bs)
def ent (A : Nat → Nat → Int) (m : Nat) (bs : List Nat) (k j : Nat) : Int := D (put (col A m bs) k (A j))
theorem getD_set (bs : List Nat) (r s k : Nat) (hr : r < bs.length) : (bs.set r s).getD k 0 = if k = r then s else bs.getD k 0 := by
  simp only [List.getD_eq_getElem?_getD, List.getElem?_set]
  by_cases h : r = k
  · subst h; simp [hr]
  · simp [h, Ne.symm h, fun e : k = r => h e.symm]
theorem col_set (A : Nat → Nat → Int) (m : Nat) (bs : List Nat) {r s : Nat} (hr : r < m) (hl : bs.length = m) : col A m (bs.set r s) = put (col A m bs) r (A s) := by
  funext k t
  simp only [col, put, getD_set bs r s k (hl ▸ hr)]
  by_cases h : k = r
  · subst h; simp [hr]
  · simp [h]
section
variable {A : Nat → Nat → Int} {m : Nat} {bs : List Nat} {r s : Nat}
theorem det_set (hr : r < m) (hl : bs.length = m) : det A m (bs.set r s) = ent A m bs r s := by
  unfold det ent
  rw [col_set A m bs hr hl]
theorem ent_set_same (hr : r < m) (hl : bs.length = m) (j : Nat) : ent A m (bs.set r s) r j = ent A m bs r j := by
  unfold ent
  rw [col_set A m bs hr hl, put_put]
theorem ent_set (hm : m ≤ 4) (hr : r < m) (hl : bs.length = m) {i : Nat} (hi : i < m) (h : i ≠ r) (j : Nat) :
    det A m bs * ent A m (bs.set r s) i j = ent A m bs r s * ent A m bs i j - ent A m bs i s * ent A m bs r j := by
  unfold det ent
  rw [col_set A m bs hr hl]
  exact plu _ (by omega) (by omega) h _ _
theorem col_lt {k : Nat} (h : k < m) : col A m bs k = A (bs.getD k 0) := by simp [col, h]
/-- a column of the basis: the determinant in its own slot, 0 in the others -/
theorem ent_own {k : Nat} (h : k < m) : ent A m bs k (bs.getD k 0) = det A m bs := by
  unfold ent det
  rw [← col_lt (A := A) (bs := bs) h, put_own]
theorem ent_other (hm : m ≤ 4) {k i : Nat} (h : k < m) (hi : i < m) (ne : i ≠ k) : ent A m bs k (bs.getD i 0) = 0 := by
  unfold ent
  rw [← col_lt (A := A) (bs := bs) hi]
  exact D_dup _ (by omega) (by omega) ne
end
/-- sums of m parts -/
def sm : Nat → (Nat → Int) → Int
  | 0, _ => 0
  | m + 1, f => sm m f + f m
theorem sm_congr {f g : Nat → Int} : ∀ {m : Nat}, (∀ k, k < m → f k = g k) → sm m f = sm m g
  | 0, _ => rfl
  | m + 1, h => by
    show sm m f + f m = sm m g + g m
    rw [sm_congr fun k hk => h k (Nat.lt_succ_of_lt hk), h m (Nat.lt_succ_self m)]
theorem sm_add (f g : Nat → Int) : ∀ m : Nat, sm m (fun k => f k + g k) = sm m f + sm m g
  | 0 => rfl
  | m + 1 => by
    show sm m (fun k => f k + g k) + (f m + g m) = (sm m f + f m) + (sm m g + g m)
    rw [sm_add f g m]; omega
theorem sm_sub (f g : Nat → Int) : ∀ m : Nat, sm m (fun k => f k - g k) = sm m f - sm m g
  | 0 => rfl
  | m + 1 => by
    show sm m (fun k => f k - g k) + (f m - g m) = (sm m f + f m) - (sm m g + g m)
    rw [sm_sub f g m]; omega
theorem sm_mul (x : Int) (f : Nat → Int) : ∀ m : Nat, sm m (fun k => x * f k) = x * sm m f
  | 0 => by simp [sm]
  | m + 1 => by
    show sm m (fun k => x * f k) + x * f m = x * (sm m f + f m)
    rw [sm_mul x f m, Int.mul_add]
theorem sm_mulr (x : Int) (f : Nat → Int) (m : Nat) : sm m (fun k => f k * x) = sm m f * x := by
  rw [Int.mul_comm, ← sm_mul]
  exact sm_congr fun k _ => Int.mul_comm _ _
theorem sm_zero : ∀ m : Nat, sm m (fun _ => 0) = 0
  | 0 => rfl
  | m + 1 => by
    show sm m (fun _ => 0) + 0 = 0
    rw [sm_zero m]; rfl
theorem sm_all_zero {f : Nat → Int} {m : Nat} (h : ∀ k, k < m → f k = 0) : sm m f = 0 := by
  rw [sm_congr h, sm_zero]
theorem sm_nonneg {f : Nat → Int} : ∀ {m : Nat}, (∀ k, k < m → 0 ≤ f k) → 0 ≤ sm m f
  | 0, _ => Int.le_refl _
  | m + 1, h => by
    have h1 := sm_nonneg fun k hk => h k (Nat.lt_succ_of_lt hk)
    have h2 := h m (Nat.lt_succ_self m)
    show 0 ≤ sm m f + f m
    omega
theorem sm_le {f g : Nat → Int} : ∀ {m : Nat}, (∀ k, k < m → f k ≤ g k) → sm m f ≤ sm m g
  | 0, _ => Int.le_refl _
  | m + 1, h => by
    have h1 := sm_le fun k hk => h k (Nat.lt_succ_of_lt hk)
    have h2 := h m (Nat.lt_succ_self m)
    show sm m f + f m ≤ sm m g + g m
    omega
/-- a sum below 0 has a part below 0 -/
theorem sm_neg {f : Nat → Int} {m : Nat} (h : sm m f < 0) : ∃ k, k < m ∧ f k < 0 := by
  apply Classical.byContradiction
  intro hn
  have : 0 ≤ sm m f := sm_nonneg fun k hk => by
    apply Classical.byContradiction
    intro hf
    exact hn ⟨k, hk, by omega⟩
  omega
theorem sm_pos {f : Nat → Int} {m : Nat} (h : 0 < sm m f) : ∃ k, k < m ∧ 0 < f k := by
  apply Classical.byContradiction
  intro hn
  have : sm m f ≤ sm m (fun _ => 0) := sm_le fun k hk => by
    apply Classical.byContradiction
    intro hf
    exact hn ⟨k, hk, by omega⟩
  rw [sm_zero] at this
  omega
/-- a sum of parts that are not below 0 is 0: so are they -/
theorem sm_eq_zero {f : Nat → Int} : ∀ {m : Nat}, (∀ k, k < m → 0 ≤ f k) → sm m f = 0 → ∀ k, k < m → f k = 0
  | 0, _, _, k, hk => absurd hk (Nat.not_lt_zero k)
  | m + 1, h, e, k, hk => by
    have h1 : 0 ≤ sm m f := sm_nonneg fun k hk => h k (Nat.lt_succ_of_lt hk)
    have h2 := h m (Nat.lt_succ_self m)
    have e' : sm m f + f m = 0 := e
    by_cases hkm : k = m
    · subst hkm; omega
    · exact sm_eq_zero (fun k hk => h k (Nat.lt_succ_of_lt hk)) (by omega) k (by omega)
theorem sm_comm (f : Nat → Nat → Int) (n : Nat) : ∀ m : Nat, sm m (fun k => sm n (fun t => f k t)) = sm n (fun t => sm m (fun k => f k t))
  | 0 => by
    show 0 = sm n (fun t => 0)
    rw [sm_zero]
  | m + 1 => by
    show sm m (fun k => sm n (fun t => f k t)) + sm n (fun t => f m t) = sm n (fun t => sm m (fun k => f k t) + f m t)
    rw [sm_comm f n m, sm_add]
/-- one part alone -/
theorem sm_one {f : Nat → Int} : ∀ {m : Nat} (i : Nat), i < m → (∀ k, k < m → k ≠ i → f k = 0) → sm m f = f i
  | 0, i, h, _ => absurd h (Nat.not_lt_zero i)
  | m + 1, i, h, z => by
    show sm m f + f m = f i
    by_cases him : i = m
    · subst him
      rw [sm_all_zero fun k hk => z k (Nat.lt_succ_of_lt hk) (by omega)]
      omega
    · rw [sm_one i (by omega) fun k hk ne => z k (Nat.lt_succ_of_lt hk) ne, z m (Nat.lt_succ_self m) (fun e => him e.symm)]
      omega
/-- a sum that differs in one part -/
theorem sm_upd {f g : Nat → Int} : ∀ {m : Nat} (i : Nat), i < m → (∀ k, k < m → k ≠ i → f k = g k) → sm m f = sm m g + (f i - g i) := by
  intro m i h z
  have e : sm m f = sm m (fun k => g k + (f k - g k)) := sm_congr fun k _ => by omega
  rw [e, sm_add, sm_one (f := fun k => f k - g k) i h fun k hk ne => by rw [z k hk ne]; omega]
section
variable {A : Nat → Nat → Int} {m : Nat} {bs : List Nat}
/-- the columns' parts behind the last are 0 -/
def Low (A : Nat → Nat → Int) (m N : Nat) : Prop := ∀ j, j < N → ∀ t, m ≤ t → A j t = 0
/-- Cramer: a column told by those of the basis -/
theorem cramer (hm : m ≤ 4) (bs : List Nat) (j : Nat) {t : Nat} (ht : t < m) :
    det A m bs * A j t = sm m (fun k => ent A m bs k j * A (bs.getD k 0) t) := by
  have h := D_cramer (col A m bs) (A j) (t := t) (by omega)
  have hc : ∀ k, k < 4 → ent A m bs k j * col A m bs k t = if k < m then ent A m bs k j * A (bs.getD k 0) t else 0 := by
    intro k hk
    by_cases hkm : k < m
    · rw [col_lt hkm, if_pos hkm]
    · rw [if_neg hkm]
      have : col A m bs k t = 0 := by
        simp only [col, unit, if_neg hkm]
        rw [if_neg (by omega)]
      rw [this, Int.mul_zero]
  have h0 := hc 0 (by decide)
  have h1 := hc 1 (by decide)
  have h2 := hc 2 (by decide)
  have h3 := hc 3 (by decide)
  unfold ent at h0 h1 h2 h3
  unfold det
  rw [h, h0, h1, h2, h3]
  have hm' : m = 0 ∨ m = 1 ∨ m = 2 ∨ m = 3 ∨ m = 4 := by omega
  rcases hm' with rfl | rfl | rfl | rfl | rfl <;> simp [sm, ent]
/-- an entry by those at the units -/
theorem D_put_zero (c : Nat → Nat → Int) {k : Nat} (hk : k < 4) : D (put c k (fun _ => 0)) = 0 := by
  have h := D_lin c hk (fun _ => 0) (fun _ => 0) 0 0
  simp only [Int.zero_mul, Int.add_zero, Int.mul_zero] at h
  exact h
theorem D_sum (c : Nat → Nat → Int) {k : Nat} (hk : k < 4) (v : Nat → Int) : ∀ n : Nat,
    D (put c k (fun t => sm n (fun i => v i * unit i t))) = sm n (fun i => v i * D (put c k (unit i)))
  | 0 => D_put_zero c hk
  | n + 1 => by
    have h := D_lin c hk (fun t => sm n (fun i => v i * unit i t)) (unit n) 1 (v n)
    have e : (fun t => sm (n + 1) (fun i => v i * unit i t)) = (fun t => 1 * sm n (fun i => v i * unit i t) + v n * unit n t) := by
      funext t
      show sm n (fun i => v i * unit i t) + v n * unit n t = _
      omega
    rw [e, h, D_sum c hk v n]
    show _ = sm n (fun i => v i * D (put c k (unit i))) + v n * D (put c k (unit n))
    omega
theorem unit_sum {v : Nat → Int} {m t : Nat} (h : m ≤ t → v t = 0) : sm m (fun i => v i * unit i t) = v t := by
  by_cases ht : t < m
  · rw [sm_one t ht fun k hk ne => by simp only [unit]; rw [if_neg (Ne.symm ne), Int.mul_zero]]
    simp [unit]
  · rw [h (by omega)]
    exact sm_all_zero fun k hk => by simp only [unit]; rw [if_neg (by omega), Int.mul_zero]
theorem ent_units (hm : m ≤ 4) {n N : Nat} (hA : Low A m N) (hU : ∀ t, t < m → A (n + t) = unit t) {k j : Nat} (hk : k < m) (hj : j < N) :
    ent A m bs k j = sm m (fun t => ent A m bs k (n + t) * A j t) := by
  unfold ent
  have e : A j = fun t => sm m (fun i => A j i * unit i t) := by
    funext t
    rw [unit_sum fun h => hA j hj t h]
  conv => lhs; rw [e]
  rw [D_sum _ (by omega)]
  exact sm_congr fun t ht => by rw [hU t ht, Int.mul_comm]
end
/-! bounds -/
theorem m2_le {a b : Nat → Int} {i j : Nat} {M : Nat} (ai : (a i).natAbs ≤ M) (aj : (a j).natAbs ≤ M) (bi : (b i).natAbs ≤ M) (bj : (b j).natAbs ≤ M) : (m2 a b i j).natAbs ≤ 2 * (M * M) := by
  unfold m2
  have h1 : (a i * b j).natAbs ≤ M * M := by rw [Int.natAbs_mul]; exact Nat.mul_le_mul ai bj
  have h2 : (a j * b i).natAbs ≤ M * M := by rw [Int.natAbs_mul]; exact Nat.mul_le_mul aj bi
  omega
theorem mul_le4 {x y : Int} {M : Nat} (hx : x.natAbs ≤ M) (hy : y.natAbs ≤ M) : (x * y).natAbs ≤ M * M := by
  rw [Int.natAbs_mul]; exact Nat.mul_le_mul hx hy
theorem D_le {c : Nat → Nat → Int} {M : Nat} (h : ∀ k t, k < 4 → t < 4 → (c k t).natAbs ≤ M) : (D c).natAbs ≤ 6 * ((2 * (M * M)) * (2 * (M * M))) := by
  have e := fun k l i j (hk : k < 4) (hl : l < 4) (hi : i < 4) (hj : j < 4) => m2_le (h k i hk hi) (h k j hk hj) (h l i hl hi) (h l j hl hj)
  have p := fun k l i j k' l' i' j' hk hl hi hj hk' hl' hi' hj' => mul_le4 (e k l i j hk hl hi hj) (e k' l' i' j' hk' hl' hi' hj')
  have p1 := p 0 1 0 1 2 3 2 3 (by decide) (by decide) (by decide) (by decide) (by decide) (by decide) (by decide) (by decide)
  have p2 := p 0 1 0 2 2 3 1 3 (by decide) (by decide) (by decide) (by decide) (by decide) (by decide) (by decide) (by decide)
  have p3 := p 0 1 0 3 2 3 1 2 (by decide) (by decide) (by decide) (by decide) (by decide) (by decide) (by decide) (by decide)
  have p4 := p 0 1 1 2 2 3 0 3 (by decide) (by decide) (by decide) (by decide) (by decide) (by decide) (by decide) (by decide)
  have p5 := p 0 1 1 3 2 3 0 2 (by decide) (by decide) (by decide) (by decide) (by decide) (by decide) (by decide) (by decide)
  have p6 := p 0 1 2 3 2 3 0 1 (by decide) (by decide) (by decide) (by decide) (by decide) (by decide) (by decide) (by decide)
  unfold D dd
  omega
end Tm
end
section
set_option linter.all false
namespace Tm
/-- what is lacking at a column: the sum of the entries in the rows of marks -/
def cost (A : Nat → Nat → Int) (m n : Nat) (bs : List Nat) (j : Nat) : Int := sm m (fun k => if n ≤ bs.getD k 0 then ent A m bs k j else 0)
structure Setup (A : Nat → Nat → Int) (m n : Nat) : Prop where
  m4 : m ≤ 4
  low : Low A m (n + m + 1)
  un : ∀ t, t < m → A (n + t) = unit t
  wn : ∀ t, t < m → 0 ≤ A (n + m) t
structure Good (A : Nat → Nat → Int) (m n : Nat) (bs : List Nat) : Prop where
  len : bs.length = m
  rng : ∀ k, k < m → bs.getD k 0 < n + m
  pos : 0 < det A m bs
  nn : ∀ k, k < m → 0 ≤ ent A m bs k (n + m)
structure Step (A : Nat → Nat → Int) (m n : Nat) (bs : List Nat) (r s : Nat) (bs' : List Nat) : Prop where
  hr : r < m
  hs : s < n
  cs : 0 < cost A m n bs s
  first : ∀ j, j < s → cost A m n bs j ≤ 0
  er : 0 < ent A m bs r s
  ratio : ∀ k, k < m → 0 < ent A m bs k s → ent A m bs r (n + m) * ent A m bs k s ≤ ent A m bs k (n + m) * ent A m bs r s ∧
    (ent A m bs r (n + m) * ent A m bs k s = ent A m bs k (n + m) * ent A m bs r s → bs.getD r 0 ≤ bs.getD k 0)
  eq : bs' = bs.set r s
section
variable {A : Nat → Nat → Int} {m n : Nat} {bs bs' : List Nat} {r s : Nat}
theorem Good.dist (S : Setup A m n) (G : Good A m n bs) {k i : Nat} (hk : k < m) (hi : i < m) (ne : i ≠ k) : bs.getD i 0 ≠ bs.getD k 0 := by
  intro e
  have h1 := ent_own (A := A) (bs := bs) hk
  rw [← e, ent_other S.m4 hk hi ne] at h1
  have := G.pos
  omega
theorem cost_units (S : Setup A m n) {j : Nat} (hj : j < n + m + 1) : cost A m n bs j = sm m (fun t => cost A m n bs (n + t) * A j t) := by
  have e : cost A m n bs j = sm m (fun k => sm m (fun t => (if n ≤ bs.getD k 0 then ent A m bs k (n + t) else 0) * A j t)) := by
    refine sm_congr fun k hk => ?_
    by_cases h : n ≤ bs.getD k 0
    · simp only [if_pos h]
      exact ent_units S.m4 S.low S.un hk hj
    · simp only [if_neg h, Int.zero_mul]
      rw [sm_zero]
  rw [e, sm_comm]
  exact sm_congr fun t ht => by rw [sm_mulr]; rfl
theorem cost_real (S : Setup A m n) {k : Nat} (hk : k < m) (h : bs.getD k 0 < n) : cost A m n bs (bs.getD k 0) = 0 := by
  refine sm_all_zero fun i hi => ?_
  by_cases e : i = k
  · subst e
    rw [if_neg (by omega)]
  · rw [ent_other S.m4 hi hk (Ne.symm e)]
    split <;> rfl
theorem cost_mark (S : Setup A m n) {k : Nat} (hk : k < m) (h : n ≤ bs.getD k 0) : cost A m n bs (bs.getD k 0) = det A m bs := by
  unfold cost
  rw [sm_one k hk fun i hi ne => by rw [ent_other S.m4 hi hk (Ne.symm ne)]; split <;> rfl, if_pos h, ent_own hk]
/-- what is lacking by another basis, told along a column -/
theorem cost_along (S : Setup A m n) (bt : List Nat) (G : Good A m n bs) {j : Nat} (hj : j < n + m + 1) :
    sm m (fun k => ent A m bs k j * cost A m n bt (bs.getD k 0)) = det A m bs * cost A m n bt j := by
  have e1 : sm m (fun k => ent A m bs k j * cost A m n bt (bs.getD k 0)) = sm m (fun k => sm m (fun t => ent A m bs k j * (cost A m n bt (n + t) * A (bs.getD k 0) t))) := by
    refine sm_congr fun k hk => ?_
    rw [cost_units S (bs := bt) (j := bs.getD k 0) (Nat.lt_succ_of_lt (G.rng k hk)), sm_mul]
  rw [e1, sm_comm, cost_units S (bs := bt) hj, ← sm_mul]
  refine sm_congr fun t ht => ?_
  rw [show det A m bs * (cost A m n bt (n + t) * A j t) = cost A m n bt (n + t) * (det A m bs * A j t) by
    rw [← Int.mul_assoc, ← Int.mul_assoc, Int.mul_comm (det A m bs)], cramer S.m4 bs j ht, ← sm_mul]
  refine sm_congr fun k hk => ?_
  rw [← Int.mul_assoc, ← Int.mul_assoc, Int.mul_comm (ent A m bs k j)]
theorem Step.getD (T : Step A m n bs r s bs') (G : Good A m n bs) (k : Nat) : bs'.getD k 0 = if k = r then s else bs.getD k 0 := by
  rw [T.eq]
  exact getD_set bs r s k (G.len ▸ T.hr)
theorem Step.det (T : Step A m n bs r s bs') (G : Good A m n bs) : det A m bs' = ent A m bs r s := by
  rw [T.eq, det_set T.hr G.len]
theorem Step.same (T : Step A m n bs r s bs') (G : Good A m n bs) (j : Nat) : ent A m bs' r j = ent A m bs r j := by
  rw [T.eq, ent_set_same T.hr G.len]
theorem Step.other (S : Setup A m n) (T : Step A m n bs r s bs') (G : Good A m n bs) {i : Nat} (hi : i < m) (h : i ≠ r) (j : Nat) :
    Tm.det A m bs * ent A m bs' i j = ent A m bs r s * ent A m bs i j - ent A m bs i s * ent A m bs r j := by
  rw [T.eq]
  exact ent_set S.m4 T.hr G.len hi h j
theorem Step.good (S : Setup A m n) (T : Step A m n bs r s bs') (G : Good A m n bs) : Good A m n bs' := by
  refine ⟨?_, fun k hk => ?_, ?_, fun k hk => ?_⟩
  · rw [T.eq, List.length_set]; exact G.len
  · rw [T.getD G]
    split
    · have := T.hs; omega
    · exact G.rng k hk
  · rw [T.det G]; exact T.er
  · by_cases e : k = r
    · subst e
      rw [T.same G]
      exact G.nn k hk
    · have h := T.other S G hk e (n + m)
      have h1 := G.nn k hk
      have h2 := G.nn r T.hr
      have h3 := T.er
      have h4 := G.pos
      have h5 : 0 ≤ Tm.det A m bs * ent A m bs' k (n + m) := by
        rw [h]
        by_cases hp : 0 < ent A m bs k s
        · have h6 := (T.ratio k hk hp).1
          rw [Int.mul_comm (ent A m bs r s), Int.mul_comm (ent A m bs k s)]
          omega
        · have h7 : 0 ≤ ent A m bs r s * ent A m bs k (n + m) := Int.mul_nonneg (Int.le_of_lt h3) h1
          have h8 : ent A m bs k s * ent A m bs r (n + m) ≤ 0 := Int.mul_nonpos_of_nonpos_of_nonneg (by omega) h2
          omega
      exact Int.nonneg_of_mul_nonneg_right h5 h4
theorem Step.cost (S : Setup A m n) (T : Step A m n bs r s bs') (G : Good A m n bs) (j : Nat) :
    Tm.det A m bs * cost A m n bs' j = ent A m bs r s * cost A m n bs j - cost A m n bs s * ent A m bs r j := by
  unfold Tm.cost
  rw [← sm_mul, ← sm_mul, ← sm_mulr, ← sm_sub]
  refine sm_congr fun k hk => ?_
  rw [T.getD G]
  by_cases e : k = r
  · subst e
    have := T.hs
    rw [if_pos rfl, if_neg (by omega)]
    split <;> grind
  · rw [if_neg e]
    split
    · exact T.other S G hk e j
    · simp
def Mem (m : Nat) (bs : List Nat) (q : Nat) : Prop := ∃ k, k < m ∧ bs.getD k 0 = q
theorem Step.fresh (S : Setup A m n) (T : Step A m n bs r s bs') : ¬ Mem m bs s := by
  rintro ⟨k, hk, e⟩
  have h := cost_real (A := A) (bs := bs) S hk (by rw [e]; exact T.hs)
  rw [e] at h
  have := T.cs
  omega
theorem Step.mem (T : Step A m n bs r s bs') (G : Good A m n bs) {q : Nat} (h : Mem m bs' q) : q = s ∨ Mem m bs q := by
  obtain ⟨k, hk, e⟩ := h
  rw [T.getD G] at e
  split at e
  · exact .inl e.symm
  · exact .inr ⟨k, hk, e⟩
theorem Step.mem_new (T : Step A m n bs r s bs') (G : Good A m n bs) : Mem m bs' s := ⟨r, T.hr, by rw [T.getD G, if_pos rfl]⟩
theorem Step.left (T : Step A m n bs r s bs') (G : Good A m n bs) {q : Nat} (h : Mem m bs q) (h' : ¬ Mem m bs' q) : bs.getD r 0 = q := by
  obtain ⟨k, hk, e⟩ := h
  by_cases hkr : k = r
  · rw [← hkr]; exact e
  · exact absurd ⟨k, hk, by rw [T.getD G, if_neg hkr]; exact e⟩ h'
end
/-! a run: bases that follow one another -/
structure Run (A : Nat → Nat → Int) (m n : Nat) (f : Nat → List Nat) (r s : Nat → Nat) : Prop where
  su : Setup A m n
  good : ∀ t, Good A m n (f t)
  step : ∀ t, Step A m n (f t) (r t) (s t) (f (t + 1))
section
variable {A : Nat → Nat → Int} {m n : Nat} {f : Nat → List Nat} {r s : Nat → Nat}
theorem Run.enters (R : Run A m n f r s) (q a : Nat) : ∀ d, ¬ Mem m (f a) q → Mem m (f (a + d)) q → ∃ t, a ≤ t ∧ t < a + d ∧ s t = q
  | 0, h1, h2 => absurd h2 h1
  | d + 1, h1, h2 => by
    rcases (R.step (a + d)).mem (R.good _) h2 with e | e
    · exact ⟨a + d, by omega, by omega, e.symm⟩
    · obtain ⟨t, x, y, z⟩ := R.enters q a d h1 e
      exact ⟨t, x, by omega, z⟩
theorem Run.leaves (R : Run A m n f r s) (q a : Nat) : ∀ d, Mem m (f a) q → ¬ Mem m (f (a + d)) q → ∃ t, a ≤ t ∧ t < a + d ∧ (f t).getD (r t) 0 = q
  | 0, h1, h2 => absurd h1 h2
  | d + 1, h1, h2 => by
    by_cases e : Mem m (f (a + d)) q
    · exact ⟨a + d, by omega, by omega, (R.step (a + d)).left (R.good _) e h2⟩
    · obtain ⟨t, x, y, z⟩ := R.leaves q a d h1 e
      exact ⟨t, x, by omega, z⟩
/-- the value in hand never grows -/
theorem frac_trans {a b c x y z : Int} (hx : 0 < x) (hy : 0 < y) (hz : 0 < z) (h1 : b * x ≤ a * y) (h2 : c * y ≤ b * z) : c * x ≤ a * z := by
  have e1 : (c * y) * x ≤ (b * z) * x := Int.mul_le_mul_of_nonneg_right h2 (Int.le_of_lt hx)
  have e2 : (b * x) * z ≤ (a * y) * z := Int.mul_le_mul_of_nonneg_right h1 (Int.le_of_lt hz)
  have e3 : (c * x) * y ≤ (a * z) * y := by
    have : (c * y) * x = (c * x) * y := by grind
    have : (b * z) * x = (b * x) * z := by grind
    have : (a * y) * z = (a * z) * y := by grind
    omega
  exact Int.le_of_mul_le_mul_right e3 hy
theorem frac_trans_lt {a b c x y z : Int} (hx : 0 < x) (hy : 0 < y) (hz : 0 < z) (h1 : b * x ≤ a * y) (h2 : c * y < b * z) : c * x < a * z := by
  have e1 : (c * y) * x < (b * z) * x := Int.mul_lt_mul_of_pos_right h2 hx
  have e2 : (b * x) * z ≤ (a * y) * z := Int.mul_le_mul_of_nonneg_right h1 (Int.le_of_lt hz)
  have e3 : (c * x) * y < (a * z) * y := by
    have : (c * y) * x = (c * x) * y := by grind
    have : (b * z) * x = (b * x) * z := by grind
    have : (a * y) * z = (a * z) * y := by grind
    omega
  exact Int.lt_of_mul_lt_mul_right e3 (Int.le_of_lt hy)
theorem frac_trans_lt' {a b c x y z : Int} (hx : 0 < x) (hy : 0 < y) (hz : 0 < z) (h1 : b * x < a * y) (h2 : c * y ≤ b * z) : c * x < a * z := by
  have e1 : (c * y) * x ≤ (b * z) * x := Int.mul_le_mul_of_nonneg_right h2 (Int.le_of_lt hx)
  have e2 : (b * x) * z < (a * y) * z := Int.mul_lt_mul_of_pos_right h1 hz
  have e3 : (c * x) * y < (a * z) * y := by
    have : (c * y) * x = (c * x) * y := by grind
    have : (b * z) * x = (b * x) * z := by grind
    have : (a * y) * z = (a * z) * y := by grind
    omega
  exact Int.lt_of_mul_lt_mul_right e3 (Int.le_of_lt hy)
theorem Run.down1 (R : Run A m n f r s) (t : Nat) : cost A m n (f (t + 1)) (n + m) * det A m (f t) ≤ cost A m n (f t) (n + m) * det A m (f (t + 1)) := by
  have T := R.step t
  have G := R.good t
  have h := T.cost R.su G (n + m)
  rw [T.det G]
  have h1 : 0 ≤ cost A m n (f t) (s t) * ent A m (f t) (r t) (n + m) := Int.mul_nonneg (Int.le_of_lt T.cs) (G.nn _ T.hr)
  rw [Int.mul_comm, h, Int.mul_comm (cost A m n (f t) (n + m))]
  omega
theorem Run.down1_lt (R : Run A m n f r s) (t : Nat) (hp : 0 < ent A m (f t) (r t) (n + m)) : cost A m n (f (t + 1)) (n + m) * det A m (f t) < cost A m n (f t) (n + m) * det A m (f (t + 1)) := by
  have T := R.step t
  have G := R.good t
  have h := T.cost R.su G (n + m)
  rw [T.det G]
  have h1 : 0 < cost A m n (f t) (s t) * ent A m (f t) (r t) (n + m) := Int.mul_pos T.cs hp
  rw [Int.mul_comm, h, Int.mul_comm (cost A m n (f t) (n + m))]
  omega
theorem Run.down (R : Run A m n f r s) (a : Nat) : ∀ d, cost A m n (f (a + d)) (n + m) * det A m (f a) ≤ cost A m n (f a) (n + m) * det A m (f (a + d))
  | 0 => Int.le_refl _
  | d + 1 => frac_trans (R.good a).pos (R.good (a + d)).pos (R.good (a + d + 1)).pos (R.down a d) (R.down1 (a + d))
/-- in a circle each turn is without gain -/
theorem Run.flat (R : Run A m n f r s) {i j : Nat} (e : f i = f j) {t : Nat} (hi : i ≤ t) (hj : t < j) : ent A m (f t) (r t) (n + m) = 0 := by
  have h0 := (R.good t).nn _ (R.step t).hr
  apply Classical.byContradiction
  intro hn
  have hp : 0 < ent A m (f t) (r t) (n + m) := by omega
  obtain ⟨a, rfl⟩ : ∃ a, t = i + a := ⟨t - i, by omega⟩
  obtain ⟨b, rfl⟩ : ∃ b, j = i + a + 1 + b := ⟨j - (i + a + 1), by omega⟩
  have h1 := R.down i a
  have h2 := R.down1_lt (i + a) hp
  have h3 := R.down (i + a + 1) b
  have h4 := frac_trans_lt (R.good i).pos (R.good (i + a)).pos (R.good (i + a + 1)).pos h1 h2
  have h5 := frac_trans_lt' (R.good i).pos (R.good (i + a + 1)).pos (R.good (i + a + 1 + b)).pos h4 h3
  rw [← e] at h5
  omega
/-- the value of a column that is not in the basis once stays 0 -/
def Nil (A : Nat → Nat → Int) (m n : Nat) (bs : List Nat) (q : Nat) : Prop := ∀ k, k < m → bs.getD k 0 = q → ent A m bs k (n + m) = 0
theorem Run.nil (R : Run A m n f r s) (q a : Nat) : ∀ d, (∀ t, a ≤ t → t < a + d → ent A m (f t) (r t) (n + m) = 0) → Nil A m n (f a) q → Nil A m n (f (a + d)) q
  | 0, _, h => h
  | d + 1, hz, h => by
    have ih := R.nil q a d (fun t x y => hz t x (by omega)) h
    have T := R.step (a + d)
    have G := R.good (a + d)
    have z := hz (a + d) (by omega) (by omega)
    intro k hk e
    show ent A m (f (a + d + 1)) k (n + m) = 0
    have e' : (f (a + d + 1)).getD k 0 = q := e
    rw [T.getD G] at e'
    by_cases hkr : k = r (a + d)
    · subst hkr
      rw [T.same G]
      exact z
    · rw [if_neg hkr] at e'
      have h1 := T.other R.su G hk hkr (n + m)
      rw [z, ih k hk e', Int.mul_zero, Int.mul_zero] at h1
      have h2 : Tm.det A m (f (a + d)) * ent A m (f (a + d + 1)) k (n + m) = 0 := by rw [h1]; rfl
      rcases Int.mul_eq_zero.mp h2 with h3 | h3
      · have := G.pos; omega
      · exact h3
theorem maxOf (g : Nat → Nat) (i : Nat) : ∀ d, ∃ u, i ≤ u ∧ u ≤ i + d ∧ ∀ t, i ≤ t → t ≤ i + d → g t ≤ g u
  | 0 => ⟨i, Nat.le_refl _, Nat.le_refl _, fun t h1 h2 => by rw [show t = i by omega]; exact Nat.le_refl _⟩
  | d + 1 => by
    obtain ⟨u, h1, h2, h3⟩ := maxOf g i d
    by_cases h : g u ≤ g (i + d + 1)
    · refine ⟨i + d + 1, by omega, by omega, fun t a b => ?_⟩
      by_cases e : t ≤ i + d
      · exact Nat.le_trans (h3 t a e) h
      · rw [show t = i + d + 1 by omega]; exact Nat.le_refl _
    · refine ⟨u, h1, by omega, fun t a b => ?_⟩
      by_cases e : t ≤ i + d
      · exact h3 t a e
      · rw [show t = i + d + 1 by omega]; omega
/-- no circle (R. Bland) -/
theorem Run.none (R : Run A m n f r s) {i j : Nat} (hij : i < j) (e : f i = f j) : False := by
  obtain ⟨d, rfl⟩ : ∃ d, j = i + d + 1 := ⟨j - i - 1, by omega⟩
  obtain ⟨u, u1, u2, hu⟩ := maxOf s i d
  have Tu := R.step u
  have Gu := R.good u
  have fu := Tu.fresh R.su
  -- the greatest column that enters leaves, too
  have hv : ∃ v, i ≤ v ∧ v < i + d + 1 ∧ (f v).getD (r v) 0 = s u := by
    by_cases hm : Mem m (f (i + d + 1)) (s u)
    · rw [← e] at hm
      obtain ⟨a, ha⟩ : ∃ a, u = i + a := ⟨u - i, by omega⟩
      obtain ⟨t, x, y, z⟩ := R.leaves (s u) i a hm (by rw [← ha]; exact fu)
      exact ⟨t, x, by omega, z⟩
    · obtain ⟨a, ha⟩ : ∃ a, i + d + 1 = u + 1 + a := ⟨i + d - u, by omega⟩
      obtain ⟨t, x, y, z⟩ := R.leaves (s u) (u + 1) a (Tu.mem_new Gu) (by rw [← ha]; exact hm)
      exact ⟨t, by omega, by omega, z⟩
  obtain ⟨v, v1, v2, hv⟩ := hv
  have Tv := R.step v
  have Gv := R.good v
  have flat : ∀ t, i ≤ t → t < i + d + 1 → ent A m (f t) (r t) (n + m) = 0 := fun t a b => R.flat e a b
  have hsv : s v < s u := by
    have h1 := hu v v1 (by omega)
    have h2 : s v ≠ s u := fun x => Tv.fresh R.su ⟨r v, Tv.hr, by rw [hv, x]⟩
    omega
  have c1 : cost A m n (f u) (s v) ≤ 0 := Tu.first _ hsv
  have al := cost_along R.su (f u) Gv (j := s v) (by have := Tv.hs; omega)
  -- the costs of f u, less the marks' own
  have key : sm m (fun k => ent A m (f v) k (s v) * (cost A m n (f u) ((f v).getD k 0) - (if n ≤ (f v).getD k 0 then det A m (f u) else 0))) < 0 := by
    have e1 : sm m (fun k => ent A m (f v) k (s v) * (cost A m n (f u) ((f v).getD k 0) - (if n ≤ (f v).getD k 0 then det A m (f u) else 0))) =
        det A m (f v) * cost A m n (f u) (s v) - det A m (f u) * cost A m n (f v) (s v) := by
      rw [← al]
      unfold cost
      rw [← sm_mul, ← sm_sub]
      refine sm_congr fun k hk => ?_
      split <;> grind
    rw [e1]
    have h1 : det A m (f v) * cost A m n (f u) (s v) ≤ 0 := Int.mul_nonpos_of_nonneg_of_nonpos (Int.le_of_lt Gv.pos) c1
    have h2 : 0 < det A m (f u) * cost A m n (f v) (s v) := Int.mul_pos Gu.pos Tv.cs
    omega
  obtain ⟨k, hk, neg⟩ := sm_neg key
  by_cases hkr : k = r v
  · subst hkr
    have h1 := Tv.er
    have h2 := Tu.cs
    have h3 := Tu.hs
    rw [hv, if_neg (by omega), Int.sub_zero] at neg
    have := Int.mul_pos h1 h2
    omega
  · -- another column of the basis
    have q0 : ¬ Mem m (f u) ((f v).getD k 0) := by
      rintro ⟨k', hk', e'⟩
      by_cases hn : n ≤ (f v).getD k 0
      · rw [← e', if_pos (by omega), cost_mark R.su hk' (by omega), Int.sub_self, Int.mul_zero] at neg
        omega
      · rw [← e', if_neg (by omega), cost_real R.su hk' (by omega), Int.sub_self, Int.mul_zero] at neg
        omega
    have qv : Mem m (f v) ((f v).getD k 0) := ⟨k, hk, rfl⟩
    have ent0 : ∃ t, i ≤ t ∧ t < i + d + 1 ∧ s t = (f v).getD k 0 := by
      by_cases huv : u ≤ v
      · obtain ⟨a, ha⟩ : ∃ a, v = u + a := ⟨v - u, by omega⟩
        obtain ⟨t, x, y, z⟩ := R.enters ((f v).getD k 0) u a q0 (by rw [← ha]; exact qv)
        exact ⟨t, by omega, by omega, z⟩
      · by_cases hm : Mem m (f i) ((f v).getD k 0)
        · obtain ⟨a, ha⟩ : ∃ a, i + d + 1 = u + a := ⟨i + d + 1 - u, by omega⟩
          obtain ⟨t, x, y, z⟩ := R.enters ((f v).getD k 0) u a q0 (by rw [← ha, ← e]; exact hm)
          exact ⟨t, by omega, by omega, z⟩
        · obtain ⟨a, ha⟩ : ∃ a, v = i + a := ⟨v - i, by omega⟩
          obtain ⟨t, x, y, z⟩ := R.enters ((f v).getD k 0) i a hm (by rw [← ha]; exact qv)
          exact ⟨t, by omega, by omega, z⟩
    obtain ⟨t, t1, t2, ht⟩ := ent0
    have hq1 : (f v).getD k 0 ≤ s u := by rw [← ht]; exact hu t t1 (by omega)
    have hq2 : (f v).getD k 0 ≠ s u := by rw [← hv]; exact Gv.dist R.su Tv.hr hk hkr
    have hqn : (f v).getD k 0 < n := by have := Tu.hs; omega
    have c2 : cost A m n (f u) ((f v).getD k 0) ≤ 0 := Tu.first _ (by omega)
    rw [if_neg (by omega), Int.sub_zero] at neg
    have pk : 0 < ent A m (f v) k (s v) := by
      apply Classical.byContradiction
      intro hn
      have := Int.mul_nonneg_of_nonpos_of_nonpos (a := ent A m (f v) k (s v)) (b := cost A m n (f u) ((f v).getD k 0)) (by omega) c2
      omega
    have nu : Nil A m n (f u) ((f v).getD k 0) := fun k' hk' e' => absurd ⟨k', hk', e'⟩ q0
    have nv : Nil A m n (f v) ((f v).getD k 0) := by
      by_cases huv : u ≤ v
      · obtain ⟨a, ha⟩ : ∃ a, v = u + a := ⟨v - u, by omega⟩
        have := R.nil ((f v).getD k 0) u a (fun t x y => flat t (by omega) (by omega)) nu
        rw [← ha] at this
        exact this
      · obtain ⟨a, ha⟩ : ∃ a, i + d + 1 = u + a := ⟨i + d + 1 - u, by omega⟩
        have h1 := R.nil ((f v).getD k 0) u a (fun t x y => flat t (by omega) (by omega)) nu
        rw [← ha, ← e] at h1
        obtain ⟨b, hb⟩ : ∃ b, v = i + b := ⟨v - i, by omega⟩
        have h2 := R.nil ((f v).getD k 0) i b (fun t x y => flat t (by omega) (by omega)) h1
        rw [← hb] at h2
        exact h2
    have z1 := nv k hk rfl
    have z2 := flat v v1 (by omega)
    have rt := (Tv.ratio k hk pk).2 (by rw [z1, z2, Int.zero_mul, Int.zero_mul])
    omega
end
end Tm
end
section
set_option linter.all false
namespace Tm
/-! the columns as lists, the table's rows, the end of the loop -/
/-- column j of the table: the columns, the marks, what is wanted -/
def colA (cs : List (List Int)) (wt : List Int) (j t : Nat) : Int :=
  if j < cs.length then (cs.getD j []).getD t 0 else if j < cs.length + wt.length then unit (j - cs.length) t else if j = cs.length + wt.length then wt.getD t 0 else 0
structure Cols (cs : List (List Int)) (wt : List Int) : Prop where
  m4 : wt.length ≤ 4
  len : ∀ c ∈ cs, c.length = wt.length
  wn : ∀ x ∈ wt, 0 ≤ x
  b1 : ∀ c ∈ cs, ∀ x ∈ c, x.natAbs ≤ 1000000
  b2 : ∀ x ∈ wt, x.natAbs ≤ 1000000
  few : cs.length ≤ 100
section
variable {cs : List (List Int)} {wt : List Int}
theorem getD_out {l : List Int} {t : Nat} (h : l.length ≤ t) : l.getD t 0 = 0 := by
  simp [List.getD_eq_getElem?_getD, List.getElem?_eq_none h]
theorem getD_in {l : List Int} {t : Nat} (h : t < l.length) : l.getD t 0 ∈ l := by
  simp [List.getD_eq_getElem?_getD, h]
theorem getD_col {j : Nat} (h : j < cs.length) : cs.getD j [] ∈ cs := by
  simp [List.getD_eq_getElem?_getD, h]
theorem colA_mark {t : Nat} (h : t < wt.length) : colA cs wt (cs.length + t) = unit t := by
  funext u
  unfold colA
  rw [if_neg (by omega), if_pos (by omega), show cs.length + t - cs.length = t by omega]
theorem colA_want (t : Nat) : colA cs wt (cs.length + wt.length) t = wt.getD t 0 := by
  unfold colA
  rw [if_neg (by omega), if_neg (by omega), if_pos rfl]
theorem colA_col {j : Nat} (h : j < cs.length) (t : Nat) : colA cs wt j t = (cs.getD j []).getD t 0 := by
  unfold colA
  rw [if_pos h]
theorem Cols.setup (C : Cols cs wt) : Setup (colA cs wt) wt.length cs.length where
  m4 := C.m4
  low := fun j hj t ht => by
    unfold colA
    split
    · rename_i h
      exact getD_out (by rw [C.len _ (getD_col h)]; exact ht)
    · split
      · rename_i h1 h2
        unfold unit
        rw [if_neg (by omega)]
      · split
        · exact getD_out ht
        · rfl
  un := fun t ht => colA_mark ht
  wn := fun t ht => by
    rw [colA_want]
    exact C.wn _ (getD_in ht)
theorem Cols.small (C : Cols cs wt) (j t : Nat) : (colA cs wt j t).natAbs ≤ 1000000 := by
  unfold colA
  split
  · rename_i h
    by_cases ht : t < (cs.getD j []).length
    · exact C.b1 _ (getD_col h) _ (getD_in ht)
    · rw [getD_out (by omega)]; decide
  · split
    · unfold unit; split <;> decide
    · split
      · by_cases ht : t < wt.length
        · exact C.b2 _ (getD_in ht)
        · rw [getD_out (by omega)]; decide
      · decide
abbrev bigB : Nat := 24000000000000000000000000
theorem Cols.ent_le (C : Cols cs wt) (bs : List Nat) (k j : Nat) : (ent (colA cs wt) wt.length bs k j).natAbs ≤ bigB := by
  have h := D_le (c := put (col (colA cs wt) wt.length bs) k (colA cs wt j)) (M := 1000000) fun i t _ _ => by
    unfold put
    split
    · exact C.small _ _
    · unfold col
      split
      · exact C.small _ _
      · unfold unit; split <;> decide
  exact Nat.le_trans h (by decide)
theorem Cols.det_le (C : Cols cs wt) (bs : List Nat) : (det (colA cs wt) wt.length bs).natAbs ≤ bigB := by
  have h := D_le (c := col (colA cs wt) wt.length bs) (M := 1000000) fun i t _ _ => by
    unfold col
    split
    · exact C.small _ _
    · unfold unit; split <;> decide
  exact Nat.le_trans h (by decide)
theorem sm_le_abs {f : Nat → Int} {B : Nat} : ∀ {m : Nat}, (∀ k, k < m → (f k).natAbs ≤ B) → (sm m f).natAbs ≤ m * B
  | 0, _ => by simp [sm]
  | m + 1, h => by
    have h1 := sm_le_abs fun k hk => h k (Nat.lt_succ_of_lt hk)
    have h2 := h m (Nat.lt_succ_self m)
    show (sm m f + f m).natAbs ≤ (m + 1) * B
    rw [Nat.add_mul]
    omega
theorem Cols.cost_le (C : Cols cs wt) (bs : List Nat) (j : Nat) : (cost (colA cs wt) wt.length cs.length bs j).natAbs ≤ 4 * bigB := by
  have h := sm_le_abs (m := wt.length) (f := fun k => if cs.length ≤ bs.getD k 0 then ent (colA cs wt) wt.length bs k j else 0) (B := bigB) fun k hk => by
    split
    · exact C.ent_le bs k j
    · decide
  exact Nat.le_trans h (Nat.mul_le_mul_right _ C.m4)
end
/-! the first basis -/
def bs0 (n m : Nat) : List Nat := (List.range m).map fun t => n + t
theorem bs0_get {n m k : Nat} (h : k < m) : (bs0 n m).getD k 0 = n + k := by
  simp [bs0, List.getD_eq_getElem?_getD, h]
theorem D_unit : D unit = 1 := by decide
theorem D_put_unit {k : Nat} (hk : k < 4) (v : Nat → Int) : D (put unit k v) = v k := by
  rcases four hk with rfl | rfl | rfl | rfl <;> simp [D, put, dd, m2, unit]
section
variable {A : Nat → Nat → Int} {m n : Nat}
theorem col_bs0 (S : Setup A m n) : col A m (bs0 n m) = unit := by
  funext k
  unfold col
  split
  · rename_i h
    rw [bs0_get h]
    exact S.un k h
  · rfl
theorem det_bs0 (S : Setup A m n) : det A m (bs0 n m) = 1 := by
  unfold det
  rw [col_bs0 S, D_unit]
theorem ent_bs0 (S : Setup A m n) {k : Nat} (hk : k < m) (j : Nat) : ent A m (bs0 n m) k j = A j k := by
  unfold ent
  have := S.m4
  rw [col_bs0 S, D_put_unit (by omega)]
theorem good_bs0 (S : Setup A m n) : Good A m n (bs0 n m) where
  len := by simp [bs0]
  rng := fun k hk => by rw [bs0_get hk]; omega
  pos := by rw [det_bs0 S]; decide
  nn := fun k hk => by rw [ent_bs0 S hk]; exact S.wn k hk
theorem cost_bs0 (S : Setup A m n) (j : Nat) : cost A m n (bs0 n m) j = sm m (fun k => A j k) := by
  refine sm_congr fun k hk => ?_
  rw [bs0_get hk, if_pos (by omega), ent_bs0 S hk]
/-! division without rest -/
theorem div_of {d x y : Int} (hd : 0 < d) (h : d * y = x) : x / d = y := by
  rw [← h]
  exact Int.mul_ediv_cancel_left y (by omega)
variable {bs bs' : List Nat} {r s : Nat}
theorem Step.less (S : Setup A m n) (T : Step A m n bs r s bs') (G : Good A m n bs) {i : Nat} (hi : i < m) (h : i ≠ r) (j : Nat) :
    (ent A m bs r s * ent A m bs i j - ent A m bs i s * ent A m bs r j) / Tm.det A m bs = ent A m bs' i j := div_of G.pos (T.other S G hi h j)
theorem Step.lessC (S : Setup A m n) (T : Step A m n bs r s bs') (G : Good A m n bs) (j : Nat) :
    (ent A m bs r s * Tm.cost A m n bs j - Tm.cost A m n bs s * ent A m bs r j) / Tm.det A m bs = Tm.cost A m n bs' j := div_of G.pos (T.cost S G j)
/-! which row leaves -/
def lvStep (e w : Nat → Int) (b : Nat → Nat) (best : Option Nat) (k : Nat) : Option Nat :=
  if 0 < e k then
    match best with
    | none => some k
    | some q => if w k * e q < w q * e k ∨ w k * e q = w q * e k ∧ b k < b q then some k else some q
  else best
def lv (e w : Nat → Int) (b : Nat → Nat) : Nat → Option Nat
  | 0 => none
  | i + 1 => lvStep e w b (lv e w b i) i
theorem lv_spec (e w : Nat → Int) (b : Nat → Nat) : ∀ i : Nat,
    (lv e w b i = none ∧ ∀ k, k < i → e k ≤ 0) ∨ ∃ q, lv e w b i = some q ∧ q < i ∧ 0 < e q ∧ ∀ k, k < i → 0 < e k → w q * e k ≤ w k * e q ∧ (w q * e k = w k * e q → b q ≤ b k)
  | 0 => .inl ⟨rfl, fun k h => absurd h (Nat.not_lt_zero k)⟩
  | i + 1 => by
    have ih := lv_spec e w b i
    by_cases he : 0 < e i
    · rcases ih with ⟨h1, h2⟩ | ⟨q, h1, h2, h3, h4⟩
      · refine .inr ⟨i, ?_, Nat.lt_succ_self i, he, fun k hk hp => ?_⟩
        · show lvStep e w b (lv e w b i) i = some i
          rw [h1]
          simp [lvStep, he]
        · by_cases hki : k = i
          · subst hki
            exact ⟨Int.le_refl _, fun _ => Nat.le_refl _⟩
          · have := h2 k (by omega)
            omega
      · by_cases hc : w i * e q < w q * e i ∨ w i * e q = w q * e i ∧ b i < b q
        · refine .inr ⟨i, ?_, Nat.lt_succ_self i, he, fun k hk hp => ?_⟩
          · show lvStep e w b (lv e w b i) i = some i
            rw [h1]
            simp [lvStep, he, hc]
          · by_cases hki : k = i
            · subst hki
              exact ⟨Int.le_refl _, fun _ => Nat.le_refl _⟩
            · obtain ⟨a1, a2⟩ := h4 k (by omega) hp
              have le : w i * e q ≤ w q * e i := by rcases hc with hc | hc <;> omega
              have e1 : (w i * e q) * e k ≤ (w q * e i) * e k := Int.mul_le_mul_of_nonneg_right le (Int.le_of_lt hp)
              have e2 : (w q * e k) * e i ≤ (w k * e q) * e i := Int.mul_le_mul_of_nonneg_right a1 (Int.le_of_lt he)
              have p1 : (w i * e q) * e k = (w i * e k) * e q := by grind
              have p2 : (w q * e i) * e k = (w q * e k) * e i := by grind
              have p3 : (w k * e q) * e i = (w k * e i) * e q := by grind
              have p4 : (w i * e k) * e q ≤ (w k * e i) * e q := by omega
              refine ⟨Int.le_of_mul_le_mul_right p4 h3, fun eq => ?_⟩
              have eq2 : (w i * e k) * e q = (w k * e i) * e q := by rw [eq]
              have t1 : (w i * e q) * e k = (w q * e i) * e k := by omega
              have t2 : (w q * e k) * e i = (w k * e q) * e i := by omega
              have t3 : w q * e k = w k * e q := Int.eq_of_mul_eq_mul_right (by omega) t2
              have t4 : w i * e q = w q * e i := Int.eq_of_mul_eq_mul_right (by omega) t1
              have t5 := a2 t3
              rcases hc with hc | hc <;> omega
        · refine .inr ⟨q, ?_, by omega, h3, fun k hk hp => ?_⟩
          · show lvStep e w b (lv e w b i) i = some q
            rw [h1]
            simp [lvStep, he, hc]
          · by_cases hki : k = i
            · subst hki
              have : ¬ w k * e q < w q * e k := fun z => hc (.inl z)
              refine ⟨by omega, fun eq => ?_⟩
              have : ¬ b k < b q := fun z => hc (.inr ⟨eq.symm, z⟩)
              omega
            · exact h4 k (by omega) hp
    · have es : lv e w b (i + 1) = lv e w b i := by
        show lvStep e w b (lv e w b i) i = lv e w b i
        simp [lvStep, he]
      rcases ih with ⟨h1, h2⟩ | ⟨q, h1, h2, h3, h4⟩
      · refine .inl ⟨by rw [es]; exact h1, fun k hk => ?_⟩
        by_cases hki : k = i
        · subst hki; omega
        · exact h2 k (by omega)
      · refine .inr ⟨q, by rw [es]; exact h1, by omega, h3, fun k hk hp => ?_⟩
        by_cases hki : k = i
        · subst hki; omega
        · exact h4 k (by omega) hp
/-- the row that the program takes makes a step -/
theorem lv_step (S : Setup A m n) (G : Good A m n bs) (hs : s < n) (cs : 0 < cost A m n bs s) (first : ∀ j, j < s → cost A m n bs j ≤ 0) :
    ∃ r, lv (fun k => ent A m bs k s) (fun k => ent A m bs k (n + m)) (fun k => bs.getD k 0) m = some r ∧ Step A m n bs r s (bs.set r s) := by
  rcases lv_spec (fun k => ent A m bs k s) (fun k => ent A m bs k (n + m)) (fun k => bs.getD k 0) m with ⟨h1, h2⟩ | ⟨r, h1, h2, h3, h4⟩
  · obtain ⟨k, hk, hp⟩ := sm_pos cs
    have := h2 k hk
    split at hp <;> omega
  · exact ⟨r, h1, h2, hs, cs, first, h3, h4, rfl⟩
/-! the loop ends -/
/-- no k steps follow one another from here -/
def Ends (A : Nat → Nat → Int) (m n : Nat) : Nat → List Nat → Prop
  | 0, _ => False
  | k + 1, bs => ∀ r s bs', Step A m n bs r s bs' → Ends A m n k bs'
theorem step_unique (S : Setup A m n) (G : Good A m n bs) {r' s' : Nat} {bt : List Nat} (T : Step A m n bs r s bs') (T' : Step A m n bs r' s' bt) : bs' = bt := by
  have es : s = s' := by
    have h1 := T.cs
    have h2 := T'.cs
    apply Classical.byContradiction
    intro ne
    rcases Nat.lt_or_gt_of_ne ne with h | h
    · have := T'.first s h; omega
    · have := T.first s' h; omega
  subst es
  have er : r = r' := by
    obtain ⟨a1, a2⟩ := T.ratio r' T'.hr T'.er
    obtain ⟨b1, b2⟩ := T'.ratio r T.hr T.er
    have e1 := a2 (by omega)
    have e2 := b2 (by omega)
    apply Classical.byContradiction
    intro ne
    exact G.dist S T.hr T'.hr (fun z => ne z.symm) (by omega)
  subst er
  rw [T.eq, T'.eq]
theorem hole : ∀ (N : Nat) (f : Nat → Nat), (∀ i, i ≤ N → f i < N) → ∃ i j, i < j ∧ j ≤ N ∧ f i = f j
  | 0, f, h => absurd (h 0 (Nat.le_refl _)) (Nat.not_lt_zero _)
  | N + 1, f, h => by
    apply Classical.byContradiction
    intro hn
    have inj : ∀ i j, i < j → j ≤ N + 1 → f i ≠ f j := fun i j h1 h2 h3 => hn ⟨i, j, h1, h2, h3⟩
    obtain ⟨i, j, h1, h2, h3⟩ := hole N (fun i => if f i = N then f (N + 1) else f i) fun i hi => by
      have hlt := h i (by omega)
      have hl := h (N + 1) (Nat.le_refl _)
      have ne := inj i (N + 1) (by omega) (Nat.le_refl _)
      split <;> omega
    have n1 := inj i j h1 (by omega)
    have n2 := inj i (N + 1) (by omega) (Nat.le_refl _)
    have n3 := inj j (N + 1) (by omega) (Nat.le_refl _)
    split at h3 <;> split at h3 <;> omega
/-- a basis as one number -/
def enc (B : Nat) : List Nat → Nat
  | [] => 0
  | x :: r => x + B * enc B r
theorem enc_lt {B : Nat} : ∀ {l : List Nat}, (∀ x ∈ l, x < B) → enc B l < B ^ l.length
  | [], _ => by simp [enc]
  | x :: r, h => by
    have h1 := enc_lt (l := r) fun y hy => h y (List.mem_cons_of_mem _ hy)
    have h2 := h x List.mem_cons_self
    show x + B * enc B r < B ^ (r.length + 1)
    rw [Nat.pow_succ]
    have : B * (enc B r + 1) ≤ B * B ^ r.length := Nat.mul_le_mul_left B h1
    rw [Nat.mul_add, Nat.mul_comm B (B ^ r.length)] at this
    omega
theorem enc_inj {B : Nat} : ∀ {l l' : List Nat}, l.length = l'.length → (∀ x ∈ l, x < B) → (∀ x ∈ l', x < B) → enc B l = enc B l' → l = l'
  | [], [], _, _, _, _ => rfl
  | x :: r, y :: r', hl, h, h', e => by
    have h1 := h x List.mem_cons_self
    have h2 := h' y List.mem_cons_self
    have e' : x + B * enc B r = y + B * enc B r' := e
    have m1 : (x + B * enc B r) % B = x := by rw [Nat.add_mul_mod_self_left, Nat.mod_eq_of_lt h1]
    have m2 : (y + B * enc B r') % B = y := by rw [Nat.add_mul_mod_self_left, Nat.mod_eq_of_lt h2]
    have exy : x = y := by rw [← m1, ← m2, e']
    subst exy
    have e2 : B * enc B r = B * enc B r' := by omega
    have e3 : enc B r = enc B r' := Nat.eq_of_mul_eq_mul_left (by omega) e2
    rw [enc_inj (by simpa using hl) (fun z hz => h z (List.mem_cons_of_mem _ hz)) (fun z hz => h' z (List.mem_cons_of_mem _ hz)) e3]
theorem good_mem (G : Good A m n bs) : ∀ x ∈ bs, x < n + m := fun x hx => by
  obtain ⟨k, hk, e⟩ := List.mem_iff_getElem.mp hx
  have := G.rng k (by rw [← G.len]; exact hk)
  rw [List.getD_eq_getElem?_getD, List.getElem?_eq_getElem hk] at this
  rw [← e]
  exact this
theorem ends (S : Setup A m n) (G : Good A m n bs) : ∃ k, Ends A m n k bs := by
  apply Classical.byContradiction
  intro hn
  have h0 : ∀ k, ¬ Ends A m n k bs := fun k h => hn ⟨k, h⟩
  -- each such basis has a next one
  have nxt : ∀ b : { b : List Nat // Good A m n b ∧ ∀ k, ¬ Ends A m n k b }, ∃ c : { b : List Nat // Good A m n b ∧ ∀ k, ¬ Ends A m n k b }, ∃ r s, Step A m n b.1 r s c.1 := by
    rintro ⟨b, Gb, hb⟩
    have one : ∀ k, ∃ r s b', Step A m n b r s b' ∧ ¬ Ends A m n k b' := fun k => by
      apply Classical.byContradiction
      intro hk
      refine hb (k + 1) fun r s b' T => ?_
      apply Classical.byContradiction
      intro he
      exact hk ⟨r, s, b', T, he⟩
    obtain ⟨r, s, b', T, _⟩ := one 0
    refine ⟨⟨b', T.good S Gb, fun k => ?_⟩, r, s, T⟩
    obtain ⟨r', s', b'', T', h'⟩ := one k
    rw [step_unique S Gb T T']
    exact h'
  let nx := fun b => Classical.choose (nxt b)
  have hx : ∀ b, ∃ r s, Step A m n b.1 r s (nx b).1 := fun b => Classical.choose_spec (nxt b)
  let f : Nat → { b : List Nat // Good A m n b ∧ ∀ k, ¬ Ends A m n k b } := fun t => Nat.rec ⟨bs, G, h0⟩ (fun _ b => nx b) t
  have fs : ∀ t, f (t + 1) = nx (f t) := fun t => rfl
  let r := fun t => Classical.choose (hx (f t))
  let s := fun t => Classical.choose (Classical.choose_spec (hx (f t)))
  have R : Run A m n (fun t => (f t).1) r s := ⟨S, fun t => (f t).2.1, fun t => by
    have := Classical.choose_spec (Classical.choose_spec (hx (f t)))
    show Step A m n (f t).1 (r t) (s t) (f (t + 1)).1
    rw [fs]
    exact this⟩
  obtain ⟨i, j, h1, _, h3⟩ := hole ((n + m) ^ m) (fun t => enc (n + m) (f t).1) fun t _ => by
    have := enc_lt (good_mem (f t).2.1)
    rw [(f t).2.1.len] at this
    exact this
  exact R.none h1 (enc_inj (by rw [(f i).2.1.len, (f j).2.1.len]) (good_mem (f i).2.1) (good_mem (f j).2.1) h3)
/-! the answer -/
def dot (m : Nat) (y v : Nat → Int) : Int := sm m fun t => y t * v t
theorem cost_want_nonneg (G : Good A m n bs) : 0 ≤ cost A m n bs (n + m) := sm_nonneg fun k hk => by
  split
  · exact G.nn k hk
  · decide
/-- nothing is lacking: no row bars what is wanted -/
theorem no_bar (S : Setup A m n) (G : Good A m n bs) (h : cost A m n bs (n + m) = 0) (y : Nat → Int) (hy : ∀ j, j < n → 0 ≤ dot m y (A j)) : 0 ≤ dot m y (A (n + m)) := by
  have z := sm_eq_zero (f := fun k => if n ≤ bs.getD k 0 then ent A m bs k (n + m) else 0) (fun k hk => by
    split
    · exact G.nn k hk
    · decide) h
  have e : det A m bs * dot m y (A (n + m)) = sm m fun k => ent A m bs k (n + m) * dot m y (A (bs.getD k 0)) := by
    unfold dot
    rw [← sm_mul]
    have e1 : (sm m fun t => det A m bs * (y t * A (n + m) t)) = sm m fun t => sm m fun k => ent A m bs k (n + m) * (y t * A (bs.getD k 0) t) := by
      refine sm_congr fun t ht => ?_
      have c := cramer (A := A) S.m4 bs (n + m) ht
      rw [show det A m bs * (y t * A (n + m) t) = y t * (det A m bs * A (n + m) t) by grind, c, ← sm_mul]
      exact sm_congr fun k hk => by grind
    rw [e1, sm_comm]
    exact sm_congr fun k hk => by rw [sm_mul]
  have h2 : 0 ≤ det A m bs * dot m y (A (n + m)) := by
    rw [e]
    refine sm_nonneg fun k hk => ?_
    by_cases hn : n ≤ bs.getD k 0
    · have := z k hk
      rw [if_pos hn] at this
      rw [this, Int.zero_mul]
      exact Int.le_refl _
    · exact Int.mul_nonneg (G.nn k hk) (hy _ (by omega))
  exact Int.nonneg_of_mul_nonneg_right h2 G.pos
/-- something is lacking, and no column lessens it: a row that bars -/
theorem bar (S : Setup A m n) (h : cost A m n bs (n + m) ≠ 0) (G : Good A m n bs) (hc : ∀ j, j < n → cost A m n bs j ≤ 0) :
    (∀ j, j < n → 0 ≤ dot m (fun t => -cost A m n bs (n + t)) (A j)) ∧ dot m (fun t => -cost A m n bs (n + t)) (A (n + m)) < 0 := by
  have e : ∀ j, j < n + m + 1 → dot m (fun t => -cost A m n bs (n + t)) (A j) = -cost A m n bs j := fun j hj => by
    unfold dot
    rw [cost_units S hj]
    have : (sm m fun t => -cost A m n bs (n + t) * A j t) = sm m fun t => (-1) * (cost A m n bs (n + t) * A j t) := sm_congr fun t _ => by grind
    rw [this, sm_mul]
    omega
  refine ⟨fun j hj => ?_, ?_⟩
  · rw [e j (by omega)]
    have := hc j hj
    omega
  · rw [e _ (by omega)]
    have := cost_want_nonneg G
    omega
end
end Tm
end
section
set_option Elab.async false
set_option linter.all false
set_option maxRecDepth 100000
set_option maxHeartbeats 4000000
set_option exponentiation.threshold 100000
/-! the table: what is read of it -/
namespace Tm
open PySem PySem.Spec PyProof.Rows L2
/-- nothing may change; what is made is none of the lists of z -/
def Rk (z : Addr → Prop) : Rel where
  M _ := False
  W := z
  sub _ h := h.elim
  ok H := ∀ a, z a → ∃ xs, H a = some (.lst xs)
  sep H a o m := .inr (.inl (o a m))
  ext H H' e o := fun a m => (o a m).imp fun xs h => e a _ h
  put H p u o m := fun a q => (o a q).imp fun xs h => by rw [upd_ne fun z => m (by rw [← z]; exact q)]; exact h
/-- a method's promise -/
structure MetDoes (P : Program) (w : World) (K : PySem.W.Frag) (mg : Str → Option Value) (base : Heap) (k : Nat) (C : Addr) (m : Str) (ps : List Str) (sp : Sp) : Prop where
  ex : ∃ f fd, FnOk P w K mg base CX0 k f fd ps sp ∧ Meth K C m f ∧ Binds K fd ps []
section
variable {X : Cx} {C : Addr} {k : Nat} {m : Str} {ps : List Str} {sp : Sp} {pos apos : Pos} {e o : Expr} {es : List Expr} {ta : TE} {t : TA}
theorem pe_met {pl : Sem Bool} (c : Cls X.K C) (D : MetDoes X.prog X.w X.K X.mg X.base k C m ps sp) (hr : Room k X.A) (he : PE X o ta) (ha : PA X (e :: es) t)
    (hst : starEach (e :: es) X.env = (false, eval e X.env) :: starEach es X.env := by rfl) (hpl : (backTo pos (starEach es X.env)).any (·.1) = false := by rfl)
    (ht : eval (.Call (.Attribute o m apos) (e :: es) [] pos) X.env = (do
      let ov ← eval o X.env
      standAt apos.atName
      let (f, first) ← holding [ov] (getMethod ov m pl)
      callWith pos f first (backTo pos (starEach (e :: es) X.env)) (backToKw pos (keywordEach [] X.env))) := by rfl) :
    PE X (.Call (.Attribute o m apos) (e :: es) [] pos) (tMeth C m sp [] E0 ta t) := by
  obtain ⟨f, fd, F, hm, b⟩ := D.ex
  exact pe_meth (pl := pl) he c hm F hr b .nil pass0 ha hst hpl ht
end
section
variable {P : Program} {w : World} {K : PySem.W.Frag} {mg : Str → Option Value} {base : Heap} {C : Addr}
theorem mk_met {q m : Str} {st : Stmt} {N ps : List Str} {k : Nat} {sp : Sp} (D : MetAt K C q m st) (S : FnScope N ps (defScope st))
    (b : ∀ (kV doc pm : Value) (an : Option Addr) (cdv ct : Value) (us : List Value), us.length = ps.length → bindArgs (PySem.W.fnOf m q (defArgs st) (defBody st) (defScope st) .none kV doc pm an cdv ct) ⟨us, []⟩ = pure (ps.zip us))
    (len : ∀ vs H Q E, sp vs H Q E → vs.length = ps.length)
    (hbody : ∀ (f : Addr) (cdv : Value) (A : Around) (outer : List Env) (s : Shared) (H : Hp) (vs : List V) (Q : VK) (E : XK), Room k (A.deeper (envOfC q (defScope st) s.heap.objs.size f cdv)) → sp vs H Q E →
      ∃ t, PSs (cxOf CX0 P w K mg base N q (defScope st) f cdv A outer s H E).nox (defBody st) t ∧ t { nx := fun _ H' => Q .non H', rt := Q } (start N vs) H) : MetDoes P w K mg base (k + 1) C m ps sp := by
  obtain ⟨f, fd, F, g⟩ := D.ex
  refine ⟨f, fd, F.ok S len fun cdv A outer s H vs Q E hr h => ?_, g, F.bindsN b⟩
  obtain ⟨t, h1, h2⟩ := hbody f cdv A outer s H vs Q E hr h
  exact ⟨t, h1.nox, h2⟩
theorem mk_metG {q m : Str} {st : Stmt} {N ps : List Str} {k : Nat} {G : Type} {pre : G → List V → Hp → Prop} {post : G → Pv} (D : MetAt K C q m st) (S : FnScope N ps (defScope st))
    (b : ∀ (kV doc pm : Value) (an : Option Addr) (cdv ct : Value) (us : List Value), us.length = ps.length → bindArgs (PySem.W.fnOf m q (defArgs st) (defBody st) (defScope st) .none kV doc pm an cdv ct) ⟨us, []⟩ = pure (ps.zip us))
    (len : ∀ g vs H, pre g vs H → vs.length = ps.length)
    (hbody : ∀ (f : Addr) (cdv : Value) (A : Around) (outer : List Env) (s : Shared) (H : Hp) (vs : List V) (Q : VK) (E : XK) (g : G), Room k (A.deeper (envOfC q (defScope st) s.heap.objs.size f cdv)) → pre g vs H → (∀ v H', Ex H H' → post g v H' → Q v H') →
      ∃ t, PSs (cxOf CX0 P w K mg base N q (defScope st) f cdv A outer s H E).nox (defBody st) t ∧ t { nx := fun _ H' => Q .non H', rt := Q } (start N vs) H) : MetDoes P w K mg base (k + 1) C m ps (PrG pre post) :=
  mk_met D S b (fun vs H Q E ⟨g, h, _⟩ => len g vs H h) fun f cdv A outer s H vs Q E hr ⟨g, h, q⟩ => hbody f cdv A outer s H vs Q E g hr h q
end
section
variable {R : Rel} {K : PySem.W.Frag} {σ : L2.St} {H : Hp} {ta tb te tl : TE} {t : TA} {p C dx : Addr} {fs : List (Str × V)} {f : Str} {v : V} {P : Pv}
/-- an attribute -/
theorem gv_fld (ha : Gv R ta σ H (Is (.ref p))) (h : H p = some (.ins C dx fs)) (m : ¬ R.M p) (c : Cls K C) (n : NoAttr K C f) (l : fs.lookup f = some v) : Gv R (tFld K ta f) σ H (Is v) := fun H1 e o Q k =>
  ha H1 e o _ fun x H2 e2 o2 q => ⟨p, C, dx, fs, v, q, Rel.trans e e2 p _ h m, c, n, l, k _ H2 e2 o2 rfl⟩
theorem gv_met {G : Type} {pre : G → List V → Hp → Prop} {post : G → Pv} {A : List V → Hp → Prop} {m : Str} {E : XK} (g : G) (ho : Gv R ta σ H (Is (.ref p))) (h : H p = some (.ins C dx fs)) (nm : ¬ R.M p) (l : fs.lookup m = none) (ha : GvA R t σ H A)
    (hp : ∀ vs H1, R.r H H1 → R.ok H1 → A vs H1 → pre g (.ref p :: vs) H1) (hq : ∀ v H1, R.r H H1 → R.ok H1 → post g v H1 → P v H1) : Gv R (tMeth C m (PrG pre post) [] E ta t) σ H P := fun H1 e o Q k =>
  ho H1 e o _ fun x H2 e2 o2 q => ⟨p, dx, fs, q, Rel.trans e e2 p _ h nm, l, ha H2 (Rel.trans e e2) o2 _ fun vs H3 e3 o3 a => by
    show PrG pre post (x :: (vs ++ [])) H3 Q E
    rw [List.append_nil, q]
    exact ⟨g, hp vs H3 (Rel.trans (Rel.trans e e2) e3) o3 a, fun v H4 y z => k v H4 (Rel.trans e2 (Rel.trans e3 (Rel.ex y))) (R.ext _ _ y o3) (hq v H4 (Rel.trans (Rel.trans (Rel.trans e e2) e3) (Rel.ex y)) (R.ext _ _ y o3) z)⟩⟩
/-- zip of two lists -/
theorem gi_zipL {xs ys : List V} (ha : Gv R ta σ H (fun v H => ∃ a, v = .ref a ∧ ¬ R.W a ∧ SqL K H a xs)) (hb : Gv R tb σ H (fun v H => ∃ a, v = .ref a ∧ ¬ R.W a ∧ SqL K H a ys)) :
    GvIt R (RZ.iZipA K (tCons ta (tCons tb tNil))) σ H (min xs.length ys.length) (YPair (fun i => xs[i]?) (fun i => ys[i]?)) := fun H1 e o Q k => ha H1 e o _ fun v H2 e2 o2 ⟨a, h1, m1, h2⟩ => hb H2 (Rel.trans e e2) o2 _ fun w H3 e3 o3 ⟨b, h3, m2, h4⟩ =>
  ⟨a, b, xs, ys, by rw [h1, h3], .inl ⟨mo_lst (Rel.rq e3) m1 h2, h4, k _ H3 (fun H => SqL K H a xs ∧ SqL K H b ys) (Rel.trans e2 e3) o3 (walk_zip rfl) (fun H4 e4 o4 => ⟨mo_lst (Rel.rq e4) m1 (mo_lst (Rel.rq e3) m1 h2), mo_lst (Rel.rq e4) m2 h4⟩) fun D H4 t => ⟨t.lst m1 (mo_lst (Rel.rq e3) m1 h2), t.lst m2 h4⟩⟩⟩
theorem gv_divW {i j : Int} (ha : Gv R ta σ H (Is (.int i))) (hb : Gv R tb σ H (Is (.int j))) (h1 : 0 < j) (h2 : j.natAbs ≤ bigB) : Gv R (tOp (rI CDivW fun i j => .int (i / j)) ta tb) σ H (Is (.int (i / j))) :=
  gv_I (C := CDivW) (g := fun i j => .int (i / j)) ha hb (wide_div (b := 9000) h1 (Nat.lt_of_le_of_lt h2 (Nat.lt_of_lt_of_le (by decide : bigB < 2 ^ 1000) (Nat.pow_le_pow_right (by decide) (by decide)))) (by decide) (by decide))
end
section
variable {P : Program} {w : World} {K : PySem.W.Frag} {mg : Str → Option Value} {base : Heap} {C : Addr}
/-! Table.less -/
abbrev N_less : List Str := ["self", "row", "own", "at", "head", "many", "one", "other"]
theorem sc_T_less : FnScope N_less ["self", "row", "own", "at", "head"] (defScope s_T_less) := ⟨rfl, rfl, rfl, by decide +kernel, rfl, by decide +kernel, by decide +kernel⟩
structure LessG where
  z : Addr → Prop
  p : Addr
  dx : Addr
  fs : List (Str × V)
  d : Int
  xs : List Int
  ys : List Int
  s : Nat
  hd : Int
def lessOf (g : LessG) : List Int := List.zipWith (fun one other => (g.hd * one - g.xs.getD g.s 0 * other) / g.d) g.xs g.ys
abbrev preLess (K : PySem.W.Frag) (C : Addr) (g : LessG) (vs : List V) (H : Hp) : Prop := ∃ r o, vs = [.ref g.p, r, o, .int (g.s : Int), .int g.hd] ∧ H g.p = some (.ins C g.dx g.fs) ∧ g.fs.lookup ("divisor" : Str) = some (.int g.d) ∧
  (Rk g.z).ok H ∧ Lst (Rk g.z) K g.xs r H ∧ Lst (Rk g.z) K g.ys o H ∧ g.xs.length = g.ys.length ∧ g.xs.length ≤ 1000 ∧ g.s < g.xs.length ∧ 0 < g.d ∧ g.d.natAbs ≤ bigB ∧ g.hd.natAbs ≤ bigB ∧ (∀ x ∈ g.xs, x.natAbs ≤ 4 * bigB) ∧ ∀ x ∈ g.ys, x.natAbs ≤ 4 * bigB
theorem big_lim {n : Nat} (h : n ≤ 4 * bigB) : n < lim := lim_of (Nat.lt_of_le_of_lt h (by decide))
theorem do_T_less (T : Txt K mg C) : MetDoes P w K mg base 1 C "less" ["self", "row", "own", "at", "head"] (PrG (fun (g : LessG) vs H => preLess K C g vs H) fun g => New (Rk g.z) ((lessOf g).map V.int)) :=
  mk_metG T.m_less sc_T_less (fun _ _ _ _ _ _ us hl => match us, hl with | [_, _, _, _, _], _ => rfl) (fun g vs H h => by obtain ⟨r, o, rfl, _⟩ := h; rfl) fun f cdv A outer s H vs Q E g hr h q => by
    obtain ⟨z, p, dx, fs, d, xs, ys, s, hd⟩ := g
    obtain ⟨r, o, rfl, hp, hl, hz, hx, hy, h1, h2, h3, h4, h5, h6, h7, h8⟩ := h
    dsimp only at hp hl hz hx hy h1 h2 h3 h4 h5 h6 h7 h8 q
    have nd := (sc_T_less).nd
    refine ⟨_, pss_cons (ps_set (i := 5) nd rfl (Or.inr rfl) (pe_ix ix_list (pv 1) (pv 3) (fun _ _ => rfl)))
      (pss_one (ps_ret (pe_lc (own := [("one", 6), ("other", 7)]) (g := gTup K 2 (gCons (gName 6) (gCons (gName 7) gNil))) (tt := tYes) rfl nd (RZ.pi_zipA (by rfl) T.z_zip (pa_cons (pv 1) (pa_cons (pv 2) pa_nil)))
        (blkOk_by (N := N_less) (sc := defScope s_T_less) (by decide +kernel)) (fun _ _ _ _ _ => pg_tup rfl (pgs_cons (pg_name (i := 6) nd rfl (Or.inl rfl) (by exact Or.inr rfl)) (pgs_cons (pg_name (i := 7) nd rfl (Or.inl rfl) (by exact Or.inr rfl)) pgs_nil))) (fun _ _ _ _ _ => pts_nil)
        (fun _ _ _ _ _ => pe_op op_fdivW (pe_op op_sub (pe_op op_mulW (pv 4) (pv 6)) (pe_op op_mulW (pv 5) (pv 7))) (show PE _ _ (tFld K (tVar 0) "divisor") from pe_fld (pv 0) rfl))))), ?_⟩
    have hs : xs.getD s 0 ∈ xs := getD_in h3
    refine st_asg (R := Rk z) (gv_ixL (gv_slot mo_lstI hz rfl hx) (gv_varI rfl) (at_nat h3)) hz fun v5 H1 e1 hz1 hv5 => ?_
    subst hv5
    have e1 := r0_ex e1
    have hx1 := mo_lstI (R := Rk z) r H H1 (Rel.ex e1) hz hx
    have hy1 := mo_lstI (R := Rk z) o H H1 (Rel.ex e1) hz hy
    have hp1 := e1 _ _ hp
    show tRet _ _ [some (.ref p), some r, some o, some (.int (s : Int)), some (.int hd), some (.int (xs.getD s 0)), none, none] H1
    refine st_ret (R := Rk z) (P := New (Rk z) ((lessOf ⟨z, p, dx, fs, d, xs, ys, s, hd⟩).map V.int)) ?_ hz1 fun v H2 e2 _ hv => q v H2 (e1.trans (r0_ex e2)) hv
    refine Gv.imp (gv_new (f := fun _ => true) (h := fun j => .int ((hd * xs.getD j 0 - xs.getD s 0 * ys.getD j 0) / d)) (gv_lcP (f := fun _ => true) (Pe := fun _ j => Is (.int ((hd * xs.getD j 0 - xs.getD s 0 * ys.getD j 0) / d))) (gi_zipL (xs := xs.map V.int) (ys := ys.map V.int) (gv_slot mo_lstI hz1 rfl hx1) (gv_slot mo_lstI hz1 rfl hy1)) (by simp; omega) hz1 (fun _ _ => mo_is) (fun x y => rfl) fun D j x1 y1 H4 hj hx1 hy1 t o => ⟨gt_yes, fun _ => ?_⟩)) fun v' H' _ pp => ?_
    · rw [List.length_map, List.length_map] at hj
      have a1 : j < xs.length := by omega
      have a2 : j < ys.length := by omega
      rw [List.getElem?_map, List.getElem?_eq_getElem a1] at hx1
      rw [List.getElem?_map, List.getElem?_eq_getElem a2] at hy1
      have e1 : V.int xs[j] = x1 := Option.some.inj hx1
      have e2 : V.int ys[j] = y1 := Option.some.inj hy1
      subst e1 e2
      have f1 : xs.getD j 0 = xs[j] := by rw [List.getD_eq_getElem?_getD, List.getElem?_eq_getElem a1]; rfl
      have f2 : ys.getD j 0 = ys[j] := by rw [List.getD_eq_getElem?_getD, List.getElem?_eq_getElem a2]; rfl
      rw [f1, f2]
      have hp4 : H4 p = some (.ins C dx fs) := t.q _ _ hp1 (by
        rintro (m | m)
        · obtain ⟨xs, q⟩ := hz1 p m; rw [hp1] at q; cases q
        · rw [m, t.ne] at hp1; cases hp1)
      exact gv_divW (gv_sub (gv_mulW (gv_varI rfl) (gv_varI rfl) (big_lim (by omega)) (big_lim (h7 _ (List.getElem_mem a1)))) (gv_mulW (gv_varI rfl) (gv_varI rfl) (big_lim (h7 _ hs)) (big_lim (h8 _ (List.getElem_mem a2))))) (gv_fld (gv_varI rfl) hp4 id T.cl T.n_divisor hl) h4 h5
    · rw [idx_all (fun _ _ => rfl), List.length_map, List.length_map] at pp
      have e : (List.range (min xs.length ys.length)).map (fun j => V.int ((hd * xs.getD j 0 - xs.getD s 0 * ys.getD j 0) / d)) = (lessOf ⟨z, p, dx, fs, d, xs, ys, s, hd⟩).map V.int := by
        unfold lessOf
        refine List.ext_getElem (by simp) fun j h1 h2 => ?_
        have a : j < min xs.length ys.length := by simpa using h1
        have a1 : j < xs.length := by omega
        have a2 : j < ys.length := by omega
        rw [List.getElem_map, List.getElem_map, List.getElem_range, List.getElem_zipWith, List.getD_eq_getElem?_getD (l := xs) (i := j), List.getD_eq_getElem?_getD (l := ys), List.getElem?_eq_getElem a1, List.getElem?_eq_getElem a2]
        rfl
      rw [← e]
      exact pp
end
end Tm
end
section
set_option Elab.async false
set_option linter.all false
set_option maxRecDepth 100000
set_option maxHeartbeats 4000000
set_option exponentiation.threshold 100000
/-! the table as it stands; what is read of it -/
namespace Tm
open PySem PySem.Spec PyProof.Rows L2
def rowOf (A : Nat → Nat → Int) (m n : Nat) (bs : List Nat) (k : Nat) : List Int := (List.range (n + m + 1)).map (ent A m bs k)
def costOf (A : Nat → Nat → Int) (m n : Nat) (bs : List Nat) : List Int := (List.range (n + m + 1)).map (cost A m n bs)
def rowsOf (A : Nat → Nat → Int) (m n : Nat) (bs : List Nat) : List (List Int) := (List.range m).map (rowOf A m n bs)
def tabF (n : Nat) (rA cA b : Addr) (d : Int) : List (Str × V) := [("real", .int (n : Int)), ("rows", .ref rA), ("cost", .ref cA), ("basis", .ref b), ("divisor", .int d)]
theorem lk_here {k : Str} {v : V} {r : List (Str × V)} : List.lookup k ((k, v) :: r) = some v := by
  have e : (k == k) = true := beq_self_eq_true k
  simp only [List.lookup, e]
theorem lk_past {k g : Str} {v : V} {r : List (Str × V)} (h : (k == g) = false) : List.lookup k ((g, v) :: r) = List.lookup k r := by
  simp only [List.lookup, h]
section
variable {n : Nat} {rA cA b : Addr} {d : Int}
theorem tabF_real : (tabF n rA cA b d).lookup ("real" : Str) = some (.int (n : Int)) := lk_here
theorem tabF_rows : (tabF n rA cA b d).lookup ("rows" : Str) = some (.ref rA) := (lk_past (by decide +kernel)).trans lk_here
theorem tabF_cost : (tabF n rA cA b d).lookup ("cost" : Str) = some (.ref cA) := (lk_past (by decide +kernel)).trans ((lk_past (by decide +kernel)).trans lk_here)
theorem tabF_basis : (tabF n rA cA b d).lookup ("basis" : Str) = some (.ref b) := (lk_past (by decide +kernel)).trans ((lk_past (by decide +kernel)).trans ((lk_past (by decide +kernel)).trans lk_here))
theorem tabF_div : (tabF n rA cA b d).lookup ("divisor" : Str) = some (.int d) := (lk_past (by decide +kernel)).trans ((lk_past (by decide +kernel)).trans ((lk_past (by decide +kernel)).trans ((lk_past (by decide +kernel)).trans lk_here)))
theorem tabF_no {m : Str} (h1 : (m == ("real" : Str)) = false) (h2 : (m == ("rows" : Str)) = false) (h3 : (m == ("cost" : Str)) = false) (h4 : (m == ("basis" : Str)) = false) (h5 : (m == ("divisor" : Str)) = false) : (tabF n rA cA b d).lookup m = none :=
  (lk_past h1).trans ((lk_past h2).trans ((lk_past h3).trans ((lk_past h4).trans ((lk_past h5).trans rfl))))
end
/-- a list of these ints at an address other than b -/
def LstB (b : Addr) (xs : List Int) : Pv := fun v H => ∃ a, v = .ref a ∧ a ≠ b ∧ H a = some (.lst (xs.map V.int))
/-- the table at p, its basis' list at b -/
structure TabAt (C : Addr) (A : Nat → Nat → Int) (m n : Nat) (bs : List Nat) (p b dx rA cA : Addr) (vs : List V) (H : Hp) : Prop where
  obj : H p = some (.ins C dx (tabF n rA cA b (det A m bs)))
  rows : H rA = some (.lst vs)
  cost : H cA = some (.lst ((costOf A m n bs).map V.int))
  basis : H b = some (.lst (bs.map fun i : Nat => V.int (i : Int)))
  nr : rA ≠ b
  nc : cA ≠ b
  al : Al (LstB b) (rowsOf A m n bs) vs H
def Tab (C : Addr) (A : Nat → Nat → Int) (m n : Nat) (bs : List Nat) (p b : Addr) (H : Hp) : Prop := ∃ dx rA cA vs, TabAt C A m n bs p b dx rA cA vs H
theorem TabAt.ex {C : Addr} {A : Nat → Nat → Int} {m n : Nat} {bs : List Nat} {p b dx rA cA : Addr} {vs : List V} {H H' : Hp} (t : TabAt C A m n bs p b dx rA cA vs H) (e : Ex H H') : TabAt C A m n bs p b dx rA cA vs H' :=
  ⟨e _ _ t.obj, e _ _ t.rows, e _ _ t.cost, e _ _ t.basis, t.nr, t.nc, al_mono t.al fun r y ⟨a, h1, h2, h3⟩ => ⟨a, h1, h2, e _ _ h3⟩⟩
theorem Tab.ex {C : Addr} {A : Nat → Nat → Int} {m n : Nat} {bs : List Nat} {p b : Addr} {H H' : Hp} (t : Tab C A m n bs p b H) (e : Ex H H') : Tab C A m n bs p b H' := by
  obtain ⟨dx, rA, cA, vs, h⟩ := t
  exact ⟨dx, rA, cA, vs, h.ex e⟩
section
variable {A : Nat → Nat → Int} {m n : Nat} {bs : List Nat}
theorem rowOf_len {k : Nat} : (rowOf A m n bs k).length = n + m + 1 := by simp [rowOf]
theorem costOf_len : (costOf A m n bs).length = n + m + 1 := by simp [costOf]
theorem rowsOf_len : (rowsOf A m n bs).length = m := by simp [rowsOf]
theorem rowOf_get {k j : Nat} (h : j < n + m + 1) : (rowOf A m n bs k).getD j 0 = ent A m bs k j := by
  simp [rowOf, List.getD_eq_getElem?_getD, h]
theorem costOf_get {j : Nat} (h : j < n + m + 1) : (costOf A m n bs).getD j 0 = cost A m n bs j := by
  simp [costOf, List.getD_eq_getElem?_getD, h]
theorem rowsOf_get {k : Nat} (h : k < m) : (rowsOf A m n bs)[k]? = some (rowOf A m n bs k) := by
  simp [rowsOf, h]
theorem rowOf_last {k : Nat} : last (rowOf A m n bs k) = ent A m bs k (n + m) := by
  unfold last rowOf
  rw [List.range_succ, List.map_append]
  simp
theorem costOf_last : last (costOf A m n bs) = cost A m n bs (n + m) := by
  unfold last costOf
  rw [List.range_succ, List.map_append]
  simp
theorem row_ne {k : Nat} : rowOf A m n bs k ≠ [] := fun e => by
  have := rowOf_len (A := A) (m := m) (n := n) (bs := bs) (k := k)
  rw [e] at this
  simp at this
theorem cost_ne : costOf A m n bs ≠ [] := fun e => by
  have := costOf_len (A := A) (m := m) (n := n) (bs := bs)
  rw [e] at this
  simp at this
end
section
variable {K : PySem.W.Frag} {b : Addr} {xs : List Int} {v : V} {H : Hp}
theorem LstB.l0 (h : LstB b xs v H) : Lst R0 K xs v H := by
  obtain ⟨a, h1, h2, h3⟩ := h
  exact ⟨a, h1, id, sq_of h3⟩
end
section
variable {P : Program} {w : World} {K : PySem.W.Frag} {mg : Str → Option Value} {base : Heap} {C : Addr}
/-- which table is asked -/
structure TabG where
  cs : List (List Int)
  wt : List Int
  bs : List Nat
  p : Addr
  b : Addr
  s : Nat
abbrev TabG.A (g : TabG) : Nat → Nat → Int := colA g.cs g.wt
abbrev TabG.m (g : TabG) : Nat := g.wt.length
abbrev TabG.n (g : TabG) : Nat := g.cs.length
abbrev TabG.tab (C : Addr) (g : TabG) (H : Hp) : Prop := Tab C (colA g.cs g.wt) g.wt.length g.cs.length g.bs g.p g.b H
/-! Table.entering -/
abbrev N_entering : List Str := ["self", "at"]
theorem sc_T_entering : FnScope N_entering ["self"] (defScope s_T_entering) := ⟨rfl, rfl, rfl, by decide +kernel, rfl, by decide +kernel, by decide +kernel⟩
abbrev postEnt (g : TabG) : Pv := fun v _ => (∃ s : Nat, v = .int (s : Int) ∧ s < g.n ∧ 0 < cost g.A g.m g.n g.bs s ∧ ∀ j, j < s → cost g.A g.m g.n g.bs j ≤ 0) ∨ (v = .non ∧ ∀ j, j < g.n → cost g.A g.m g.n g.bs j ≤ 0)
theorem do_T_entering (T : Txt K mg C) : MetDoes P w K mg base 1 C "entering" ["self"] (PrG (fun (g : TabG) vs H => vs = [.ref g.p] ∧ g.tab C H ∧ Cols g.cs g.wt) fun g => postEnt g) :=
  mk_metG T.m_entering sc_T_entering (fun _ _ _ _ _ _ us hl => match us, hl with | [_], _ => rfl) (fun g vs H h => by obtain ⟨rfl, _⟩ := h; rfl) fun f cdv A outer s H vs Q E g hr h q => by
    obtain ⟨rfl, ⟨dx, rA, cA, zs, t⟩, hC⟩ := h
    have nd := (sc_T_entering).nd
    refine ⟨_, pss_cons (ps_for PassesOwn.never rfl (pi_range1 (by rfl) T.z_range (pa_cons (pe_fld (pv 0) rfl) pa_nil)) (pg_name (i := 1) nd rfl (Or.inl rfl))
        (pss_one (ps_if (pt_cmpR op_gt (pe_ix ix_list (pe_fld (pv 0) rfl) (pv 1) (fun _ _ => rfl)) pe_int (nomark _)) (pss_one (ps_ret (pv 1))) pss_nil)))
      (pss_one (ps_ret pe_non)), ?_⟩
    have hfew := hC.few
    refine st_for (R := R0) (n := g.n) (Y := YFn fun i => .int (0 + i)) ?_ trivial (fun i σ' H' => (∃ s1, σ' = [some (.ref g.p), s1]) ∧ ∀ j, j < i → cost g.A g.m g.n g.bs j ≤ 0) (fun H1 e1 _ => ⟨⟨none, rfl⟩, fun j hj => absurd hj (Nat.not_lt_zero j)⟩) (fun i x σ' H' H'' hi e' _ hp y => ?_) (fun σ' H' e' _ hp => ?_)
    · have := gi_rng1 (R := R0) (σ := start N_entering [.ref g.p]) (H := H) (ta := tCons (tFld K (tVar 0) "real") tNil) (n := (g.n : Int)) (ga_k (gv_fld (gv_varI rfl) t.obj id T.cl T.n_real tabF_real) ga_n) (by show (-100000 : Int) ≤ (g.cs.length : Int) ∧ (g.cs.length : Int) ≤ 100000; omega)
      rw [Int.toNat_natCast] at this
      exact this
    · obtain ⟨⟨s1, rfl⟩, hz⟩ := hp
      obtain ⟨rfl, rfl⟩ := y
      have e' := r0_ex e'
      refine g_name ?_
      dsimp only
      rw [show (0 : Int) + (i : Int) = (i : Int) by omega]
      show tIfS _ _ _ _ [some (.ref g.p), some (.int (i : Int))] H''
      have t1 := t.ex e'
      have hi2 : i < (costOf g.A g.m g.n g.bs).length := by rw [costOf_len]; omega
      refine st_when1 (R := R0) (B := (· = decide (0 < cost g.A g.m g.n g.bs i))) ?_ trivial (fun H2 e2 _ hb => ?_) (fun H2 e2 _ hb => ?_)
      · refine gt_test (gv_I0 (g := fun i j => .bl (decide (j < i))) ?_ gv_c)
        exact gv_ixL (xs := costOf g.A g.m g.n g.bs) (fun H1 e1 o1 Q k => gv_fld (R := R0) (gv_varI rfl) t1.obj id T.cl T.n_cost tabF_cost H1 e1 o1 Q fun v H2 e2 o2 p => k v H2 e2 o2 ⟨cA, p, id, sq_of (r0_ex e2 _ _ (r0_ex e1 _ _ t1.cost))⟩) (gv_varI rfl) (by rw [at_nat hi2, costOf_get (by omega)])
      · refine st_ret (R := R0) (gv_varI rfl) trivial fun v H3 e3 _ hv => q v H3 ((e'.trans (r0_ex e2)).trans (r0_ex e3)) (.inl ⟨i, hv, hi, of_decide_eq_true hb.symm, hz⟩)
      · have := of_decide_eq_false hb.symm
        refine ⟨e2, trivial, ⟨_, rfl⟩, fun j hj => ?_⟩
        by_cases e : j = i
        · rw [e]; omega
        · exact hz j (by omega)
    · obtain ⟨⟨s1, rfl⟩, hz⟩ := hp
      exact q _ H' (r0_ex e') (.inr ⟨rfl, hz⟩)
end
end Tm
end
section
set_option Elab.async false
set_option linter.all false
set_option maxRecDepth 100000
set_option maxHeartbeats 4000000
set_option exponentiation.threshold 100000
namespace Tm
open PySem PySem.Spec PyProof.Rows L2
section
variable {K : PySem.W.Frag} {σ : L2.St} {H : Hp} {ta tb : TE} {A : Nat → Nat → Int} {m n : Nat} {bs : List Nat} {C p b dx rA cA : Addr} {vs : List V} {P : Program} {w : World} {mg : Str → Option Value} {base : Heap}
theorem TabAt.row (t : TabAt C A m n bs p b dx rA cA vs H) {k : Nat} (h : k < m) : ∃ v, vs[k]? = some v ∧ LstB b (rowOf A m n bs k) v H := by
  have hv : k < vs.length := by rw [t.al.1, rowsOf_len]; exact h
  exact ⟨vs[k], List.getElem?_eq_getElem hv, t.al.2 k _ _ (List.getElem?_eq_getElem hv) (rowsOf_get h)⟩
/-- self.rows[k] -/
theorem gv_tabRow (T : Txt K mg C) (t : TabAt C A m n bs p b dx rA cA vs H) {k : Nat} (h : k < m) (ha : Gv R0 ta σ H (Is (.ref p))) (hb : Gv R0 tb σ H (Is (.int (k : Int)))) : Gv R0 (tOp (rIxL K) (tFld K ta "rows") tb) σ H (Lst R0 K (rowOf A m n bs k)) :=
  gv_opI (gv_fld ha t.obj id T.cl T.n_rows tabF_rows) hb fun H1 e o Q q => by
    obtain ⟨v, h1, h2⟩ := t.row h
    exact ⟨rA, vs, (k : Int), v, rfl, rfl, sq_of (r0_ex e _ _ t.rows), atI_nat h1, q _ H1 (Rel.refl _) o (mo_lstI (R := R0) v H H1 (Rel.rq e) trivial h2.l0)⟩
theorem gv_lstNat {xs : List Int} {i : Nat} {R : Rel} (ha : Gv R ta σ H (Lst R K xs)) (hb : Gv R tb σ H (Is (.int (i : Int)))) (h : i < xs.length) : Gv R (tOp (rIxL K) ta tb) σ H (Is (.int (xs.getD i 0))) := gv_ixL ha hb (at_nat h)
/-- self.basis[k] -/
theorem gv_tabBas (T : Txt K mg C) (t : TabAt C A m n bs p b dx rA cA vs H) {k : Nat} (h : k < bs.length) (ha : Gv R0 ta σ H (Is (.ref p))) (hb : Gv R0 tb σ H (Is (.int (k : Int)))) : Gv R0 (tOp (rIxL K) (tFld K ta "basis") tb) σ H (Is (.int ((bs.getD k 0 : Nat) : Int))) :=
  gv_opI (gv_fld ha t.obj id T.cl T.n_basis tabF_basis) hb fun H1 e o Q q =>
    ⟨b, _, (k : Int), _, rfl, rfl, sq_of (r0_ex e _ _ t.basis), atI_nat (by rw [List.getElem?_map, List.getElem?_eq_getElem h]; rfl), q _ H1 (Rel.refl _) o (by simp [List.getD_eq_getElem?_getD, h])⟩
def optV : Option Nat → V
  | none => .non
  | some q => .int (q : Int)
def lvOf (g : TabG) (i : Nat) : Option Nat := lv (fun k => ent g.A g.m g.bs k g.s) (fun k => ent g.A g.m g.bs k (g.n + g.m)) (fun k => g.bs.getD k 0) i
theorem lvOf_lt (g : TabG) (i q : Nat) (h : lvOf g i = some q) : q < i := by
  rcases lv_spec (fun k => ent g.A g.m g.bs k g.s) (fun k => ent g.A g.m g.bs k (g.n + g.m)) (fun k => g.bs.getD k 0) i with ⟨h1, _⟩ | ⟨q', h1, h2, _⟩
  · unfold lvOf at h; rw [h1] at h; cases h
  · unfold lvOf at h; rw [h1] at h; cases h; exact h2
theorem st_par {R : Rel} {σ : L2.St} {H : Hp} {ta : TA} {x y : V} {D : L2.Ends} {u : TS} {i j : Nat} (h : GvA R ta σ H (fun vs _ => vs = [x, y])) (o : R.ok H) (k : ∀ H2, R.r H H2 → R.ok H2 → u D ((σ.set i (some x)).set j (some y)) H2) : tSeq (tPar i j ta) u D σ H :=
  h H (Rel.refl H) o _ fun vs H2 r2 o2 p => ⟨_, _, p, k H2 r2 o2⟩
/-! Table.leaving -/
abbrev N_leaving : List Str := ["self", "at", "best", "number", "row", "near", "far"]
theorem sc_T_leaving : FnScope N_leaving ["self", "at"] (defScope s_T_leaving) := ⟨rfl, rfl, rfl, by decide +kernel, rfl, by decide +kernel, by decide +kernel⟩
theorem do_T_leaving (T : Txt K mg C) : MetDoes P w K mg base 1 C "leaving" ["self", "at"] (PrG (fun (g : TabG) vs H => vs = [.ref g.p, .int (g.s : Int)] ∧ g.tab C H ∧ Cols g.cs g.wt ∧ g.s < g.n + g.m + 1 ∧ g.bs.length = g.m) fun g => Is (optV (lvOf g g.m))) :=
  mk_metG T.m_leaving sc_T_leaving (fun _ _ _ _ _ _ us hl => match us, hl with | [_, _], _ => rfl) (fun g vs H h => by obtain ⟨rfl, _⟩ := h; rfl) fun f cdv A outer s H vs Q E g hr h q => by
    obtain ⟨rfl, ⟨dx, rA, cA, zs, t⟩, hC, hs, hb⟩ := h
    have nd := (sc_T_leaving).nd
    refine ⟨_, pss_cons (ps_set (i := 2) nd rfl (Or.inl rfl) pe_non)
      (pss_cons (ps_for PassesOwn.never rfl (pi_enum (by rfl) T.z_enumerate (pa_cons (pe_fld (pv 0) rfl) pa_nil)) (pg_tup rfl (pgs_cons (pg_name (i := 3) nd rfl (Or.inl rfl)) (pgs_cons (pg_name (i := 4) nd rfl (Or.inl rfl)) pgs_nil)))
        (pss_one (ps_if (pt_cmpR op_gt (pe_ix ix_list (pv 4) (pv 1) (fun _ _ => rfl)) pe_int (nomark _))
          (pss_one (ps_if (pt_cmp (pc_isN (pv 2))) (pss_one (ps_set (i := 2) nd rfl (Or.inl rfl) (pv 3)))
            (pss_cons (ps_par (i := 5) (j := 6) rfl nd rfl rfl (by decide) rfl rfl
                (pa_cons (pe_op op_mulW (pe_ix ix_list (pv 4) (pe_un un_neg pe_int) (fun _ _ => rfl)) (pe_ix ix_list (pe_ix ix_list (pe_fld (pv 0) rfl) (pv 2) (fun _ _ => rfl)) (pv 1) (fun _ _ => rfl)))
                  (pa_cons (pe_op op_mulW (pe_ix ix_list (pe_ix ix_list (pe_fld (pv 0) rfl) (pv 2) (fun _ _ => rfl)) (pe_un un_neg pe_int) (fun _ _ => rfl)) (pe_ix ix_list (pv 4) (pv 1) (fun _ _ => rfl))) pa_nil)) rfl)
            (pss_one (ps_if (PW.pt (pw_or (pt_cmpR op_lt (pv 5) (pv 6) (nomark _)) (pw_or1 (PW.pt (pw_and (pt_cmpR op_eq (pv 5) (pv 6) (nomark _)) (pw_and1 (pt_cmpR op_lt (pe_ix ix_list (pe_fld (pv 0) rfl) (pv 3) (fun _ _ => rfl)) (pe_ix ix_list (pe_fld (pv 0) rfl) (pv 2) (fun _ _ => rfl)) (nomark _))))))))
              (pss_one (ps_set (i := 2) nd rfl (Or.inl rfl) (pv 3))) pss_nil))))) pss_nil)))
      (pss_one (ps_ret (pv 2)))), ?_⟩
    refine st_asg (R := R0) (P := Is .non) gv_c trivial fun v2 H1 e1 _ hv2 => ?_
    subst hv2
    have e1 := r0_ex e1
    have t1 := t.ex e1
    show tSeq (tFor _ _ _) _ _ [some (.ref g.p), some (.int (g.s : Int)), some .non, none, none, none, none] H1
    have zl : zs.length = g.m := by rw [t.al.1, rowsOf_len]
    refine st_forP (R := R0) (n := zs.length) (gp_enum (xs := zs) ?_) trivial (fun i σ' H' => ∃ s3 s4 s5 s6, σ' = [some (.ref g.p), some (.int (g.s : Int)), some (optV (lvOf g i)), s3, s4, s5, s6]) (fun H2 e2 => ⟨none, none, none, none, rfl⟩) (fun i x σ' H' H'' hi r' _ hp y => ?_) (fun σ' H' r' _ hp => ?_)
    · exact fun H2 e o Q k => gv_fld (R := R0) (gv_varI rfl) t1.obj id T.cl T.n_rows tabF_rows H2 e o _ fun v H3 e3 o3 p => k _ H3 e3 o3 ⟨rA, by rw [p], id, sq_of (r0_ex e3 _ _ (r0_ex e _ _ t1.rows))⟩
    · obtain ⟨s3, s4, s5, s6, rfl⟩ := hp
      obtain ⟨Tp, x1, x2, rfl, nT, rfl, hx1, hx2⟩ := y
      cases hx1
      have eT : Ex H' (upd H' Tp (.tup [.int (i : Int), x2])) := Ex.new nT
      refine g_pair ?_
      have eH := (r0_ex r').trans eT
      have t2 := t1.ex eH
      generalize upd H' Tp (.tup [.int (i : Int), x2]) = H2 at *
      have him : i < g.m := by rw [← zl]; exact hi
      have hrow : Lst R0 K (rowOf g.A g.m g.n g.bs i) x2 H2 := (t2.al.2 i x2 _ hx2 (rowsOf_get him)).l0
      have hsl : ∀ k, g.s < (rowOf g.A g.m g.n g.bs k).length := fun k => by rw [rowOf_len]; exact hs
      have bnd : ∀ k j, (ent g.A g.m g.bs k j).natAbs < lim := fun k j => big_lim (Nat.le_trans (hC.ent_le g.bs k j) (by decide))
      show tIfS _ _ _ _ [some (.ref g.p), some (.int (g.s : Int)), some (optV (lvOf g i)), some (.int (i : Int)), some x2, s5, s6] H2
      have step : lvOf g (i + 1) = lvStep (fun k => ent g.A g.m g.bs k g.s) (fun k => ent g.A g.m g.bs k (g.n + g.m)) (fun k => g.bs.getD k 0) (lvOf g i) i := rfl
      refine st_when1 (R := R0) (B := (· = decide (0 < ent g.A g.m g.bs i g.s))) ?_ trivial (fun H3 e3 _ hbb => ?_) (fun H3 e3 _ hbb => ?_)
      · refine gt_test (gv_I0 (g := fun i j => .bl (decide (j < i))) (gv_is (gv_lstNat (gv_slot mo_lstI trivial rfl hrow) (gv_varI rfl) (hsl i)) ?_) gv_c)
        rw [rowOf_get hs]
      · have e3 := r0_ex e3
        have hpos := of_decide_eq_true hbb.symm
        have t3 := t2.ex e3
        have hrow3 := mo_lstI (R := R0) x2 H2 H3 (Rel.ex e3) trivial hrow
        cases hlv : lvOf g i with
        | none =>
          rw [hlv] at step
          have step : lvOf g (i + 1) = some i := by rw [step]; simp [lvStep, hpos]
          refine st_if1 (R := R0) (B := (· = true)) (gt_B fun H4 e o Q k => ⟨_, rfl, k _ H4 (Rel.refl _) o rfl⟩) trivial (fun H4 e4 _ _ => ?_) (fun _ _ _ z => Bool.noConfusion z)
          refine st_asg1 (R := R0) (gv_varI rfl) trivial fun v H5 e5 _ hv => ⟨Rel.ex (eT.trans ((e3.trans (r0_ex e4)).trans (r0_ex e5))), trivial, some (.int (i : Int)), some x2, s5, s6, by rw [hv, step]; rfl⟩
        | some qq =>
          rw [hlv] at step
          have hq : qq < g.m := Nat.lt_trans (lvOf_lt g i qq hlv) him
          refine st_if1 (R := R0) (B := (· = false)) (gt_B fun H4 e o Q k => ⟨_, rfl, k _ H4 (Rel.refl _) o rfl⟩) trivial (fun _ _ _ z => Bool.noConfusion z) (fun H4 e4 _ _ => ?_)
          have e4 := r0_ex e4
          have t4 := t3.ex e4
          have hrow4 := mo_lstI (R := R0) x2 H3 H4 (Rel.ex e4) trivial hrow3
          -- near, far
          refine st_par (R := R0) (x := .int (ent g.A g.m g.bs i (g.n + g.m) * ent g.A g.m g.bs qq g.s)) (y := .int (ent g.A g.m g.bs qq (g.n + g.m) * ent g.A g.m g.bs i g.s)) ?_ trivial fun H5 e5 _ => ?_
          · exact ga_k (gv_mulW (gv_is (gv_lastL (gv_slot mo_lstI trivial rfl hrow4) row_ne) (by rw [rowOf_last])) (gv_is (gv_lstNat (gv_tabRow T t4 hq (gv_varI rfl) (gv_varI rfl)) (gv_varI rfl) (hsl qq)) (by rw [rowOf_get hs])) (bnd _ _) (bnd _ _))
              (ga_k (gv_mulW (gv_is (gv_lastL (gv_tabRow T t4 hq (gv_varI rfl) (gv_varI rfl)) row_ne) (by rw [rowOf_last])) (gv_is (gv_lstNat (gv_slot mo_lstI trivial rfl hrow4) (gv_varI rfl) (hsl i)) (by rw [rowOf_get hs])) (bnd _ _) (bnd _ _)) ga_n)
          have e5 := r0_ex e5
          have t5 := t4.ex e5
          show tIfS _ _ _ _ [some (.ref g.p), some (.int (g.s : Int)), some (.int (qq : Int)), some (.int (i : Int)), some x2, some (.int (ent g.A g.m g.bs i (g.n + g.m) * ent g.A g.m g.bs qq g.s)), some (.int (ent g.A g.m g.bs qq (g.n + g.m) * ent g.A g.m g.bs i g.s))] H5
          refine st_when1 (R := R0) (B := (· = decide (ent g.A g.m g.bs i (g.n + g.m) * ent g.A g.m g.bs qq g.s < ent g.A g.m g.bs qq (g.n + g.m) * ent g.A g.m g.bs i g.s ∨ ent g.A g.m g.bs i (g.n + g.m) * ent g.A g.m g.bs qq g.s = ent g.A g.m g.bs qq (g.n + g.m) * ent g.A g.m g.bs i g.s ∧ g.bs.getD i 0 < g.bs.getD qq 0))) ?_ trivial (fun H6 e6 _ hd => ?_) (fun H6 e6 _ hd => ?_)
          · generalize ent g.A g.m g.bs i (g.n + g.m) * ent g.A g.m g.bs qq g.s = X
            generalize ent g.A g.m g.bs qq (g.n + g.m) * ent g.A g.m g.bs i g.s = Y
            refine gt_is (gt_or (a := decide (X < Y)) (b := decide (X = Y) && decide (g.bs.getD i 0 < g.bs.getD qq 0)) (gt_test (gv_I0 (g := fun i j => .bl (decide (i < j))) (gv_varI rfl) (gv_varI rfl))) fun _ =>
              gt_and (a := decide (X = Y)) (b := decide (g.bs.getD i 0 < g.bs.getD qq 0)) (gt_is (gt_test (gv_eq (gv_varI rfl) (gv_varI rfl) rfl)) (decide_eq_decide.mpr ⟨fun z => V.int.inj z, fun z => by rw [z]⟩)) fun _ =>
                gt_is (gt_test (gv_I0 (g := fun i j => .bl (decide (i < j))) (gv_tabBas T t5 (by rw [hb]; exact him) (gv_varI rfl) (gv_varI rfl)) (gv_tabBas T t5 (by rw [hb]; exact hq) (gv_varI rfl) (gv_varI rfl)))) (decide_eq_decide.mpr ⟨fun z => by omega, fun z => by omega⟩)) ?_
            rw [Bool.decide_or, Bool.decide_and]
          · have hd := of_decide_eq_true hd.symm
            have step : lvOf g (i + 1) = some i := by rw [step]; simp only [lvStep]; rw [if_pos hpos]; exact if_pos hd
            refine st_asg1 (R := R0) (gv_varI rfl) trivial fun v H7 e7 _ hv => ⟨Rel.ex (eT.trans ((((e3.trans e4).trans e5).trans (r0_ex e6)).trans (r0_ex e7))), trivial, some (.int (i : Int)), some x2, some (.int (ent g.A g.m g.bs i (g.n + g.m) * ent g.A g.m g.bs qq g.s)), some (.int (ent g.A g.m g.bs qq (g.n + g.m) * ent g.A g.m g.bs i g.s)), by rw [hv, step]; rfl⟩
          · have hd := of_decide_eq_false hd.symm
            have step : lvOf g (i + 1) = some qq := by rw [step]; simp only [lvStep]; rw [if_pos hpos]; exact if_neg hd
            exact ⟨Rel.ex (eT.trans (((e3.trans e4).trans e5).trans (r0_ex e6))), trivial, some (.int (i : Int)), some x2, _, _, by rw [step]; rfl⟩
      · have hpos := of_decide_eq_false hbb.symm
        have step : lvOf g (i + 1) = lvOf g i := by rw [step]; simp only [lvStep]; rw [if_neg hpos]
        exact ⟨Rel.ex (eT.trans (r0_ex e3)), trivial, some (.int (i : Int)), some x2, _, _, by rw [step]⟩
    · obtain ⟨s3, s4, s5, s6, rfl⟩ := hp
      refine ⟨_, rfl, q _ H' (e1.trans (r0_ex r')) ?_⟩
      rw [zl]
end
end Tm
end
section
set_option Elab.async false
set_option linter.all false
set_option maxRecDepth 100000
set_option maxHeartbeats 4000000
set_option exponentiation.threshold 100000
namespace Tm
open PySem PySem.Spec PyProof.Rows L2
section
variable {R : Rel} {K : PySem.W.Frag} {σ : L2.St} {H : Hp} {ta tb : TE}
theorem gi_enum {ta : TA} {xs : List V} (h : GvA R ta σ H (fun vs H => ∃ a, vs = [.ref a] ∧ ¬ R.W a ∧ SqL K H a xs)) : GvIt R (iEnum K ta) σ H xs.length (YPair (fun i => some (.int (i : Nat))) (fun i => xs[i]?)) := fun H1 e o Q k => h H1 e o _ fun vs H2 e2 o2 ⟨a, h1, m, h2⟩ =>
  ⟨a, xs, h1, h2, k _ H2 (fun H => SqL K H a xs) e2 o2 walk_enum (fun H3 e3 o3 => mo_lst (Rel.rq e3) m h2) fun D H3 t => t.lst m h2⟩
end
section
variable {n : Nat} {rA cA b x : Addr} {d d' : Int}
theorem put_rows : putF "rows" (.ref x) (tabF n rA cA b d) = tabF n x cA b d := rfl
theorem put_cost : putF "cost" (.ref x) (tabF n rA cA b d) = tabF n rA x b d := rfl
theorem put_div : putF "divisor" (.int d') (tabF n rA cA b d) = tabF n rA cA b d' := rfl
end
section
variable {K : PySem.W.Frag} {C : Addr} {P : Program} {w : World} {mg : Str → Option Value} {base : Heap}
theorem zip_row {A : Nat → Nat → Int} {m n : Nat} {f g : Nat → Int} {h : Int → Int → Int} {N : Nat} : List.zipWith h ((List.range N).map f) ((List.range N).map g) = (List.range N).map fun j => h (f j) (g j) := by
  refine List.ext_getElem (by simp) fun j h1 h2 => ?_
  simp
theorem ixN_of {n j : Nat} (hj : j < n) : ixN n (j : Int) = some j := by
  unfold ixN
  rw [if_pos (by omega), if_pos (by omega)]
  simp
theorem st_fld {R : Rel} {σ : L2.St} {H : Hp} {tv : TE} {P : Pv} {D : L2.Ends} {u : TS} {i : Nat} {p : Addr} {f : Str} (hv : Gv R tv σ H P) (o : R.ok H) (hi : σ[i]? = some (some (.ref p))) (c : Cls K C) (n : NoAttr K C f)
    (k : ∀ y H1, R.r H H1 → R.ok H1 → P y H1 → ∃ dx fs, H1 p = some (.ins C dx fs) ∧ fs.length < 1000 ∧ u D σ (upd H1 p (.ins C dx (putF f y fs)))) : tSeq (sFld K (tVar i) tv f) u D σ H := hv H (Rel.refl H) o _ fun y H1 r1 o1 h => by
  obtain ⟨dx, fs, h1, h2, h3⟩ := k y H1 r1 o1 h
  exact ⟨_, hi, p, C, dx, fs, rfl, h1, c, n, h2, h3⟩
theorem LstB.ex {b : Addr} {xs : List Int} {v : V} {H H' : Hp} (h : LstB b xs v H) (e : Ex H H') : LstB b xs v H' := by
  obtain ⟨a, h1, h2, h3⟩ := h
  exact ⟨a, h1, h2, e _ _ h3⟩
theorem LstB.k {b : Addr} {xs : List Int} {v : V} {H : Hp} (h : LstB b xs v H) : Lst (Rk fun a => a = b) K xs v H := by
  obtain ⟨a, h1, h2, h3⟩ := h
  exact ⟨a, h1, h2, sq_of h3⟩
/-- self.rows[k], by its place -/
theorem gv_tabRowB {σ : L2.St} {H : Hp} {ta tb : TE} {A : Nat → Nat → Int} {m n : Nat} {bs : List Nat} {p b dx rA cA : Addr} {vs : List V} (T : Txt K mg C) (t : TabAt C A m n bs p b dx rA cA vs H) {k : Nat} (h : k < m) (ha : Gv R0 ta σ H (Is (.ref p))) (hb : Gv R0 tb σ H (Is (.int (k : Int)))) : Gv R0 (tOp (rIxL K) (tFld K ta "rows") tb) σ H (LstB b (rowOf A m n bs k)) :=
  gv_opI (gv_fld ha t.obj id T.cl T.n_rows tabF_rows) hb fun H1 e o Q q => by
    obtain ⟨v, h1, h2⟩ := t.row h
    exact ⟨rA, vs, (k : Int), v, rfl, rfl, sq_of (r0_ex e _ _ t.rows), atI_nat h1, q _ H1 (Rel.refl _) o (h2.ex (r0_ex e))⟩
/-! Table.pivot -/
structure PivG where
  g : TabG
  r : Nat
  bs' : List Nat
structure PivG.Ok (q : PivG) : Prop where
  cols : Cols q.g.cs q.g.wt
  good : Good q.g.A q.g.m q.g.n q.g.bs
  step : Step q.g.A q.g.m q.g.n q.g.bs q.r q.g.s q.bs'
theorem PivG.less (q : PivG) (k : q.Ok) {i : Nat} (hi : i < q.g.m) (h : i ≠ q.r) (z : Addr → Prop) (p dx : Addr) (fs : List (Str × V)) :
    lessOf ⟨z, p, dx, fs, det q.g.A q.g.m q.g.bs, rowOf q.g.A q.g.m q.g.n q.g.bs i, rowOf q.g.A q.g.m q.g.n q.g.bs q.r, q.g.s, ent q.g.A q.g.m q.g.bs q.r q.g.s⟩ = rowOf q.g.A q.g.m q.g.n q.bs' i := by
  unfold lessOf
  dsimp only
  have hs : q.g.s < q.g.n + q.g.m + 1 := by have := k.step.hs; omega
  rw [rowOf_get hs]
  unfold rowOf
  rw [zip_row (A := q.g.A) (m := 0) (n := 0)]
  refine List.map_congr_left fun j _ => ?_
  exact k.step.less k.cols.setup k.good hi h j
theorem PivG.lessC (q : PivG) (k : q.Ok) (z : Addr → Prop) (p dx : Addr) (fs : List (Str × V)) :
    lessOf ⟨z, p, dx, fs, det q.g.A q.g.m q.g.bs, costOf q.g.A q.g.m q.g.n q.g.bs, rowOf q.g.A q.g.m q.g.n q.g.bs q.r, q.g.s, ent q.g.A q.g.m q.g.bs q.r q.g.s⟩ = costOf q.g.A q.g.m q.g.n q.bs' := by
  unfold lessOf
  dsimp only
  have hs : q.g.s < q.g.n + q.g.m + 1 := by have := k.step.hs; omega
  rw [costOf_get hs]
  unfold costOf rowOf
  rw [zip_row (A := q.g.A) (m := 0) (n := 0)]
  refine List.map_congr_left fun j _ => ?_
  exact k.step.lessC k.cols.setup k.good j
theorem rowOf_bnd {cs : List (List Int)} {wt : List Int} (hC : Cols cs wt) (bs : List Nat) (k : Nat) : ∀ x ∈ rowOf (colA cs wt) wt.length cs.length bs k, x.natAbs ≤ 4 * bigB := fun x hx => by
  obtain ⟨j, _, rfl⟩ := List.mem_map.mp hx
  exact Nat.le_trans (hC.ent_le bs k j) (by decide)
theorem costOf_bnd {cs : List (List Int)} {wt : List Int} (hC : Cols cs wt) (bs : List Nat) : ∀ x ∈ costOf (colA cs wt) wt.length cs.length bs, x.natAbs ≤ 4 * bigB := fun x hx => by
  obtain ⟨j, _, rfl⟩ := List.mem_map.mp hx
  exact hC.cost_le bs j
abbrev N_pivot : List Str := ["self", "number", "at", "own", "head", "rows", "other", "row"]
theorem sc_T_pivot : FnScope N_pivot ["self", "number", "at"] (defScope s_T_pivot) := ⟨rfl, rfl, rfl, by decide +kernel, rfl, by decide +kernel, by decide +kernel⟩
abbrev spPivot (C : Addr) : Sp := fun vs H Q _ => ∃ q : PivG, (vs = [.ref q.g.p, .int (q.r : Int), .int (q.g.s : Int)] ∧ q.g.tab C H ∧ q.Ok) ∧
  ∀ H', Kp (fun a => a = q.g.p ∨ a = q.g.b) H H' → Tab C q.g.A q.g.m q.g.n q.bs' q.g.p q.g.b H' → Q .non H'
theorem do_T_pivot (T : Txt K mg C) : MetDoes P w K mg base 2 C "pivot" ["self", "number", "at"] (spPivot C) :=
  mk_met T.m_pivot sc_T_pivot (fun _ _ _ _ _ _ us hl => match us, hl with | [_, _, _], _ => rfl) (fun vs H Q E h => by obtain ⟨q, ⟨rfl, _⟩, _⟩ := h; rfl) fun f cdv A outer s H vs Q E hr h => by
    obtain ⟨pg, ⟨rfl, ⟨dx, rA, cA, zs, t⟩, ok⟩, q⟩ := h
    have nd := (sc_T_pivot).nd
    have pl := @PivG.less pg ok
    have plC := @PivG.lessC pg ok
    obtain ⟨hC, good, step⟩ := ok
    obtain ⟨g, r, bs'⟩ := pg
    dsimp only at t hC good step q pl plC
    refine ⟨_, pss_cons (ps_set (i := 3) nd rfl (Or.inr rfl) (pe_ix ix_list (pe_fld (pv 0) rfl) (pv 1) (fun _ _ => rfl)))
      (pss_cons (ps_set (i := 4) nd rfl (Or.inr rfl) (pe_ix ix_list (pv 3) (pv 2) (fun _ _ => rfl)))
      (pss_cons (ps_setLc (i := 5) (own := [("other", 6), ("row", 7)]) (g := gTup K 2 (gCons (gName 6) (gCons (gName 7) gNil))) (tt := tYes) rfl nd rfl rfl (sw_true rfl rfl rfl (by decide +kernel)) (pi_enum (by rfl) T.z_enumerate (pa_cons (pe_fld (pv 0) rfl) pa_nil))
        (blkOk_by (N := N_pivot) (sc := defScope s_T_pivot) (by decide +kernel)) (fun _ _ _ _ _ => pg_tup rfl (pgs_cons (pg_name (i := 6) nd rfl (Or.inl rfl) (by exact Or.inr rfl)) (pgs_cons (pg_name (i := 7) nd rfl (Or.inl rfl) (by exact Or.inr rfl)) pgs_nil))) (fun _ _ _ _ _ => pts_nil)
        (fun _ _ _ _ _ => pe_ifExp (pt_cmpR op_eq (pv 6) (pv 1) (nomark _)) (pv 7) (pe_met T.cl (do_T_less T) hr (pv 0) (pa_cons (pv 7) (pa_cons (pv 3) (pa_cons (pv 2) (pa_cons (pv 4) pa_nil)))))))
      (pss_cons (ps_fld (pv 0) (pv 5) rfl)
      (pss_cons (ps_fld (pv 0) (pe_met T.cl (do_T_less T) hr (pv 0) (pa_cons (pe_fld (pv 0) rfl) (pa_cons (pv 3) (pa_cons (pv 2) (pa_cons (pv 4) pa_nil))))) rfl)
      (pss_cons (ps_asg (pv 2) (pg_sub (pe_fld (pv 0) rfl) (pv 1) set_list))
      (pss_one (ps_fld (pv 0) (pv 4) rfl))))))), ?_⟩
    have hs : g.s < g.n + g.m + 1 := by have := step.hs; omega
    have hm4 := hC.m4
    have zl : zs.length = g.m := by rw [t.al.1, rowsOf_len]
    have hpb : g.p ≠ g.b := fun e => by have h1 := t.obj; have h2 := t.basis; rw [e, h2] at h1; cases h1
    refine st_asg (R := R0) (gv_tabRowB T t step.hr (gv_varI rfl) (gv_varI rfl)) trivial fun v3 H1 e1 _ hv3 => ?_
    have e1 := r0_ex e1
    have t1 := t.ex e1
    show tSeq _ _ _ [some (.ref g.p), some (.int (r : Int)), some (.int (g.s : Int)), some v3, none, none, none, none] H1
    refine st_asg (R := R0) (P := Is (.int (ent g.A g.m g.bs r g.s))) (gv_is (gv_lstNat (gv_slot mo_lstI trivial rfl hv3.l0) (gv_varI rfl) (by rw [rowOf_len]; exact hs)) (by rw [rowOf_get hs])) trivial fun v4 H2 e2 _ hv4 => ?_
    subst hv4
    have e2 := r0_ex e2
    have t2 := t1.ex e2
    have hv3' := hv3.ex e2
    show tSeq _ _ _ [some (.ref g.p), some (.int (r : Int)), some (.int (g.s : Int)), some v3, some (.int (ent g.A g.m g.bs r g.s)), none, none, none] H2
    have ok2 : (Rk fun a => a = g.b).ok H2 := fun a h => by rw [h]; exact ⟨_, t2.basis⟩
    have hbd : (ent g.A g.m g.bs r g.s).natAbs ≤ bigB := hC.ent_le g.bs r g.s
    have hdt : (det g.A g.m g.bs).natAbs ≤ bigB := hC.det_le g.bs
    -- the new rows
    refine st_asg (R := Rk fun a => a = g.b) (P := fun v H' => ∃ D ys, v = .ref D ∧ ¬ (Rk fun a => a = g.b).W D ∧ H' D = some (.lst ys) ∧ Fits (fun i => New ((Rk fun a => a = g.b).wth D) ((rowOf g.A g.m g.n bs' i).map V.int)) (idx (fun _ => true) zs.length) ys H') ?_ ok2 fun v5 H3 e3 _ hv5 => ?_
    · refine gv_lcP (R := Rk fun a => a = g.b) (fun _ => true) (fun R i => New R ((rowOf g.A g.m g.n bs' i).map V.int)) (gi_enum (xs := zs) ?_) (by rw [zl]; exact Nat.le_trans hm4 (by decide)) ok2 (fun _ _ => mo_new) (fun x y => rfl) fun D i x y H4 hi hx hy th o => ⟨gt_yes, fun _ => ?_⟩
      · exact fun H3 e o Q k => gv_fld (R := Rk fun a => a = g.b) (gv_varI rfl) t2.obj id T.cl T.n_rows tabF_rows H3 e o _ fun v H4 e4 o4 p => k _ H4 e4 o4 ⟨rA, by rw [p], t2.nr, sq_of (r0_ex e4 _ _ (r0_ex e _ _ t2.rows))⟩
      · cases hx
        have him : i < g.m := by rw [← zl]; exact hi
        obtain ⟨ay, rfl, ay1, ay2⟩ := t2.al.2 i y _ hy (rowsOf_get him)
        have ayD : ay ≠ D := th.ne_of ay2
        have ay4 := th.at ay1 ay2
        obtain ⟨ao, rfl, ao1, ao2⟩ := hv3'
        have aoD : ao ≠ D := th.ne_of ao2
        have ao4 := th.at ao1 ao2
        have p4 := th.at hpb t2.obj
        have pD : g.p ≠ D := th.ne_of t2.obj
        refine gv_if (A := (· = decide (i = r))) (gt_is (gt_test (gv_eq (gv_varI rfl) (gv_varI rfl) rfl)) (decide_eq_decide.mpr ⟨fun z => by have := V.int.inj z; omega, fun z => by rw [z]⟩)) (fun e => ?_) (fun e => ?_)
        · have e := of_decide_eq_true e.symm
          subst e
          have er : rowOf g.A g.m g.n bs' i = rowOf g.A g.m g.n g.bs i := List.map_congr_left fun j _ => step.same good j
          rw [er]
          exact gv_slot mo_new o rfl ⟨ay, rfl, fun z => by rcases z with z | z; exact ay1 z; exact ayD z, ay4⟩
        · have e := of_decide_eq_false e.symm
          have pl := pl him e (fun a => a = g.b ∨ a = D) g.p dx (tabF g.n rA cA g.b (det g.A g.m g.bs))
          refine gv_met (R := (Rk fun a => a = g.b).wth D) (pre := fun (g : LessG) vs H => preLess K C g vs H) (post := fun g => New (Rk g.z) ((lessOf g).map V.int)) ⟨fun a => a = g.b ∨ a = D, g.p, dx, tabF g.n rA cA g.b (det g.A g.m g.bs), det g.A g.m g.bs, rowOf g.A g.m g.n g.bs i, rowOf g.A g.m g.n g.bs r, g.s, ent g.A g.m g.bs r g.s⟩
            (gv_varI rfl) p4 id (tabF_no (by decide +kernel) (by decide +kernel) (by decide +kernel) (by decide +kernel) (by decide +kernel)) (ga_k (gv_varI rfl) (ga_k (gv_varI rfl) (ga_k (gv_varI rfl) (ga_k (gv_varI rfl) ga_n)))) (fun vs H5 e5 o5 hvs => ?_) (fun v H5 e5 o5 hv => ?_)
          · have e5 : Ex H4 H5 := fun a o h => e5 a o h id
            refine ⟨_, _, by rw [hvs], e5 _ _ p4, tabF_div, fun a ha => ?_, ⟨ay, rfl, fun z => by rcases z with z | z; exact ay1 z; exact ayD z, sq_of (e5 _ _ ay4)⟩, ⟨ao, rfl, fun z => by rcases z with z | z; exact ao1 z; exact aoD z, sq_of (e5 _ _ ao4)⟩, by rw [rowOf_len, rowOf_len], ?_, by rw [rowOf_len]; exact hs, good.pos, hdt, hbd, rowOf_bnd hC g.bs i, rowOf_bnd hC g.bs r⟩
            · rcases ha with ha | ha
              · exact o5.1 a ha
              · rw [ha]; exact o5.2
            · rw [rowOf_len]
              have := hC.few
              show g.cs.length + g.wt.length + 1 ≤ 1000
              omega
          · obtain ⟨a, h1, h2, h3⟩ := hv
            dsimp only at h2 h3
            rw [pl] at h3
            exact ⟨a, h1, h2, h3⟩
    · obtain ⟨D, ys, rfl, nDb, hD, fit⟩ := hv5
      have e3 : Ex H2 H3 := fun a o h => e3 a o h id
      have t3 := t2.ex e3
      have nDb : D ≠ g.b := nDb
      rw [idx_all (fun _ _ => rfl), zl] at fit
      have len5 : ∀ a b c d, (tabF g.n a b c d).length < 1000 := fun _ _ _ _ => by show 5 < 1000; decide
      have hDp : D ≠ g.p := fun e => by have h1 := t3.obj; rw [← e, hD] at h1; cases h1
      show tSeq _ _ _ [some (.ref g.p), some (.int (r : Int)), some (.int (g.s : Int)), some v3, some (.int (ent g.A g.m g.bs r g.s)), some (.ref D), none, none] H3
      refine ⟨_, rfl, _, rfl, g.p, C, dx, _, rfl, t3.obj, T.cl, T.n_rows, len5 _ _ _ _, ?_⟩
      rw [put_rows]
      have k4 : Kp (fun a => a = g.p) H3 (upd H3 g.p (.ins C dx (tabF g.n D cA g.b (det g.A g.m g.bs)))) := fun a o h n => by rw [upd_ne n]; exact h
      have o4 : (upd H3 g.p (.ins C dx (tabF g.n D cA g.b (det g.A g.m g.bs)))) g.p = some (.ins C dx (tabF g.n D cA g.b (det g.A g.m g.bs))) := upd_same
      generalize upd H3 g.p (.ins C dx (tabF g.n D cA g.b (det g.A g.m g.bs))) = H4 at *
      have cAp : cA ≠ g.p := fun e => by have h1 := t3.obj; have h2 := t3.cost; rw [e, h1] at h2; cases h2
      have c4 := k4 _ _ t3.cost cAp
      have b4 := k4 _ _ t3.basis (fun e => hpb e.symm)
      obtain ⟨ao, rfl, ao1, ao2⟩ := (hv3'.ex e3)
      have aop : ao ≠ g.p := fun e => by have h1 := t3.obj; rw [← e, ao2] at h1; cases h1
      have ao4 := k4 _ _ ao2 aop
      have ok4 : (Rk fun a => a = g.b).ok H4 := fun a h => by rw [h]; exact ⟨_, b4⟩
      dsimp only
      refine st_fld (R := Rk fun a => a = g.b) (P := New (Rk fun a => a = g.b) ((costOf g.A g.m g.n bs').map V.int)) (i := 0) (p := g.p) ?_ ok4 rfl T.cl T.n_cost fun v6 H5 e5 _ hv6 => ?_
      · refine gv_met (R := Rk fun a => a = g.b) (pre := fun (g : LessG) vs H => preLess K C g vs H) (post := fun g => New (Rk g.z) ((lessOf g).map V.int)) ⟨fun a => a = g.b, g.p, dx, tabF g.n D cA g.b (det g.A g.m g.bs), det g.A g.m g.bs, costOf g.A g.m g.n g.bs, rowOf g.A g.m g.n g.bs r, g.s, ent g.A g.m g.bs r g.s⟩
          (gv_varI rfl) o4 id (tabF_no (by decide +kernel) (by decide +kernel) (by decide +kernel) (by decide +kernel) (by decide +kernel)) (ga_k (gv_fld (gv_varI rfl) o4 id T.cl T.n_cost tabF_cost) (ga_k (gv_varI rfl) (ga_k (gv_varI rfl) (ga_k (gv_varI rfl) ga_n)))) (fun vs H5 e5 o5 hvs => ?_) (fun v H5 e5 o5 hv => ?_)
        · have e5 : Ex H4 H5 := fun a o h => e5 a o h id
          refine ⟨_, _, by rw [hvs], e5 _ _ o4, tabF_div, o5, ⟨cA, rfl, t3.nc, sq_of (e5 _ _ c4)⟩, ⟨ao, rfl, ao1, sq_of (e5 _ _ ao4)⟩, by rw [rowOf_len, costOf_len], ?_, by rw [costOf_len]; exact hs, good.pos, hdt, hbd, costOf_bnd hC g.bs, rowOf_bnd hC g.bs r⟩
          rw [costOf_len]
          have := hC.few
          show g.cs.length + g.wt.length + 1 ≤ 1000
          omega
        · obtain ⟨a, h1, h2, h3⟩ := hv
          dsimp only at h2 h3
          rw [plC] at h3
          exact ⟨a, h1, h2, h3⟩
      · obtain ⟨c', rfl, nc', hc'⟩ := hv6
        have nc' : c' ≠ g.b := nc'
        have e5 : Ex H4 H5 := fun a o h => e5 a o h id
        have o5 := e5 _ _ o4
        have cp' : c' ≠ g.p := fun e => by rw [← e, hc'] at o5; cases o5
        refine ⟨dx, _, o5, len5 _ _ _ _, ?_⟩
        rw [put_cost]
        have k6 : Kp (fun a => a = g.p) H5 (upd H5 g.p (.ins C dx (tabF g.n D c' g.b (det g.A g.m g.bs)))) := fun a o h n => by rw [upd_ne n]; exact h
        have o6 : (upd H5 g.p (.ins C dx (tabF g.n D c' g.b (det g.A g.m g.bs)))) g.p = some (.ins C dx (tabF g.n D c' g.b (det g.A g.m g.bs))) := upd_same
        generalize upd H5 g.p (.ins C dx (tabF g.n D c' g.b (det g.A g.m g.bs))) = H6 at *
        have b6 := k6 _ _ (e5 _ _ b4) (fun e => hpb e.symm)
        refine ⟨_, rfl, _, rfl, g.p, C, dx, _, _, rfl, o6, T.cl, T.n_basis, tabF_basis, _, rfl, g.b, _, (r : Int), r, rfl, rfl, b6, ixN_of (by rw [List.length_map, good.len]; exact step.hr), ?_⟩
        have k7 : Kp (fun a => a = g.b) H6 (upd H6 g.b (.lst ((g.bs.map fun i : Nat => V.int (i : Int)).set r (.int (g.s : Int))))) := fun a o h n => by rw [upd_ne n]; exact h
        have b7 : (upd H6 g.b (.lst ((g.bs.map fun i : Nat => V.int (i : Int)).set r (.int (g.s : Int))))) g.b = some (.lst (bs'.map fun i : Nat => V.int (i : Int))) := by
          rw [upd_same, step.eq, List.map_set]
        generalize upd H6 g.b (.lst ((g.bs.map fun i : Nat => V.int (i : Int)).set r (.int (g.s : Int)))) = H7 at *
        have o7 := k7 _ _ o6 hpb
        refine ⟨_, rfl, _, rfl, g.p, C, dx, _, rfl, o7, T.cl, T.n_divisor, len5 _ _ _ _, ?_⟩
        rw [put_div]
        have all : Kp (fun a => a = g.p ∨ a = g.b) H3 (upd H7 g.p (.ins C dx (tabF g.n D c' g.b (ent g.A g.m g.bs r g.s)))) := fun a o h n => by
          rw [upd_ne fun z => n (.inl z)]
          exact k7 _ _ (k6 _ _ (e5 _ _ (k4 _ _ h fun z => n (.inl z))) fun z => n (.inl z)) fun z => n (.inr z)
        refine q _ (fun a o h n => all a o ((e1.trans (e2.trans e3)) _ _ h) n) ⟨dx, D, c', ys, ?_, all _ _ hD (by rintro (z | z); exact hDp z; exact nDb z), ?_, ?_, nDb, nc', ?_⟩
        · rw [upd_same, step.det good]
        · rw [upd_ne cp']
          exact k7 _ _ (k6 _ _ hc' cp') nc'
        · rw [upd_ne fun z => hpb z.symm]
          exact b7
        · have al := fit
          refine ⟨by rw [fit.1, List.length_range, rowsOf_len], fun i y r' h1 h2 => ?_⟩
          have him : i < g.m := by rw [← rowsOf_len (A := g.A) (m := g.m) (n := g.n) (bs := bs')]; exact (List.getElem?_eq_some_iff.mp h2).1
          rw [rowsOf_get him] at h2
          have h2 := Option.some.inj h2
          subst h2
          obtain ⟨a, z1, z2, z3⟩ := fit.2 i i y (by simp [him]) h1
          have ab : a ≠ g.b := fun z => z2 (.inl z)
          have ap : a ≠ g.p := fun e => by have h1 := t3.obj; rw [← e, z3] at h1; cases h1
          exact ⟨a, z1, ab, all _ _ z3 (by rintro (z | z); exact ap z; exact ab z)⟩
end
end Tm
end
section
set_option Elab.async false
set_option linter.all false
set_option maxRecDepth 100000
set_option maxHeartbeats 4000000
set_option exponentiation.threshold 100000
namespace Tm
open PySem PySem.Spec PyProof.Rows L2
section
variable {R : Rel} {K : PySem.W.Frag} {σ : L2.St} {H : Hp} {ta tb te : TE}
/-- lists put together -/
theorem gv_catL {xs ys : List V} (ha : Gv R ta σ H (New R xs)) (hb : Gv R tb σ H (New R ys)) (hl : xs.length + ys.length ≤ 100000) : Gv R (tOp rCat ta tb) σ H (New R (xs ++ ys)) :=
  gv_op ha hb mo_new fun x y H1 e o ⟨a, h1, m1, h2⟩ ⟨b, h3, m2, h4⟩ Q k => ⟨a, b, xs, ys, h1, h3, h2, h4, sz_of hl, fun p np => k _ _ (Rel.ex (Ex.new np)) (R.ext _ _ (Ex.new np) o) ⟨p, rfl, R.notW o np, upd_same⟩⟩
theorem gv_lstK {ta : TA} {vs : List V} (ha : GvA R ta σ H (fun ws _ => ws = vs)) (hl : vs.length ≤ 1000) : Gv R (tLst ta) σ H (New R vs) :=
  gv_lst ha (fun ws H1 e => by rw [e]; omega) fun ws H1 p e o h np => ⟨p, rfl, R.notW o np, by rw [h]; exact upd_same⟩
theorem gv_repL {xs : List V} {k : Nat} (ha : Gv R ta σ H (New R xs)) (hb : Gv R tb σ H (Is (.int (k : Int)))) (hl : xs.length * k ≤ 100000) (hk : k ≤ 100000) : Gv R (tOp rRep ta tb) σ H (New R (List.replicate k xs).flatten) :=
  gv_op ha hb mo_new fun x y H1 e o ⟨a, h1, m1, h2⟩ q Q c => ⟨a, (k : Int), xs, h1, q, h2, by omega, by omega, by rw [Int.toNat_natCast]; exact sz_of hl, fun p np => c _ _ (Rel.ex (Ex.new np)) (R.ext _ _ (Ex.new np) o) ⟨p, rfl, R.notW o np, by rw [Int.toNat_natCast]; exact upd_same⟩⟩
theorem gv_lenL {xs : List V} (ha : Gv R ta σ H (fun v H => ∃ a, v = .ref a ∧ SqL K H a xs)) : Gv R (tCB (fun xs H Q => ∃ p ys, xs = [.ref p] ∧ (SqL K H p ys ∨ SqT K H p ys) ∧ Q (.int ys.length) H) (tCons ta tNil)) σ H (Is (.int xs.length)) :=
  gv_len (ha.imp fun v H' o ⟨a, h1, h2⟩ => ⟨a, _, h1, .inl h2, rfl⟩)
end
/-- one argument -/
theorem Gv.go1 {R : Rel} {σ : L2.St} {H : Hp} {te : TE} {P : Pv} (g : Gv R te σ H P) (o : R.ok H) {Q : List V → Hp → Prop} (k : ∀ v H2, R.r H H2 → R.ok H2 → P v H2 → Q [v] H2) : tCons te tNil σ H Q := g H (Rel.refl H) o _ k
/-! the first rows -/
def markOf (m k : Nat) : List Int := (List.range m).map fun o => if k = o then 1 else 0
def row0 (cs : List (List Int)) (wt : List Int) (k : Nat) : List Int := cs.map (fun c => c.getD k 0) ++ markOf wt.length k ++ [wt.getD k 0]
section
variable {cs : List (List Int)} {wt : List Int}
theorem row0_is (hC : Cols cs wt) {k : Nat} (hk : k < wt.length) : rowOf (colA cs wt) wt.length cs.length (bs0 cs.length wt.length) k = row0 cs wt k := by
  unfold rowOf row0
  refine List.ext_getElem (by simp [markOf]; omega) fun j h1 h2 => ?_
  have hj : j < cs.length + wt.length + 1 := by simpa using h1
  rw [List.getElem_map, List.getElem_range, ent_bs0 hC.setup hk]
  by_cases a : j < cs.length
  · rw [List.getElem_append_left (by simp; omega), List.getElem_append_left (by simp; omega), List.getElem_map, colA_col a]
    simp [List.getD_eq_getElem?_getD, a]
  · by_cases b : j < cs.length + wt.length
    · obtain ⟨d, rfl⟩ : ∃ d, j = cs.length + d := ⟨j - cs.length, by omega⟩
      have hd : d < wt.length := by omega
      rw [colA_mark hd]
      have e : (cs.map (fun c => c.getD k 0) ++ markOf wt.length k ++ [wt.getD k 0])[cs.length + d]? = some (unit d k) := by
        rw [List.append_assoc, List.getElem?_append_right (by simp), List.length_map, show cs.length + d - cs.length = d by omega, List.getElem?_append_left (by simp [markOf]; exact hd)]
        simp [markOf, hd, unit]
      rw [List.getElem?_eq_getElem h2] at e
      exact (Option.some.inj e).symm
    · have e : j = cs.length + wt.length := by omega
      subst e
      rw [List.getElem_append_right (by simp [markOf]), colA_want]
      simp
theorem sum_range (f : Nat → Int) : ∀ m : Nat, ((List.range m).map f).sum = sm m f
  | 0 => rfl
  | m + 1 => by
    rw [List.range_succ, List.map_append, List.sum_append, sum_range f m]
    simp [sm]
theorem cost0_is (hC : Cols cs wt) : costOf (colA cs wt) wt.length cs.length (bs0 cs.length wt.length) = (List.range (cs.length + wt.length + 1)).map fun j => ((List.range wt.length).map fun k => (row0 cs wt k).getD j 0).sum := by
  unfold costOf
  refine List.map_congr_left fun j hj => ?_
  rw [cost_bs0 hC.setup, sum_range]
  refine sm_congr fun k hk => ?_
  rw [← row0_is hC hk, rowOf_get (List.mem_range.mp hj), ent_bs0 hC.setup hk]
theorem row0_len (k : Nat) : (row0 cs wt k).length = cs.length + wt.length + 1 := by simp [row0, markOf]; omega
end
/-- a list of ints; a list of such -/
def PL (xs : List Int) : Pv := fun v H => ∃ a, v = .ref a ∧ H a = some (.lst (xs.map V.int))
def PLL (rs : List (List Int)) : Pv := fun v H => ∃ a vs, v = .ref a ∧ H a = some (.lst vs) ∧ Al PL rs vs H
/-- what may change: the lists of z -/
def Rm (z : Addr → Prop) : Rel where
  M := z
  W := z
  sub _ h := h
  ok H := ∀ a, z a → ∃ xs, H a = some (.lst xs)
  sep H a o m := .inr (.inl (o a m))
  ext H H' e o := fun a m => (o a m).imp fun xs h => e a _ h
  put H p u o m := fun a q => (o a q).imp fun xs h => by rw [upd_ne fun z => m (by rw [← z]; exact q)]; exact h
section
variable {R : Rel} {D : Addr} {H H' : Hp} {xs : List V} {v : V}
theorem new_thru (t : Thru R D H H') (h : New R xs v H) : New (R.wth D) xs v H' := by
  obtain ⟨a, h1, m, h2⟩ := h
  exact ⟨a, h1, fun z => z.elim m fun e => t.ne_of h2 e, t.at m h2⟩
/-- a list of lists -/
def LL (R : Rel) (rs : List (List Int)) : Pv := fun v H => ∃ a vs, v = .ref a ∧ ¬ R.W a ∧ H a = some (.lst vs) ∧ Al (fun r => New R (r.map V.int)) rs vs H
theorem al_new {rs : List (List Int)} {vs : List V} (e : R.q H H') (o : R.ok H) (h : Al (fun r => New R (r.map V.int)) rs vs H) : Al (fun r => New R (r.map V.int)) rs vs H' := al_mono h fun r y p => mo_new y H H' e o p
theorem mo_LL {rs : List (List Int)} : Mo R (LL R rs) := fun v H H' e o ⟨a, vs, h1, m, h2, h3⟩ => ⟨a, vs, h1, m, e a _ h2 m, al_new e o h3⟩
theorem al_mono' {Pe Pf : List Int → Pv} {rs : List (List Int)} {vs : List V} (h : Al Pe rs vs H) (m : ∀ r y, Pe r y H → Pf r y H') : Al Pf rs vs H' := ⟨h.1, fun i y r h1 h2 => m r y (h.2 i y r h1 h2)⟩
theorem al_snoc {Pe : List Int → Pv} {rs : List (List Int)} {vs : List V} {r : List Int} (h : Al Pe rs vs H) (p : Pe r v H) : Al Pe (rs ++ [r]) (vs ++ [v]) H := al_append h (al_one p)
end
section
variable {K : PySem.W.Frag} {C : Addr} {P : Program} {w : World} {mg : Str → Option Value} {base : Heap}
abbrev N_init : List Str := ["self", "columns", "wanted", "many", "at", "marks", "other", "column", "row"]
theorem sc_T_init : FnScope N_init ["self", "columns", "wanted"] (defScope s_T_init) := ⟨rfl, rfl, rfl, by decide +kernel, rfl, by decide +kernel, by decide +kernel⟩
abbrev spInit (K : PySem.W.Frag) (C : Addr) : Sp := fun vs H Q _ => ∃ (p dx : Addr) (c u : V) (cs : List (List Int)) (wt : List Int), vs = [.ref p, c, u] ∧ H p = some (.ins C dx []) ∧ PLL cs c H ∧ PL wt u H ∧ Cols cs wt ∧
  ∀ H' b, Kp (fun a => a = p) H H' → H b = none → Tab C (colA cs wt) wt.length cs.length (bs0 cs.length wt.length) p b H' → Q .non H'
/-- the statement that fills the costs -/
def costStmt : Stmt := (defBody s_T_init).getD 4 (.Pass ⟨0, 0, 0, 0⟩)
def asgVal : Stmt → Expr
  | .Assign _ v _ => v
  | _ => .Constant .none 0 ⟨0, 0, 0, 0⟩
end
section
variable {K : PySem.W.Frag} {C : Addr} {P : Program} {w : World} {mg : Str → Option Value} {base : Heap}
theorem do_T_init (T : Txt K mg C) : ∃ f fd, FnOk P w K mg base CX0 1 f fd ["self", "columns", "wanted"] (spInit K C) ∧ Mk K C f ∧ Binds K fd ["self", "columns", "wanted"] [] := by
  obtain ⟨f, fd, F, g⟩ := T.m_init.ex
  refine ⟨f, fd, F.ok sc_T_init (fun vs H Q E h => by obtain ⟨p, dx, c, u, cs, wt, rfl, _⟩ := h; rfl) fun cdv A outer s H vs Q E hr h => ?_, g, F.bindsN (fun _ _ _ _ _ _ us hl => match us, hl with | [_, _, _], _ => rfl)⟩
  obtain ⟨p, dx, c, u, cs, wt, rfl, hp, hc, hw, hC, q⟩ := h
  have nd := (sc_T_init).nd
  suffices hh : ∃ t, PSs (cxOf CX0 P w K mg base N_init "Table.__init__" (defScope s_T_init) f cdv A outer s H E).nox (defBody s_T_init) t ∧ t { nx := fun _ H' => Q .non H', rt := Q } (start N_init [.ref p, c, u]) H from by
    obtain ⟨t, h1, h2⟩ := hh
    exact ⟨t, h1.nox, h2⟩
  refine ⟨_, pss_cons (ps_set (i := 3) nd rfl (Or.inl rfl) (pe_callB call_len_seq (by rfl) T.z_len boot_len (pa_cons (pv 2) pa_nil)))
    (pss_cons (ps_fld (pv 0) (pe_callB call_len_seq (by rfl) T.z_len boot_len (pa_cons (pv 1) pa_nil)) rfl)
    (pss_cons (ps_fld (pv 0) (pe_lst pa_nil) rfl)
    (pss_cons (ps_for PassesOwn.never rfl (pi_range1 (by rfl) T.z_range (pa_cons (pv 3) pa_nil)) (pg_name (i := 4) nd rfl (Or.inr rfl))
      (pss_cons (ps_setLc (i := 5) (own := [("other", 6)]) (g := gName 6) (tt := tYes) rfl nd rfl rfl (sw_true rfl rfl rfl (by decide +kernel)) (pi_range1 (by rfl) T.z_range (pa_cons (pv 3) pa_nil))
          (blkOk_by (N := N_init) (sc := defScope s_T_init) (by decide +kernel)) (fun _ _ _ _ _ => pg_name (i := 6) nd rfl (Or.inl rfl)) (fun _ _ _ _ _ => pts_nil) (fun _ _ _ _ _ => pe_ifExp (pt_cmpR op_eq (pv 4) (pv 6) (nomark _)) pe_int pe_int))
      (pss_one (ps_expr (pe_bm PySem.F.plainAttrs_list PySem.F.slot_list_append PySem.F.type_list_append mt_append (pe_fld (pv 0) rfl)
          (pa_cons (pe_op op_cat (pe_op op_cat (pe_lc (own := [("column", 7)]) (g := gName 7) (tt := tYes) rfl nd (pi_list (pv 1)) (blkOk_by (N := N_init) (sc := defScope s_T_init) (by decide +kernel)) (fun _ _ _ _ _ => pg_name (i := 7) nd rfl (Or.inl rfl)) (fun _ _ _ _ _ => pts_nil)
              (fun _ _ _ _ _ => pe_ix (r := rIxL K) ix_list (pv 7) (pv 4) (fun _ _ => rfl))) (pv 5)) (pe_lst (pa_cons (pe_ix ix_list (pv 2) (pv 4) (fun _ _ => rfl)) pa_nil))) pa_nil))))))
    (pss_cons (ps_fld (pv 0) (pe_lc (own := [("at", 4)]) (g := gName 4) (tt := tYes) rfl nd (pi_range1 (by rfl) T.z_range (pa_cons (pe_op op_add (pe_op op_add (pe_fld (pv 0) rfl) (pv 3)) pe_int) pa_nil)) (blkOk_by (N := N_init) (sc := defScope s_T_init) (by decide +kernel)) (fun _ _ _ _ _ => pg_name (i := 4) nd rfl (Or.inr rfl)) (fun _ _ _ _ _ => pts_nil)
        (fun _ _ _ _ _ => pe_callB (id := "sum") (r := rSum K) (cr_sum rfl) (by rfl) T.z_sum (by decide +kernel) (pa_cons (pe_lc (own := [("row", 8)]) (g := gName 8) (tt := tYes) (wi := iList K (tFld K (tVar 0) "rows")) (te := tOp (rIxL K) (tVar 8) (tVar 4)) rfl nd (pi_list (pe_fld (pv 0) rfl)) (blkOk_by (N := N_init) (sc := relS (lcScope (asgVal costStmt)) (defScope s_T_init)) (by decide +kernel)) (fun _ _ _ _ _ => pg_name (i := 8) nd rfl (Or.inl rfl)) (fun _ _ _ _ _ => pts_nil)
          (fun _ _ _ _ _ => pe_ix (r := rIxL K) ix_list (pv 8) (pv 4) (fun _ _ => rfl))) pa_nil))) rfl)
    (pss_cons (ps_fld (pv 0) (pe_lc (own := [("at", 4)]) (g := gName 4) (tt := tYes) rfl nd (pi_range1 (by rfl) T.z_range (pa_cons (pv 3) pa_nil)) (blkOk_by (N := N_init) (sc := defScope s_T_init) (by decide +kernel)) (fun _ _ _ _ _ => pg_name (i := 4) nd rfl (Or.inl rfl)) (fun _ _ _ _ _ => pts_nil)
        (fun _ _ _ _ _ => pe_op op_add (show PE _ _ (tFld K (tVar 0) "real") from pe_fld (pv 0) rfl) (pv 4))) rfl)
    (pss_one (ps_fld (pv 0) pe_int rfl))))))), ?_⟩
  have hm4 := hC.m4
  have hfew := hC.few
  obtain ⟨ca, cv, rfl, hca, hcl⟩ := hc
  obtain ⟨ua, rfl, hua⟩ := hw
  have pn : ∀ {H : Hp} {a : Addr} {fs : List (Str × V)} {xs : List V}, H p = some (.ins C dx fs) → H a = some (.lst xs) → a ≠ p := fun h1 h2 e => by rw [e, h1] at h2; cases h2
  -- many, real
  refine st_asg (R := R0) (P := Is (.int (wt.length : Int))) (gv_is (gv_lenL (xs := wt.map V.int) (gv_var rfl fun H1 e _ => ⟨ua, rfl, sq_of (r0_ex e _ _ hua)⟩)) (by rw [List.length_map])) trivial fun v3 H1 e1 _ hv3 => ?_
  subst hv3
  have e1 := r0_ex e1
  have hca1 := e1 _ _ hca
  have hua1 := e1 _ _ hua
  have hp1 := e1 _ _ hp
  have hcl1 : Al PL cs cv H1 := al_mono hcl fun r y ⟨a, h1, h2⟩ => ⟨a, h1, e1 _ _ h2⟩
  show tSeq (sFld K (tVar 0) _ "real") _ _ [some (.ref p), some (.ref ca), some (.ref ua), some (.int (wt.length : Int)), none, none, none, none, none] H1
  have lcv : cv.length = cs.length := hcl.1
  refine st_fld (R := R0) (P := Is (.int (cs.length : Int))) (i := 0) (p := p) (C := C) (gv_is (gv_lenL (xs := cv) (gv_var rfl fun H1 e _ => ⟨ca, rfl, sq_of (r0_ex e _ _ hca1)⟩)) (by rw [lcv])) trivial rfl T.cl T.n_real fun y H2 e2 _ hy => ⟨dx, [], r0_ex e2 _ _ hp1, by decide, ?_⟩
  subst hy
  have e2 := r0_ex e2
  have k3 : Kp (fun a => a = p) H (upd H2 p (.ins C dx (putF "real" (.int (cs.length : Int)) []))) := fun a o h n => by rw [upd_ne n]; exact e2 _ _ (e1 _ _ h)
  have p3 : (upd H2 p (.ins C dx (putF "real" (.int (cs.length : Int)) []))) p = some (.ins C dx [("real", .int (cs.length : Int))]) := upd_same
  generalize upd H2 p (.ins C dx (putF "real" (.int (cs.length : Int)) [])) = H3 at *
  clear hca1 hua1 hp1 hcl1 e1 e2
  have hca3 := k3 _ _ hca (pn hp hca)
  have hua3 := k3 _ _ hua (pn hp hua)
  have hcl3 : Al PL cs cv H3 := al_mono hcl fun r y ⟨a, h1, h2⟩ => ⟨a, h1, k3 _ _ h2 (pn hp h2)⟩
  -- rows
  refine ⟨Nat.zero_le _, fun rA nA => ⟨_, rfl, p, C, dx, _, rfl, Ex.new nA _ _ p3, T.cl, T.n_rows, (by show 1 < 1000; decide), ?_⟩⟩
  have pA : p ≠ rA := ne_of_none p3 nA
  have k5 : Kp (fun a => a = p) H3 (upd (upd H3 rA (.lst [])) p (.ins C dx (putF "rows" (.ref rA) [("real", .int (cs.length : Int))]))) := fun a o h n => by rw [upd_ne n, upd_ne (ne_of_none h nA)]; exact h
  have p5 : (upd (upd H3 rA (.lst [])) p (.ins C dx (putF "rows" (.ref rA) [("real", .int (cs.length : Int))]))) p = some (.ins C dx [("real", .int (cs.length : Int)), ("rows", .ref rA)]) := upd_same
  have a5 : (upd (upd H3 rA (.lst [])) p (.ins C dx (putF "rows" (.ref rA) [("real", .int (cs.length : Int))]))) rA = some (.lst []) := by rw [upd_ne fun z => pA z.symm]; exact upd_same
  generalize upd (upd H3 rA (.lst [])) p (.ins C dx (putF "rows" (.ref rA) [("real", .int (cs.length : Int))])) = H5 at *
  have hcc5 : LL (Rk fun a => a = rA) cs (.ref ca) H5 := ⟨ca, cv, rfl, ne_of_none hca3 nA, k5 _ _ hca3 (pn p3 hca3), al_mono' hcl3 fun r y ⟨a, h1, h2⟩ => ⟨a, h1, ne_of_none h2 nA, k5 _ _ h2 (pn p3 h2)⟩⟩
  have huu5 : New (Rk fun a => a = rA) (wt.map V.int) (.ref ua) H5 := ⟨ua, rfl, ne_of_none hua3 nA, k5 _ _ hua3 (pn p3 hua3)⟩
  have ok5 : (Rm fun a => a = rA).ok H5 := fun a h => by rw [h]; exact ⟨_, a5⟩
  dsimp only
  show tSeq (tFor _ _ _) _ _ [some (.ref p), some (.ref ca), some (.ref ua), some (.int (wt.length : Int)), none, none, none, none, none] H5
  refine st_forP (R := Rm fun a => a = rA) (n := wt.length) (Y := YFn fun i => .int (0 + i)) ?_ ok5 (fun i σ' H' => ∃ s4 s5 zs, σ' = [some (.ref p), some (.ref ca), some (.ref ua), some (.int (wt.length : Int)), s4, s5, none, none, none] ∧ H' rA = some (.lst zs) ∧ Al (fun r => New (Rk fun a => a = rA) (r.map V.int)) ((List.range i).map (row0 cs wt)) zs H') (fun H6 e6 => ⟨none, none, [], rfl, e6 _ _ a5, al_nil⟩) (fun i x σ' H' H'' hi r' o' hp' y => ?_) (fun σ' H6 r' o' hp' => ?_)
  · have := gp_rng1 (R := Rm fun a => a = rA) (σ := [some (.ref p), some (.ref ca), some (.ref ua), some (.int (wt.length : Int)), none, none, none, none, none]) (H := H5) (ta := tCons (tVar 3) tNil) (n := (wt.length : Int)) (ga_k (gv_varI rfl) ga_n) (by omega)
    rw [Int.toNat_natCast] at this
    exact this
  · obtain ⟨s4, s5, zs, rfl, hz, alz⟩ := hp'
    obtain ⟨rfl, rfl⟩ := y
    refine g_name ?_
    dsimp only
    rw [show (0 : Int) + (i : Int) = (i : Int) by omega]
    have hp' := r' _ _ p5 pA
    have okk : (Rk fun a => a = rA).ok H'' := o'
    have hcc := mo_LL (R := Rk fun a => a = rA) _ H5 H'' r' ok5 hcc5
    have huu := mo_new (R := Rk fun a => a = rA) _ H5 H'' r' ok5 huu5
    show tSeq _ _ _ [some (.ref p), some (.ref ca), some (.ref ua), some (.int (wt.length : Int)), some (.int (i : Int)), s5, none, none, none] H''
    refine st_asg (R := Rk fun a => a = rA) (P := New (Rk fun a => a = rA) ((markOf wt.length i).map V.int)) ?_ okk fun v5 H6 e6 o6 hv5 => ?_
    · have hit := gi_rng1 (R := Rk fun a => a = rA) (σ := [some (.ref p), some (.ref ca), some (.ref ua), some (.int (wt.length : Int)), some (.int (i : Int)), s5, none, none, none]) (H := H'') (ta := tCons (tVar 3) tNil) (n := (wt.length : Int)) (ga_k (gv_varI rfl) ga_n) (by omega)
      rw [Int.toNat_natCast] at hit
      refine Gv.imp (gv_new (f := fun _ => true) (n := wt.length) (h := fun o => .int (if i = o then 1 else 0)) (gv_lcF (f := fun _ => true) (Pe := fun _ o => Is (.int (if i = o then 1 else 0))) (h := fun j => .int (0 + (j : Int))) hit (by omega) okk (fun _ _ => mo_is) (fun x => rfl) fun D j H7 hj t o => ⟨gt_yes, fun _ => ?_⟩)) fun v H' _ p => ?_
      · refine gv_if (A := (· = decide (i = j))) (gt_is (gt_test (gv_eq (gv_varI rfl) (gv_varI rfl) rfl)) (decide_eq_decide.mpr ⟨fun z => by have := V.int.inj z; omega, fun z => by rw [z, Int.zero_add]⟩)) (fun e => ?_) (fun e => ?_)
        · rw [if_pos (of_decide_eq_true e.symm)]; exact gv_c
        · rw [if_neg (of_decide_eq_false e.symm)]; exact gv_c
      · rw [idx_all (fun _ _ => rfl)] at p
        unfold markOf
        rw [List.map_map]
        exact p
    · have e6 : Ex H'' H6 := fun a o h => e6 a o h id
      have hz6 := e6 _ _ hz
      have p6 := e6 _ _ hp'
      have hcc6 := mo_LL (R := Rk fun a => a = rA) _ H'' H6 (Rel.ex e6) okk hcc
      have huu6 := mo_new (R := Rk fun a => a = rA) _ H'' H6 (Rel.ex e6) okk huu
      obtain ⟨ca', cv', h1, nca, hca6, hcl6⟩ := hcc6
      cases h1
      have lcv' : cv'.length = cs.length := hcl6.1
      show tDrop _ _ [some (.ref p), some (.ref ca), some (.ref ua), some (.int (wt.length : Int)), some (.int (i : Int)), some v5, none, none, none] H6
      refine ⟨_, rfl, p, C, dx, _, _, rfl, p6, T.cl, T.n_rows, (lk_past (by decide +kernel)).trans lk_here, .inl ⟨rfl, _, sq_of hz6⟩, ?_⟩
      have ml : (markOf wt.length i).length = wt.length := by simp [markOf]
      refine Gv.go1 (R := Rk fun a => a = rA) (P := New (Rk fun a => a = rA) ((row0 cs wt i).map V.int)) ?_ o6 fun v H7 e7 o7 hv => ?_
      · have er : (row0 cs wt i).map V.int = (cs.map (fun c => V.int (c.getD i 0)) ++ (markOf wt.length i).map V.int) ++ [V.int (wt.getD i 0)] := by simp [row0]
        rw [er]
        refine gv_catL (gv_catL ?_ (gv_slot mo_new o6 rfl hv5) (by simp; omega)) (gv_lstK (ga_k (gv_ixL (xs := wt) ((gv_slot mo_new o6 rfl huu6).imp fun v H' o p => p.lst) (gv_varI rfl) (at_nat hi)) ga_n) (by simp)) (by simp; omega)
        refine Gv.imp (gv_new (f := fun _ => true) (n := cv'.length) (h := fun j => .int ((cs.getD j []).getD i 0)) (gv_lcN (f := fun _ => true) (Pe := fun _ j => Is (.int ((cs.getD j []).getD i 0))) (gi_lst (xs := cv') (gv_var rfl fun H1 e _ => ⟨ca, rfl, nca, sq_of (e _ _ hca6 id)⟩)) (by omega) o6 (fun _ _ => mo_is) (fun x => rfl) fun D j x H7 hx t o => ⟨gt_yes, fun _ => ?_⟩)) fun v H' _ p => ?_
        · have hj : j < cs.length := by rw [← lcv']; exact (List.getElem?_eq_some_iff.mp hx).1
          have hc := new_thru t (hcl6.2 j x cs[j] hx (List.getElem?_eq_getElem hj))
          have ec : cs.getD j [] = cs[j] := by simp [List.getD_eq_getElem?_getD, hj]
          rw [ec]
          exact gv_ixL (xs := cs[j]) ((gv_slot mo_new o rfl hc).imp fun v H' o p => p.lst) (gv_varI rfl) (at_nat (by rw [hC.len _ (List.getElem_mem hj)]; exact hi))
        · rw [idx_all (fun _ _ => rfl), lcv'] at p
          rw [map_range_rows (fun r => V.int (r.getD i 0)) cs] at p
          exact p
      · have e7 : Ex H6 H7 := fun a o h => e7 a o h id
        have hz7 := e7 _ _ hz6
        have lz : zs.length = i := by rw [alz.1]; simp
        refine ⟨rA, zs, v, rfl, rfl, hz7, sz_lt (by omega), ?_⟩
        have kk : Kp (fun a => a = rA) H'' (upd H7 rA (.lst (zs ++ [v]))) := fun a o h n => by rw [upd_ne n]; exact e7 _ _ (e6 _ _ h)
        refine ⟨kk, fun a h => by rw [h]; exact ⟨_, upd_same⟩, some (.int (i : Int)), some v5, zs ++ [v], rfl, upd_same, ?_⟩
        rw [List.range_succ, List.map_append]
        exact al_snoc (al_new (R := Rk fun a => a = rA) kk okk alz) (mo_new (R := Rk fun a => a = rA) v H7 _ (fun a o h n => by rw [upd_ne n]; exact h) o7 hv)
  · obtain ⟨s4, s5, zs, rfl, hz, alz⟩ := hp'
    have p6 := r' _ _ p5 pA
    have lz : zs.length = wt.length := by rw [alz.1]; simp
    have z0 : Al (fun r => New R0 (r.map V.int)) ((List.range wt.length).map (row0 cs wt)) zs H6 := al_mono' alz fun r y ⟨a, h1, _, h2⟩ => ⟨a, h1, id, h2⟩
    show tSeq (sFld K (tVar 0) _ "cost") _ _ [some (.ref p), some (.ref ca), some (.ref ua), some (.int (wt.length : Int)), s4, s5, none, none, none] H6
    refine st_fld (R := R0) (P := New R0 ((costOf (colA cs wt) wt.length cs.length (bs0 cs.length wt.length)).map V.int)) (i := 0) (p := p) (C := C) ?_ trivial rfl T.cl T.n_cost fun y H7 e7 _ hy => ?_
    · rw [cost0_is hC, List.map_map]
      have hit := gi_rng1 (R := R0) (σ := [some (.ref p), some (.ref ca), some (.ref ua), some (.int (wt.length : Int)), s4, s5, none, none, none]) (H := H6) (ta := tCons (tOp (rI0 fun i j => .int (i + j)) (tOp (rI0 fun i j => .int (i + j)) (tFld K (tVar 0) "real") (tVar 3)) (tC (.int 1))) tNil) (n := (cs.length : Int) + (wt.length : Int) + 1)
        (ga_k (gv_add (gv_add (gv_fld (gv_varI rfl) p6 id T.cl T.n_real lk_here) (gv_varI rfl)) gv_c) ga_n) (by omega)
      rw [show ((cs.length : Int) + (wt.length : Int) + 1).toNat = cs.length + wt.length + 1 by omega] at hit
      refine Gv.imp (gv_new (f := fun _ => true) (n := cs.length + wt.length + 1) (h := fun j => .int ((List.range wt.length).map fun k => (row0 cs wt k).getD j 0).sum) (gv_lcF (f := fun _ => true) (Pe := fun _ j => Is (.int ((List.range wt.length).map fun k => (row0 cs wt k).getD j 0).sum)) (h := fun j => .int (0 + (j : Int))) hit (by omega) trivial (fun _ _ => mo_is) (fun x => rfl) fun D j H8 hj t o => ⟨gt_yes, fun _ => ?_⟩)) fun v H' _ p => ?_
      · refine gv_sum (Gv.imp (gv_new (f := fun _ => true) (n := zs.length) (h := fun k => .int ((row0 cs wt k).getD j 0)) (gv_lcN (f := fun _ => true) (Pe := fun _ k => Is (.int ((row0 cs wt k).getD j 0))) (gi_lst (xs := zs) ?_) (by omega) o (fun _ _ => mo_is) (fun x => rfl) fun D2 k x H9 hx t2 o2 => ⟨gt_yes, fun _ => ?_⟩)) fun v H' _ p => ?_)
        · have p8 := t.at (R := R0) id p6
          have pD : p ≠ D := t.ne_of p6
          have z8 := t.at (R := R0) id hz
          have zD : rA ≠ D := t.ne_of hz
          exact fun H1 e1 o1 Q k => gv_fld (R := R0.wth D) (gv_varI rfl) p8 id T.cl T.n_rows ((lk_past (by decide +kernel)).trans lk_here) H1 e1 o1 Q fun v H2 e2 o2 hv => k v H2 e2 o2 ⟨rA, hv, fun z => z.elim id zD, sq_of (e2 _ _ (e1 _ _ z8 id) id)⟩
        · have hk : k < wt.length := by rw [← lz]; exact (List.getElem?_eq_some_iff.mp hx).1
          have hrow := z0.2 k x (row0 cs wt k) hx (by simp [hk])
          have hrow2 := new_thru t2 (new_thru t hrow)
          exact gv_ixL (xs := row0 cs wt k) ((gv_slot mo_new o2 rfl hrow2).imp fun v H' o p => p.lst) (gv_is (gv_varI rfl) (by rw [Int.zero_add])) (at_nat (by rw [row0_len]; exact hj))
        · rw [idx_all (fun _ _ => rfl), lz] at p
          rw [List.map_map]
          exact p
      · rw [idx_all (fun _ _ => rfl)] at p
        exact p
    · obtain ⟨cA, rfl, _, hcA⟩ := hy
      have e7 := r0_ex e7
      have p7 := e7 _ _ p6
      refine ⟨dx, _, p7, (by show 2 < 1000; decide), ?_⟩
      have cp : cA ≠ p := pn p7 hcA
      have k8 : Kp (fun a => a = p) H6 (upd H7 p (.ins C dx (putF "cost" (.ref cA) [("real", .int (cs.length : Int)), ("rows", .ref rA)]))) := fun a o h n => by rw [upd_ne n]; exact e7 _ _ h
      have p8 : (upd H7 p (.ins C dx (putF "cost" (.ref cA) [("real", .int (cs.length : Int)), ("rows", .ref rA)]))) p = some (.ins C dx [("real", .int (cs.length : Int)), ("rows", .ref rA), ("cost", .ref cA)]) := upd_same
      have c8 : (upd H7 p (.ins C dx (putF "cost" (.ref cA) [("real", .int (cs.length : Int)), ("rows", .ref rA)]))) cA = _ := (upd_ne cp).trans hcA
      generalize upd H7 p (.ins C dx (putF "cost" (.ref cA) [("real", .int (cs.length : Int)), ("rows", .ref rA)])) = H8 at *
      have a8 := k8 _ _ hz (fun z => pA z.symm)
      have z8 : Al (fun r v H => ∃ a, v = .ref a ∧ H a = some (.lst (r.map V.int))) ((List.range wt.length).map (row0 cs wt)) zs H8 := al_mono' z0 fun r y ⟨a, h1, _, h2⟩ => ⟨a, h1, k8 _ _ h2 (pn p6 h2)⟩
      show tSeq (sFld K (tVar 0) _ "basis") _ _ [some (.ref p), some (.ref ca), some (.ref ua), some (.int (wt.length : Int)), s4, s5, none, none, none] H8
      refine st_fld (R := Rk fun a => ∃ xs, H8 a = some (.lst xs)) (P := New (Rk fun a => ∃ xs, H8 a = some (.lst xs)) ((bs0 cs.length wt.length).map fun i : Nat => V.int (i : Int))) (i := 0) (p := p) (C := C) ?_ (fun a h => h) rfl T.cl T.n_basis fun y H9 e9 _ hy => ?_
      · have hit := gi_rng1 (R := Rk fun a => ∃ xs, H8 a = some (.lst xs)) (σ := [some (.ref p), some (.ref ca), some (.ref ua), some (.int (wt.length : Int)), s4, s5, none, none, none]) (H := H8) (ta := tCons (tVar 3) tNil) (n := (wt.length : Int)) (ga_k (gv_varI rfl) ga_n) (by omega)
        rw [Int.toNat_natCast] at hit
        refine Gv.imp (gv_new (f := fun _ => true) (n := wt.length) (h := fun j => .int ((cs.length + j : Nat) : Int)) (gv_lcF (f := fun _ => true) (Pe := fun _ j => Is (.int ((cs.length + j : Nat) : Int))) (h := fun j => .int (0 + (j : Int))) hit (by omega) (fun a h => h) (fun _ _ => mo_is) (fun x => rfl) fun D j H9 hj t o => ⟨gt_yes, fun _ => ?_⟩)) fun v H' _ p => ?_
        · have p9 : H9 p = some (.ins C dx [("real", .int (cs.length : Int)), ("rows", .ref rA), ("cost", .ref cA)]) := t.q _ _ p8 (by
            rintro (⟨xs, z⟩ | z)
            · rw [p8] at z; cases z
            · rw [z, t.ne] at p8; cases p8)
          exact gv_is (gv_add (gv_fld (gv_varI rfl) p9 id T.cl T.n_real lk_here) (gv_varI rfl)) (congrArg V.int (by omega))
        · rw [idx_all (fun _ _ => rfl)] at p
          unfold bs0
          rw [List.map_map]
          exact p
      · obtain ⟨b, rfl, nb, hb⟩ := hy
        have e9 : Ex H8 H9 := fun a o h => e9 a o h id
        have p9 := e9 _ _ p8
        refine ⟨dx, _, p9, (by show 3 < 1000; decide), ?_⟩
        have nb : ∀ {a xs}, H8 a = some (.lst xs) → a ≠ b := fun h e => nb ⟨_, by rw [← e]; exact h⟩
        have bp : b ≠ p := pn p9 hb
        have k10 : Kp (fun a => a = p) H8 (upd H9 p (.ins C dx (putF "basis" (.ref b) [("real", .int (cs.length : Int)), ("rows", .ref rA), ("cost", .ref cA)]))) := fun a o h n => by rw [upd_ne n]; exact e9 _ _ h
        have p10 : (upd H9 p (.ins C dx (putF "basis" (.ref b) [("real", .int (cs.length : Int)), ("rows", .ref rA), ("cost", .ref cA)]))) p = some (.ins C dx [("real", .int (cs.length : Int)), ("rows", .ref rA), ("cost", .ref cA), ("basis", .ref b)]) := upd_same
        have b10 : (upd H9 p (.ins C dx (putF "basis" (.ref b) [("real", .int (cs.length : Int)), ("rows", .ref rA), ("cost", .ref cA)]))) b = _ := (upd_ne bp).trans hb
        generalize upd H9 p (.ins C dx (putF "basis" (.ref b) [("real", .int (cs.length : Int)), ("rows", .ref rA), ("cost", .ref cA)])) = H10 at *
        refine ⟨_, rfl, p, C, dx, _, rfl, p10, T.cl, T.n_divisor, (by show 4 < 1000; decide), ?_⟩
        have k11 : Kp (fun a => a = p) H10 (upd H10 p (.ins C dx (putF "divisor" (.int 1) [("real", .int (cs.length : Int)), ("rows", .ref rA), ("cost", .ref cA), ("basis", .ref b)]))) := fun a o h n => by rw [upd_ne n]; exact h
        have p11 : (upd H10 p (.ins C dx (putF "divisor" (.int 1) [("real", .int (cs.length : Int)), ("rows", .ref rA), ("cost", .ref cA), ("basis", .ref b)]))) p = some (.ins C dx (tabF cs.length rA cA b 1)) := upd_same
        have all8 : Kp (fun a => a = p) H8 (upd H10 p (.ins C dx (putF "divisor" (.int 1) [("real", .int (cs.length : Int)), ("rows", .ref rA), ("cost", .ref cA), ("basis", .ref b)]))) := fun a o h n => k11 _ _ (k10 _ _ h n) n
        generalize upd H10 p (.ins C dx (putF "divisor" (.int 1) [("real", .int (cs.length : Int)), ("rows", .ref rA), ("cost", .ref cA), ("basis", .ref b)])) = H11 at *
        have allH : Kp (fun a => a = p) H H8 := fun a o h n => k8 _ _ (r' _ _ (k5 _ _ (k3 _ _ h n) n) (fun z => by rw [z] at h; have := k3 _ _ h pA.symm; rw [nA] at this; cases this)) n
        have hbn : H b = none := by
          cases hbo : H b with
          | none => rfl
          | some o =>
            have h8 := allH _ _ hbo bp
            have h9 := e9 _ _ h8
            rw [hb] at h9
            cases h9
            exact absurd rfl (nb h8)
        refine q H11 b (fun a o h n => all8 _ _ (allH _ _ h n) n) hbn ⟨dx, rA, cA, zs, ?_, all8 _ _ a8 (fun z => pA z.symm), all8 _ _ c8 cp, k11 _ _ b10 bp, nb a8, nb c8, ?_⟩
        · rw [p11, det_bs0 hC.setup]
        · have er : rowsOf (colA cs wt) wt.length cs.length (bs0 cs.length wt.length) = (List.range wt.length).map (row0 cs wt) := List.map_congr_left fun k hk => row0_is hC (List.mem_range.mp hk)
          rw [er]
          exact al_mono' z8 fun r y ⟨a, h1, h2⟩ => ⟨a, h1, nb h2, all8 _ _ h2 (pn p8 h2)⟩
end
end Tm
end
section
set_option Elab.async false
set_option linter.all false
set_option maxRecDepth 100000
set_option maxHeartbeats 4000000
set_option exponentiation.threshold 100000
namespace Tm
open PySem PySem.Spec PyProof.Rows L2
section
variable {X : Cx} {C : Addr} {k : Nat} {m : Str} {ps : List Str} {sp : Sp} {pos apos : Pos} {o : Expr} {ta : TE}
theorem pe_met0 {pl : Sem Bool} (c : Cls X.K C) (D : MetDoes X.prog X.w X.K X.mg X.base k C m ps sp) (hr : Room k X.A) (he : PE X o ta)
    (ht : eval (.Call (.Attribute o m apos) [] [] pos) X.env = (do
      let ov ← eval o X.env
      standAt apos.atName
      let (f, first) ← holding [ov] (getMethod ov m pl)
      callWith pos f first (backTo pos (starEach [] X.env)) (backToKw pos (keywordEach [] X.env))) := by rfl) :
    PE X (.Call (.Attribute o m apos) [] [] pos) (tMeth C m sp [] E0 ta tNil) := by
  obtain ⟨f, fd, F, hm, b⟩ := D.ex
  exact pe_meth0 (pl := pl) he c hm F hr b .nil pass0 ht
end
section
variable {R : Rel} {K : PySem.W.Frag} {σ : L2.St} {H : Hp} {ta tb te : TE}
def GvO (R : Rel) (t : TO) (σ : L2.St) (H : Hp) (i : Option Int) : Prop := ∀ H1, R.r H H1 → R.ok H1 → ∀ Q : Option Int → Hp → Prop, (∀ H2, R.r H1 H2 → R.ok H2 → Q i H2) → t σ H1 Q
theorem go_part {i : Int} (h : Gv R te σ H (Is (.int i))) : GvO R (tPart te) σ H (some i) := fun H1 e o Q k => h H1 e o _ fun v H2 e2 o2 p => ⟨i, p, k H2 e2 o2⟩
theorem go_none : GvO R tNoPart σ H none := fun H1 e o Q k => k H1 (Rel.refl _) o
/-- xs[lo:hi], a list -/
theorem gv_sliceL {xs : List V} {lo hi : Option Int} {tl th : TO} (ha : Gv R ta σ H (fun v H => ∃ a, v = .ref a ∧ ¬ R.W a ∧ SqL K H a xs)) (hl : GvO R tl σ H lo) (hh : GvO R th σ H hi) : Gv R (tSl (rSlL K) ta tl th) σ H (New R (cutV xs lo hi)) := fun H1 e o Q k =>
  ha H1 e o _ fun v H2 e2 o2 ⟨a, h1, m, h2⟩ => hl H2 (Rel.trans e e2) o2 _ fun H3 e3 o3 => hh H3 (Rel.trans e (Rel.trans e2 e3)) o3 _ fun H4 e4 o4 =>
    ⟨a, xs, h1, mo_lst (Rel.rq e4) m (mo_lst (Rel.rq e3) m h2), fun p np => k _ _ (Rel.trans e2 (Rel.trans e3 (Rel.trans e4 (Rel.ex (Ex.new np))))) (R.ext _ _ (Ex.new np) o4) ⟨p, rfl, R.notW o4 np, upd_same⟩⟩
/-- xs[lo:hi], a tuple of values -/
theorem cut_mid {xs : List V} {i j : Nat} (h1 : i ≤ j) (h2 : j ≤ xs.length) : cutV xs (some (i : Int)) (some (j : Int)) = (xs.drop i).take (j - i) := by
  unfold cutV
  rw [HT.sIx_nat, HT.sIx_nat, Nat.min_eq_left h2, Nat.min_eq_left (Nat.le_trans h1 h2)]
theorem cut_last {xs : List V} {i : Nat} (h1 : i ≤ xs.length) : cutV xs (some (i : Int)) (some (-1)) = (xs.drop i).take (xs.length - 1 - i) := by
  unfold cutV
  rw [HT.sIx_nat, Nat.min_eq_left h1]
  have : HT.sIx xs.length xs.length (some (-1)) = xs.length - 1 := by
    unfold HT.sIx
    simp
    omega
  rw [this]
end
theorem st_asgG {R : Rel} {σ : L2.St} {H : Hp} {te : TE} {P : Pv} {D : L2.Ends} {g : TG} (h : Gv R te σ H P) (o : R.ok H) (k : ∀ v H2, R.r H H2 → R.ok H2 → P v H2 → g v σ H2 D.nx) : tAsg te g D σ H := h H (Rel.refl H) o _ k
theorem flat_zero (n : Nat) : (List.replicate n [V.int 0]).flatten = (List.replicate n (0 : Int)).map V.int := by
  rw [List.map_replicate]
  induction n with
  | zero => rfl
  | succ m ih => rw [List.replicate_succ, List.replicate_succ, List.flatten_cons, ih]; rfl
/-! what comes: weights, or a row that bars -/
def NoBar (cs : List (List Int)) (wt : List Int) : Prop := ∀ y : Nat → Int, (∀ j, j < cs.length → 0 ≤ dot wt.length y (colA cs wt j)) → 0 ≤ dot wt.length y (colA cs wt (cs.length + wt.length))
def Bars (cs : List (List Int)) (wt rs : List Int) : Prop := (∀ j, j < cs.length → 0 ≤ dot wt.length (fun t => rs.getD t 0) (colA cs wt j)) ∧ dot wt.length (fun t => rs.getD t 0) (colA cs wt (cs.length + wt.length)) < 0
/-- a pair: a list of weights and an int, or None and a row -/
def Solved (cs : List (List Int)) (wt : List Int) : Pv := fun v H =>
  (NoBar cs wt ∧ ∃ T a ws d, v = .ref T ∧ H T = some (.tup [.ref a, .int d]) ∧ H a = some (.lst ((ws : List Int).map V.int)) ∧ ws.length = cs.length ∧ Lim (4 * bigB) ws) ∨
  ∃ T a rs, v = .ref T ∧ H T = some (.tup [.non, .ref a]) ∧ H a = some (.lst ((rs : List Int).map V.int)) ∧ rs.length = wt.length ∧ Lim (4 * bigB) rs ∧ Bars cs wt rs
section
variable {K : PySem.W.Frag} {C : Addr} {P : Program} {w : World} {mg : Str → Option Value} {base : Heap}
abbrev N_solved : List Str := ["columns", "wanted", "table", "at", "weights", "number", "column"]
theorem sc_solved : FnScope N_solved ["columns", "wanted"] (defScope s_solved) := ⟨rfl, rfl, rfl, by decide +kernel, rfl, by decide +kernel, by decide +kernel⟩
theorem do_solved (T : Txt K mg C) : Does P w K mg base 3 "solved" ["columns", "wanted"]
    (PrG (fun (g : List (List Int) × List Int) vs H => ∃ c u, vs = [c, u] ∧ PLL g.1 c H ∧ PL g.2 u H ∧ Cols g.1 g.2) fun g => Solved g.1 g.2) :=
  mk_doesG T.solved sc_solved (fun _ _ _ _ _ _ us hl => match us, hl with | [_, _], _ => rfl) (fun g vs H h => by obtain ⟨c, u, rfl, _⟩ := h; rfl) fun f cdv A outer s H vs Q E g hr h q => by
    obtain ⟨cs, wt⟩ := g
    obtain ⟨c, u, rfl, hc, hu, hC⟩ := h
    dsimp only at hc hu hC q
    obtain ⟨fi, fdi, FI, MI, BI⟩ := do_T_init (P := P) (w := w) (mg := mg) (base := base) T
    have nd := (sc_solved).nd
    have hr1 : Room 1 _ := hr.mono (by decide)
    refine ⟨_, pss_cons (ps_set (i := 2) nd rfl (Or.inl rfl) (pe_make MI FI hr (by rfl) T.mgC BI .nil pass0 (pa_cons (pv 0) (pa_cons (pv 1) pa_nil))))
      (pss_cons (ps_set (i := 3) nd rfl (Or.inl rfl) (pe_met0 T.cl (do_T_entering T) hr1 (pv 2)))
      (pss_cons (ps_while PassesOwn.never (pt_cmp (pc_notN (pv 3)))
        (pss_cons (ps_expr (pe_met T.cl (do_T_pivot T) hr (pv 2) (pa_cons (pe_met T.cl (do_T_leaving T) hr1 (pv 2) (pa_cons (pv 3) pa_nil)) (pa_cons (pv 3) pa_nil))))
        (pss_one (ps_set (i := 3) nd rfl (Or.inl rfl) (pe_met0 T.cl (do_T_entering T) hr1 (pv 2))))))
      (pss_cons (ps_if (pt_cmpR op_eq (pe_ix ix_list (pe_fld (pv 2) rfl) (pe_un un_neg pe_int) (fun _ _ => rfl)) pe_int (nomark _))
        (pss_cons (ps_set (i := 4) nd rfl (Or.inl rfl) (pe_op op_rep (pe_lst (pa_cons pe_int pa_nil)) (pe_fld (pv 2) rfl)))
        (pss_cons (ps_for PassesOwn.never rfl (pi_enum (by rfl) T.z_enumerate (pa_cons (pe_fld (pv 2) rfl) pa_nil)) (pg_tup rfl (pgs_cons (pg_name (i := 5) nd rfl (Or.inl rfl)) (pgs_cons (pg_name (i := 6) nd rfl (Or.inl rfl)) pgs_nil)))
          (pss_one (ps_if (pt_cmpR op_lt (pv 6) (pe_fld (pv 2) rfl) (nomark _))
            (pss_one (ps_asg (pe_ix ix_list (pe_ix ix_list (pe_fld (pv 2) rfl) (pv 5) (fun _ _ => rfl)) (pe_un un_neg pe_int) (fun _ _ => rfl)) (pg_sub (pv 4) (pv 6) set_list))) pss_nil)))
        (pss_one (ps_ret (pe_tup (pa_cons (pv 4) (pa_cons (pe_fld (pv 2) rfl) pa_nil))))))) pss_nil)
      (pss_one (ps_ret (pe_tup (pa_cons pe_non (pa_cons (pe_lc (own := [("number", 5)]) (g := gName 5) (tt := tYes) rfl nd (pi_list (pe_slice sl_list (pe_fld (pv 2) rfl) (po_some (pe_fld (pv 2) rfl)) (po_some (pe_un un_neg pe_int))))
          (blkOk_by (N := N_solved) (sc := defScope s_solved) (by decide +kernel)) (fun _ _ _ _ _ => pg_name (i := 5) nd rfl (Or.inl rfl)) (fun _ _ _ _ _ => pts_nil) (fun _ _ _ _ _ => pe_un un_neg (pv 5))) pa_nil)))))))), ?_⟩
    have hm4 := hC.m4
    have hfew := hC.few
    have S := hC.setup
    obtain ⟨ca, cv, rfl, hca, hcl⟩ := hc
    obtain ⟨ua, rfl, hua⟩ := hu
    refine ⟨_, rfl, _, rfl, fun p dx np ndx ne => ?_⟩
    have exH : Ex H (upd (upd H dx (.own p)) p (.ins C dx [])) := fun a o h => by rw [upd_ne (ne_of_none h np), upd_ne (ne_of_none h ndx)]; exact h
    refine ⟨p, dx, _, _, cs, wt, rfl, upd_same, ⟨ca, cv, rfl, exH _ _ hca, al_mono hcl fun r y ⟨a, h1, h2⟩ => ⟨a, h1, exH _ _ h2⟩⟩, ⟨ua, rfl, exH _ _ hua⟩, hC, fun H2 b k2 nb t2 => ⟨rfl, ?_⟩⟩
    have ex2 : Ex H H2 := fun a o h => k2 _ _ (exH a o h) (ne_of_none h np)
    have nbH : H b = none := by
      cases e : H b with
      | none => rfl
      | some o => rw [exH _ _ e] at nb; cases nb
    clear exH k2 nb
    have nop : ∀ {n : Nat} {rA cA b : Addr} {d : Int}, (tabF n rA cA b d).lookup ("entering" : Str) = none := tabF_no (by decide +kernel) (by decide +kernel) (by decide +kernel) (by decide +kernel) (by decide +kernel)
    have enters : ∀ (bs : List Nat) (H : Hp) (σ : L2.St), σ[2]? = some (some (.ref p)) → Tab C (colA cs wt) wt.length cs.length bs p b H → Gv R0 (tMeth C "entering" (PrG (fun (g : TabG) vs H => vs = [.ref g.p] ∧ g.tab C H ∧ Cols g.cs g.wt) fun g => postEnt g) [] E0 (tVar 2) tNil) σ H (postEnt ⟨cs, wt, bs, p, b, 0⟩) := fun bs H σ hσ t => by
      obtain ⟨dx', rA, cA, zs, tt⟩ := t
      exact gv_met (pre := fun (g : TabG) vs H => vs = [.ref g.p] ∧ g.tab C H ∧ Cols g.cs g.wt) (post := fun g => postEnt g) ⟨cs, wt, bs, p, b, 0⟩ (gv_varI hσ) tt.obj id nop ga_nil (fun vs H1 e _ h => ⟨by rw [h], ⟨dx', rA, cA, zs, tt.ex (r0_ex e)⟩, hC⟩) fun v H1 _ _ h => h
    show tSeq _ _ _ [some (.ref ca), some (.ref ua), some (.ref p), none, none, none, none] H2
    refine st_asg (R := R0) (P := postEnt ⟨cs, wt, bs0 cs.length wt.length, p, b, 0⟩) (enters _ _ _ rfl t2) trivial fun v3 H3 e3 _ hv3 => ?_
    have e3 := r0_ex e3
    have t3 := t2.ex e3
    obtain ⟨k0, hk0⟩ := ends S (good_bs0 S)
    show tSeq (tWhile _ _) _ _ [some (.ref ca), some (.ref ua), some (.ref p), some v3, none, none, none] H3
    let W : Nat → L2.St → Hp → Prop := fun k σ' H' => ∃ bs v, σ' = [some (.ref ca), some (.ref ua), some (.ref p), some v, none, none, none] ∧ Ends (colA cs wt) wt.length cs.length k bs ∧ Good (colA cs wt) wt.length cs.length bs ∧ Tab C (colA cs wt) wt.length cs.length bs p b H' ∧ Kp (fun a => a = p ∨ a = b) H3 H' ∧ postEnt ⟨cs, wt, bs, p, b, 0⟩ v H'
    refine ⟨W, ⟨k0, bs0 cs.length wt.length, v3, rfl, hk0, good_bs0 S, t3, Rel.refl _, hv3⟩, ?_⟩
    rintro k σ' H' ⟨bs, v, rfl, hk, hG, ht, hkp, hv⟩
    refine ⟨_, rfl, _, rfl, ?_⟩
    rcases hv with ⟨s, rfl, hs, hcs, hfirst⟩ | ⟨rfl, hall⟩
    · have hcc : (!decide (V.int (s : Int) = V.non)) = true := by rw [decide_eq_false (fun z => V.noConfusion z)]; rfl
      rw [hcc]
      refine iteT ?_
      cases k with
      | zero => exact hk.elim
      | succ k =>
        obtain ⟨r, hl, st⟩ := lv_step S hG hs hcs hfirst
        obtain ⟨dx', rA, cA, zs, tt⟩ := ht
        refine ⟨W k, fun σ' H' w => ⟨k, Nat.lt_succ_self k, w⟩, ?_⟩
        refine ⟨_, rfl, p, dx', _, rfl, tt.obj, tabF_no (by decide +kernel) (by decide +kernel) (by decide +kernel) (by decide +kernel) (by decide +kernel), ?_⟩
        have lo : lvOf ⟨cs, wt, bs, p, b, s⟩ wt.length = some r := hl
        have ga : GvA R0 (tCons (tMeth C "leaving" (PrG (fun (g : TabG) vs H => vs = [.ref g.p, .int (g.s : Int)] ∧ g.tab C H ∧ Cols g.cs g.wt ∧ g.s < g.n + g.m + 1 ∧ g.bs.length = g.m) fun g => Is (optV (lvOf g g.m))) [] E0 (tVar 2) (tCons (tVar 3) tNil)) (tCons (tVar 3) tNil)) [some (.ref ca), some (.ref ua), some (.ref p), some (.int (s : Int)), none, none, none] H' (fun vs _ => vs = [.int (r : Int), .int (s : Int)]) :=
          ga_k (gv_met (pre := fun (g : TabG) vs H => vs = [.ref g.p, .int (g.s : Int)] ∧ g.tab C H ∧ Cols g.cs g.wt ∧ g.s < g.n + g.m + 1 ∧ g.bs.length = g.m) (post := fun g => Is (optV (lvOf g g.m))) ⟨cs, wt, bs, p, b, s⟩ (gv_varI rfl) tt.obj id (tabF_no (by decide +kernel) (by decide +kernel) (by decide +kernel) (by decide +kernel) (by decide +kernel)) (ga_k (gv_varI rfl) ga_n)
            (fun vs H1 e _ h => ⟨by rw [h], ⟨dx', rA, cA, zs, tt.ex (r0_ex e)⟩, hC, by have : s < cs.length := hs; show s < cs.length + wt.length + 1; omega, hG.len⟩) fun v H1 _ _ h => by
              have h : v = optV (lvOf ⟨cs, wt, bs, p, b, s⟩ wt.length) := h
              rw [lo] at h
              exact h) (ga_k (gv_varI rfl) ga_n)
        refine ga H' (Rel.refl _) trivial _ fun vs H4 e4 _ hvs => ?_
        subst hvs
        have e4 := r0_ex e4
        refine ⟨⟨⟨cs, wt, bs, p, b, s⟩, r, bs.set r s⟩, ⟨rfl, ⟨dx', rA, cA, zs, tt.ex e4⟩, ⟨hC, hG, st⟩⟩, fun H5 k5 t5 => ?_⟩
        refine st_asg1 (R := R0) (P := postEnt ⟨cs, wt, bs.set r s, p, b, 0⟩) (enters _ _ _ rfl t5) trivial fun v6 H6 e6 _ hv6 => ?_
        exact ⟨bs.set r s, v6, rfl, hk r s _ st, st.good S hG, t5.ex (r0_ex e6), Rel.trans hkp (Rel.trans (Rel.ex e4) (Rel.trans k5 (Rel.ex (r0_ex e6)))), hv6⟩
    · have hcc : (!decide (V.non = V.non)) = false := by rw [decide_eq_true rfl]; rfl
      rw [hcc]
      refine iteF ?_
      have exA : Ex H H' := fun a o h => hkp a o (e3 _ _ (ex2 _ _ h)) (by
        rintro (z | z)
        · rw [z, np] at h; cases h
        · rw [z, nbH] at h; cases h)
      obtain ⟨dx', rA, cA, zs, tt⟩ := ht
      dsimp only
      refine st_when (R := R0) (B := (· = decide (cost (colA cs wt) wt.length cs.length bs (cs.length + wt.length) = 0))) ?_ trivial (fun H7 e7 _ hb => ?_) (fun H7 e7 _ hb => ?_)
      · refine gt_is (gt_test (gv_eq (gv_lastL (xs := costOf (colA cs wt) wt.length cs.length bs) (fun H1 e o Q k => gv_fld (R := R0) (gv_varI rfl) tt.obj id T.cl T.n_cost tabF_cost H1 e o Q fun v H2 e2 o2 p => k v H2 e2 o2 ⟨cA, p, id, sq_of (r0_ex e2 _ _ (r0_ex e _ _ tt.cost))⟩) cost_ne) gv_c rfl)) (decide_eq_decide.mpr ?_)
        rw [costOf_last]
        exact ⟨fun z => V.int.inj z, fun z => by rw [z]⟩
      · have hz := of_decide_eq_true hb.symm
        have e7 := r0_ex e7
        have t7 := tt.ex e7
        refine st_asg (R := Rk fun a => ∃ xs, H7 a = some (.lst xs)) (P := New (Rk fun a => ∃ xs, H7 a = some (.lst xs)) ((List.replicate cs.length (0 : Int)).map V.int)) (by
          rw [← flat_zero]
          exact gv_repL (gv_lstK (ga_k gv_c ga_n) (by simp)) (gv_fld (gv_varI rfl) t7.obj id T.cl T.n_real tabF_real) (by simp; omega) (by omega)) (fun a h => h) fun v4 H8 e8 _ hv4 => ?_
        obtain ⟨wA, rfl, nw, hw8⟩ := hv4
        have e8 : Ex H7 H8 := fun a o h => e8 a o h id
        have nw7 : H7 wA = none := by
          cases e : H7 wA with
          | none => rfl
          | some o =>
            have := e8 _ _ e
            rw [hw8] at this
            cases this
            exact absurd ⟨_, e⟩ nw
        have ok8 : (Rm fun a => a = wA).ok H8 := fun a h => by rw [h]; exact ⟨_, hw8⟩
        have ex7 : ∀ {H'}, (Rm fun a => a = wA).r H8 H' → Ex H7 H' := fun r a o h => r a o (e8 _ _ h) (ne_of_none h nw7)
        have t8 := t7.ex e8
        show tSeq (tFor _ _ _) _ _ [some (.ref ca), some (.ref ua), some (.ref p), some .non, some (.ref wA), none, none] H8
        refine st_forP (R := Rm fun a => a = wA) (n := (bs.map fun i : Nat => V.int (i : Int)).length) (gp_enum (xs := bs.map fun i : Nat => V.int (i : Int)) ?_) ok8 (fun i σ' H' => ∃ s5 s6 ws, σ' = [some (.ref ca), some (.ref ua), some (.ref p), some .non, some (.ref wA), s5, s6] ∧ H' wA = some (.lst ((ws : List Int).map V.int)) ∧ ws.length = cs.length ∧ Lim (4 * bigB) ws) (fun H9 e9 => ⟨none, none, _, rfl, e9 _ _ hw8, by simp, fun x hx => by rw [List.eq_of_mem_replicate hx]; decide⟩) (fun i x σ' H9 H10 hi r' o' hp' y => ?_) (fun σ' H9 r' o' hp' => ?_)
        · exact fun H9 e o Q k => gv_fld (R := R0) (gv_varI rfl) t8.obj id T.cl T.n_basis tabF_basis H9 e o _ fun v H10 e10 o10 p => k _ H10 e10 o10 ⟨b, by rw [p], ne_of_none t7.basis nw7, sq_of (r0_ex e10 _ _ (r0_ex e _ _ t8.basis))⟩
        · obtain ⟨s5, s6, ws, rfl, hws, lws, bws⟩ := hp'
          obtain ⟨Tp, x1, x2, rfl, nT, rfl, hx1, hx2⟩ := y
          cases hx1
          have eT : Ex H9 (upd H9 Tp (.tup [.int (i : Int), x2])) := Ex.new nT
          refine g_pair ?_
          have t10 := t7.ex ((ex7 r').trans eT)
          have hws10 := eT _ _ hws
          have oT : (Rm fun a => a = wA).ok (upd H9 Tp (.tup [.int (i : Int), x2])) := fun a h => by rw [h]; exact ⟨_, hws10⟩
          generalize upd H9 Tp (.tup [.int (i : Int), x2]) = H10 at *
          rw [List.length_map] at hi
          dsimp only at hx2
          rw [List.getElem?_map, List.getElem?_eq_getElem hi] at hx2
          have hx2 : V.int ((bs[i] : Nat) : Int) = x2 := Option.some.inj hx2
          subst hx2
          have him : i < wt.length := by have := hG.len; omega
          show tIfS _ _ _ _ [some (.ref ca), some (.ref ua), some (.ref p), some .non, some (.ref wA), some (.int (i : Int)), some (.int ((bs[i] : Nat) : Int))] H10
          refine st_when1 (R := R0) (B := (· = decide (((bs[i] : Nat) : Int) < (cs.length : Int)))) (gt_test (gv_I0 (g := fun i j => .bl (decide (i < j))) (gv_varI rfl) (gv_fld (gv_varI rfl) t10.obj id T.cl T.n_real tabF_real))) trivial (fun H11 e11 _ hd => ?_) (fun H11 e11 _ hd => ?_)
          · have hd := of_decide_eq_true hd.symm
            have e11 := r0_ex e11
            have t11 := t10.ex e11
            refine st_asgG (R := R0) (P := Is (.int (ent (colA cs wt) wt.length bs i (cs.length + wt.length)))) (gv_is (gv_lastL (gv_tabRow T t11 him (gv_varI rfl) (gv_varI rfl)) row_ne) (by rw [rowOf_last])) trivial fun v H12 e12 _ hv => ?_
            subst hv
            have e12 := r0_ex e12
            have hws12 := e12 _ _ (e11 _ _ hws10)
            refine ⟨_, rfl, _, rfl, wA, _, _, bs[i], rfl, rfl, hws12, ixN_of (by rw [List.length_map, lws]; omega), ?_⟩
            have kk : Kp (fun a => a = wA) H9 (upd H12 wA (.lst ((ws.map V.int).set bs[i] (.int (ent (colA cs wt) wt.length bs i (cs.length + wt.length)))))) := fun a o h n => by rw [upd_ne n]; exact e12 _ _ (e11 _ _ (eT _ _ h))
            refine ⟨kk, fun a h => by rw [h]; exact ⟨_, upd_same⟩, some (.int (i : Int)), some (.int ((bs[i] : Nat) : Int)), ws.set bs[i] (ent (colA cs wt) wt.length bs i (cs.length + wt.length)), rfl, by rw [upd_same, List.map_set], by rw [List.length_set, lws], fun x hx => ?_⟩
            rcases List.mem_or_eq_of_mem_set hx with h | h
            · exact bws x h
            · rw [h]; exact Nat.le_trans (hC.ent_le bs _ _) (by decide)
          · have e11 := r0_ex e11
            exact ⟨Rel.ex (eT.trans e11), fun a h => by rw [h]; exact ⟨_, e11 _ _ hws10⟩, some (.int (i : Int)), some (.int ((bs[i] : Nat) : Int)), ws, rfl, e11 _ _ hws10, lws, bws⟩
        · obtain ⟨s5, s6, ws, rfl, hws, lws, bws⟩ := hp'
          have t9 := t7.ex (ex7 r')
          refine st_ret (R := R0) (P := fun v H => ∃ T, v = .ref T ∧ H T = some (.tup [.ref wA, .int (det (colA cs wt) wt.length bs)]) ∧ H wA = some (.lst (ws.map V.int))) ?_ trivial fun v H10 e10 _ hv => ?_
          · refine gv_tup (ga_2 (Pa := Is (.ref wA)) (Pb := Is (.int (det (colA cs wt) wt.length bs))) (gv_varI rfl) mo_is (gv_fld (gv_varI rfl) t9.obj id T.cl T.n_divisor tabF_div)) (fun vs H1 ⟨v, w, e, _⟩ => by rw [e]; simp) fun vs H1 p e o ⟨v, w, h1, h2, h3⟩ np => ⟨p, rfl, by rw [h1, h2, h3]; exact upd_same, ?_⟩
            have := r0_ex e _ _ hws
            rw [upd_ne (ne_of_none this np)]
            exact this
          · obtain ⟨T', h1, h2, h3⟩ := hv
            exact q v H10 (((exA.trans e7).trans (ex7 r')).trans (r0_ex e10)) (.inl ⟨fun y hy => no_bar S hG hz y hy, T', wA, ws, _, h1, h2, h3, lws, bws⟩)
      · have hz := of_decide_eq_false hb.symm
        have e7 := r0_ex e7
        have t7 := tt.ex e7
        obtain ⟨b1, b2⟩ := bar S hz hG hall
        have lX : (cutV ((costOf (colA cs wt) wt.length cs.length bs).map V.int) (some (cs.length : Int)) (some (-1))).length = wt.length := by
          rw [cut_last (by rw [List.length_map, costOf_len]; omega), List.length_take, List.length_drop, List.length_map, costOf_len]
          omega
        have gX : ∀ t, t < wt.length → (cutV ((costOf (colA cs wt) wt.length cs.length bs).map V.int) (some (cs.length : Int)) (some (-1)))[t]? = some (.int (cost (colA cs wt) wt.length cs.length bs (cs.length + t))) := fun t ht => by
          rw [cut_last (by rw [List.length_map, costOf_len]; omega), List.getElem?_take, if_pos (by rw [List.length_map, costOf_len]; omega), List.getElem?_drop, List.getElem?_map]
          have : (costOf (colA cs wt) wt.length cs.length bs)[cs.length + t]? = some (cost (colA cs wt) wt.length cs.length bs (cs.length + t)) := by
            unfold costOf
            rw [List.getElem?_map, List.getElem?_range (by omega)]
            rfl
          rw [this]
          rfl
        refine st_ret (R := R0) (P := fun v H => ∃ T a, v = .ref T ∧ H T = some (.tup [.non, .ref a]) ∧ H a = some (.lst (((List.range wt.length).map fun t => -cost (colA cs wt) wt.length cs.length bs (cs.length + t)).map V.int))) ?_ trivial fun v H8 e8 _ hv => ?_
        · refine gv_tup (ga_2 (Pa := Is .non) (Pb := New R0 (((List.range wt.length).map fun t => -cost (colA cs wt) wt.length cs.length bs (cs.length + t)).map V.int)) gv_c mo_is ?_) (fun vs H1 ⟨v, w, e, _⟩ => by rw [e]; simp) fun vs H1 p e o ⟨v, w, h1, h2, ⟨a, h3, _, h4⟩⟩ np => ⟨p, a, rfl, by rw [h1, h2, h3]; exact upd_same, (by rw [upd_ne (ne_of_none h4 np)]; exact h4)⟩
          refine Gv.imp (gv_new (f := fun _ => true) (n := (cutV ((costOf (colA cs wt) wt.length cs.length bs).map V.int) (some (cs.length : Int)) (some (-1))).length) (h := fun t => .int (-cost (colA cs wt) wt.length cs.length bs (cs.length + t))) (gv_lcN (f := fun _ => true) (Pe := fun _ t => Is (.int (-cost (colA cs wt) wt.length cs.length bs (cs.length + t)))) (gi_lst (Gv.imp (gv_sliceL (fun H1 e o Q k => gv_fld (R := R0) (gv_varI rfl) t7.obj id T.cl T.n_cost tabF_cost H1 e o Q fun v H2 e2 o2 p => k v H2 e2 o2 ⟨cA, p, id, sq_of (r0_ex e2 _ _ (r0_ex e _ _ t7.cost))⟩) (go_part (gv_fld (gv_varI rfl) t7.obj id T.cl T.n_real tabF_real)) (go_part gv_neg1)) fun v H' o ⟨a, h1, m, h2⟩ => ⟨a, h1, m, sq_of h2⟩)) (by rw [lX]; omega) trivial (fun _ _ => mo_is) (fun x => rfl) fun D t x H9 hx th o => ⟨gt_yes, fun _ => ?_⟩)) fun v H' _ p => ?_
          · have ht : t < wt.length := by rw [← lX]; exact (List.getElem?_eq_some_iff.mp hx).1
            rw [gX t ht] at hx
            cases hx
            exact gv_negI (gv_varI rfl)
          · rw [idx_all (fun _ _ => rfl), lX] at p
            rw [List.map_map]
            exact p
        · obtain ⟨T', a, h1, h2, h3⟩ := hv
          have cong : ∀ v : Nat → Int, dot wt.length (fun t => ((List.range wt.length).map fun t => -cost (colA cs wt) wt.length cs.length bs (cs.length + t)).getD t 0) v = dot wt.length (fun t => -cost (colA cs wt) wt.length cs.length bs (cs.length + t)) v := fun v => sm_congr fun t ht => by simp [List.getD_eq_getElem?_getD, ht]
          refine q v H8 ((exA.trans e7).trans (r0_ex e8)) (.inr ⟨T', a, _, h1, h2, h3, by simp, fun x hx => ?_, fun j hj => ?_, ?_⟩)
          · obtain ⟨t, _, rfl⟩ := List.mem_map.mp hx
            rw [Int.natAbs_neg]
            exact hC.cost_le bs _
          · rw [cong]; exact b1 j hj
          · rw [cong]; exact b2
end
end Tm
end
section
set_option linter.all false
namespace Tm
/-! the columns of a room and a wall: what weights and rows say of its points -/
def boundRow (W : Nat) : List Int := List.replicate (W - 1) 0 ++ [1]
def colsOf (W : Nat) (ws ss : List (List Int)) (mo : List Int) : List (List Int) := ws.map (fun r => r ++ [0]) ++ (ss ++ [boundRow W] ++ [mo]).map (fun r => r ++ [1])
def wantOf (W : Nat) : List Int := List.replicate W 0 ++ [1]
theorem sum_rangeM (f : Nat → Int) : ∀ m : Nat, ((List.range m).map f).sum = sm m f
  | 0 => rfl
  | m + 1 => by
    rw [List.range_succ, List.map_append, List.sum_append, sum_rangeM f m]
    simp [sm]
theorem dot_value {c y : List Int} (h : c.length = y.length) : dot c.length (fun t => y.getD t 0) (fun t => c.getD t 0) = value c y := by
  unfold dot value
  rw [← sum_rangeM]
  congr 1
  refine List.ext_getElem (by simp [h]) fun i h1 h2 => ?_
  have a1 : i < c.length := by simpa using h1
  have a2 : i < y.length := by omega
  simp [List.getD_eq_getElem?_getD, a1, a2]
  exact Int.mul_comm _ _
theorem value_snoc {x q : Int} : ∀ {c p : List Int}, c.length = p.length → value (c ++ [x]) (p ++ [q]) = value c p + x * q
  | [], [], _ => by simp [value]
  | a :: c, b :: p, h => by
    have ih := value_snoc (x := x) (q := q) (c := c) (p := p) (by simpa using h)
    simp only [value, List.cons_append, List.zipWith_cons_cons, List.sum_cons] at ih ⊢
    rw [ih]
    omega
section
variable {W : Nat} {ws ss : List (List Int)} {mo : List Int}
theorem boundRow_len (hW : 1 ≤ W) : (boundRow W).length = W := by simp [boundRow]; omega
theorem value_bound {p : List Int} (hW : W = 2 ∨ W = 3) (h : p.length = W) : value (boundRow W) p = last p := by
  rcases hW with rfl | rfl
  · obtain ⟨a, b, rfl⟩ := len2 h
    simp [value, boundRow, last]
  · obtain ⟨a, b, c, rfl⟩ := len3 h
    simp [value, boundRow, last]
theorem value_want {p : List Int} {q : Int} (hW : W = 2 ∨ W = 3) (h : p.length = W) : value (wantOf W) (p ++ [q]) = q := by
  unfold wantOf
  rw [value_snoc (by simp [h])]
  rcases hW with rfl | rfl
  · obtain ⟨a, b, rfl⟩ := len2 h
    simp [value, List.replicate]
  · obtain ⟨a, b, c, rfl⟩ := len3 h
    simp [value, List.replicate]
/-- each column's width -/
theorem colsOf_len (hW : 1 ≤ W) (h1 : ∀ r ∈ ws, r.length = W) (h2 : ∀ r ∈ ss, r.length = W) (h3 : mo.length = W) : ∀ c ∈ colsOf W ws ss mo, c.length = W + 1 := fun c hc => by
  unfold colsOf at hc
  rcases List.mem_append.mp hc with hc | hc
  · obtain ⟨r, hr, rfl⟩ := List.mem_map.mp hc
    simp [h1 r hr]
  · obtain ⟨r, hr, rfl⟩ := List.mem_map.mp hc
    rcases List.mem_append.mp hr with hr | hr
    · rcases List.mem_append.mp hr with hr | hr
      · simp [h2 r hr]
      · rw [List.mem_singleton.mp hr]; simp [boundRow_len hW]
    · rw [List.mem_singleton.mp hr]; simp [h3]
theorem want_len : (wantOf W).length = W + 1 := by simp [wantOf]
theorem cols_ok (hW : W = 2 ∨ W = 3) (h1 : ∀ r ∈ ws, r.length = W) (h2 : ∀ r ∈ ss, r.length = W) (h3 : mo.length = W) (b1 : ∀ r ∈ ws, ∀ x ∈ r, x.natAbs ≤ 1000000) (b2 : ∀ r ∈ ss, ∀ x ∈ r, x.natAbs ≤ 1000000) (b3 : ∀ x ∈ mo, x.natAbs ≤ 1000000) (few : ws.length + ss.length ≤ 50) : Cols (colsOf W ws ss mo) (wantOf W) where
  m4 := by rw [want_len]; omega
  len := fun c hc => by rw [want_len]; exact colsOf_len (by omega) h1 h2 h3 c hc
  wn := fun x hx => by
    unfold wantOf at hx
    rcases List.mem_append.mp hx with h | h
    · rw [List.eq_of_mem_replicate h]; decide
    · rw [List.mem_singleton.mp h]; decide
  b1 := fun c hc x hx => by
    have key : ∀ r : List Int, (∀ x ∈ r, x.natAbs ≤ 1000000) → ∀ e : Int, e.natAbs ≤ 1000000 → ∀ x ∈ r ++ [e], x.natAbs ≤ 1000000 := fun r hr e he x hx => by
      rcases List.mem_append.mp hx with h | h
      · exact hr x h
      · rw [List.mem_singleton.mp h]; exact he
    unfold colsOf at hc
    rcases List.mem_append.mp hc with hc | hc
    · obtain ⟨r, hr, rfl⟩ := List.mem_map.mp hc
      exact key r (b1 r hr) 0 (by decide) x hx
    · obtain ⟨r, hr, rfl⟩ := List.mem_map.mp hc
      refine key r ?_ 1 (by decide) x hx
      rcases List.mem_append.mp hr with hr | hr
      · rcases List.mem_append.mp hr with hr | hr
        · exact b2 r hr
        · rw [List.mem_singleton.mp hr]
          intro x hx
          unfold boundRow at hx
          rcases List.mem_append.mp hx with h | h
          · rw [List.eq_of_mem_replicate h]; decide
          · rw [List.mem_singleton.mp h]; decide
      · rw [List.mem_singleton.mp hr]; exact b3
  b2 := fun x hx => by
    unfold wantOf at hx
    rcases List.mem_append.mp hx with h | h
    · rw [List.eq_of_mem_replicate h]; decide
    · rw [List.mem_singleton.mp h]; decide
  few := by simp [colsOf]; omega
/-- y against a column, by its list -/
theorem dot_col {cs : List (List Int)} {wt : List Int} {y : List Int} (hy : y.length = wt.length) (hl : ∀ c ∈ cs, c.length = wt.length) {j : Nat} (hj : j < cs.length) : dot wt.length (fun t => y.getD t 0) (colA cs wt j) = value (cs.getD j []) y := by
  have hc := hl _ (getD_col hj)
  have : colA cs wt j = fun t => (cs.getD j []).getD t 0 := funext fun t => colA_col hj t
  rw [this, ← hc, dot_value (by rw [hc, hy])]
theorem dot_want {cs : List (List Int)} {wt : List Int} {y : List Int} (hy : y.length = wt.length) : dot wt.length (fun t => y.getD t 0) (colA cs wt (cs.length + wt.length)) = value wt y := by
  have : colA cs wt (cs.length + wt.length) = fun t => wt.getD t 0 := funext fun t => colA_want t
  rw [this, dot_value hy.symm]
variable {w : List Int}
theorem no_breaks (hW : W = 2 ∨ W = 3) (h1 : ∀ r ∈ ws, r.length = W) (h2 : ∀ r ∈ ss, r.length = W) (h3 : w.length = W)
    (nb : ∀ y : Nat → Int, (∀ j, j < (colsOf W ws ss (neg w)).length → 0 ≤ dot (wantOf W).length y (colA (colsOf W ws ss (neg w)) (wantOf W) j)) → 0 ≤ dot (wantOf W).length y (colA (colsOf W ws ss (neg w)) (wantOf W) ((colsOf W ws ss (neg w)).length + (wantOf W).length))) :
    ¬ ∃ p, Breaks W ws ss w p := by
  rintro ⟨p, p1, p2, p3, p4, p5⟩
  have hn : (neg w).length = W := by simp [neg, h3]
  have hl := colsOf_len (W := W) (mo := neg w) (by omega) h1 h2 hn
  have hy : (p ++ [-1]).length = (wantOf W).length := by rw [want_len]; simp [p1]
  have := nb (fun t => (p ++ [-1]).getD t 0) fun j hj => by
    rw [dot_col hy (fun c hc => by rw [want_len]; exact hl c hc) hj]
    have hc := getD_col hj
    generalize (colsOf W ws ss (neg w)).getD j [] = c at hc
    unfold colsOf at hc
    rcases List.mem_append.mp hc with hc | hc
    · obtain ⟨r, hr, rfl⟩ := List.mem_map.mp hc
      rw [value_snoc (by rw [h1 r hr, p1])]
      have := p3 r hr
      omega
    · obtain ⟨r, hr, rfl⟩ := List.mem_map.mp hc
      rcases List.mem_append.mp hr with hr | hr
      · rcases List.mem_append.mp hr with hr | hr
        · rw [value_snoc (by rw [h2 r hr, p1])]
          have := p4 r hr
          omega
        · rw [List.mem_singleton.mp hr, value_snoc (by rw [boundRow_len (by omega), p1]), value_bound hW p1]
          omega
      · rw [List.mem_singleton.mp hr, value_snoc (by rw [hn, p1]), value_neg]
        omega
  rw [dot_want hy, value_want hW p1] at this
  omega
theorem bars_breaks (hW : W = 2 ∨ W = 3) (h1 : ∀ r ∈ ws, r.length = W) (h2 : ∀ r ∈ ss, r.length = W) (h3 : w.length = W) {rs : List Int} (hr : rs.length = (wantOf W).length)
    (b1 : ∀ j, j < (colsOf W ws ss (neg w)).length → 0 ≤ dot (wantOf W).length (fun t => rs.getD t 0) (colA (colsOf W ws ss (neg w)) (wantOf W) j))
    (b2 : dot (wantOf W).length (fun t => rs.getD t 0) (colA (colsOf W ws ss (neg w)) (wantOf W) ((colsOf W ws ss (neg w)).length + (wantOf W).length)) < 0) : ∃ p, Breaks W ws ss w p := by
  have hn : (neg w).length = W := by simp [neg, h3]
  have hl := colsOf_len (W := W) (mo := neg w) (by omega) h1 h2 hn
  have hne : rs ≠ [] := fun e => by rw [e, want_len] at hr; simp at hr
  obtain ⟨p, q, rfl⟩ : ∃ p q, rs = p ++ [q] := ⟨rs.dropLast, rs.getLast hne, (List.dropLast_concat_getLast hne).symm⟩
  have p1 : p.length = W := by rw [want_len] at hr; simpa using hr
  rw [dot_want hr, value_want hW p1] at b2
  have col : ∀ c ∈ colsOf W ws ss (neg w), 0 ≤ value c (p ++ [q]) := fun c hc => by
    obtain ⟨j, hj, e⟩ := List.mem_iff_getElem.mp hc
    have := b1 j hj
    rw [dot_col hr (fun c hc => by rw [want_len]; exact hl c hc) hj] at this
    have e2 : (colsOf W ws ss (neg w)).getD j [] = c := by simp [List.getD_eq_getElem?_getD, hj, e]
    rwa [e2] at this
  have sd : ∀ r ∈ ss ++ [boundRow W] ++ [neg w], r ++ [1] ∈ colsOf W ws ss (neg w) := fun r hr => List.mem_append_right _ (List.mem_map.mpr ⟨r, hr, rfl⟩)
  refine ⟨p, p1, ?_, fun d hd => ?_, fun d hd => ?_, ?_⟩
  · have := col _ (sd _ (List.mem_append_left _ (List.mem_append_right _ (List.mem_singleton.mpr rfl))))
    rw [value_snoc (by rw [boundRow_len (by omega), p1]), value_bound hW p1] at this
    omega
  · have := col _ (List.mem_append_left _ (List.mem_map.mpr ⟨d, hd, rfl⟩))
    rw [value_snoc (by rw [h1 d hd, p1])] at this
    omega
  · have := col _ (sd d (List.mem_append_left _ (List.mem_append_left _ hd)))
    rw [value_snoc (by rw [h2 d hd, p1])] at this
    omega
  · have := col _ (sd _ (List.mem_append_right _ (List.mem_singleton.mpr rfl)))
    rw [value_snoc (by rw [hn, p1]), value_neg] at this
    omega
/-- a wall of the room is never broken -/
theorem unit_breaks (h : w ∈ ws ∨ w ∈ ss) : ¬ ∃ p, Breaks W ws ss w p := by
  rintro ⟨p, p1, p2, p3, p4, p5⟩
  rcases h with h | h
  · have := p3 w h; omega
  · have := p4 w h; omega
end
end Tm
end
section
set_option Elab.async false
set_option linter.all false
set_option maxRecDepth 100000
set_option maxHeartbeats 4000000
set_option exponentiation.threshold 100000
namespace Tm
open PySem PySem.Spec PyProof.Rows L2
section
variable {K : PySem.W.Frag} {C : Addr} {P : Program} {w : World} {mg : Str → Option Value} {base : Heap}
theorem gv_divW4 {R : Rel} {σ : L2.St} {H : Hp} {ta tb : TE} {i j : Int} (ha : Gv R ta σ H (Is (.int i))) (hb : Gv R tb σ H (Is (.int j))) (h1 : 0 < j) (h2 : j.natAbs ≤ 4 * bigB) : Gv R (tOp (rI CDivW fun i j => .int (i / j)) ta tb) σ H (Is (.int (i / j))) :=
  gv_I (C := CDivW) (g := fun i j => .int (i / j)) ha hb (wide_div (b := 9000) h1 (Nat.lt_of_le_of_lt h2 (Nat.lt_of_lt_of_le (by decide : 4 * bigB < 2 ^ 1000) (Nat.pow_le_pow_right (by decide) (by decide)))) (by decide) (by decide))
/-! divided -/
abbrev N_divided : List Str := ["numbers", "common", "number"]
theorem sc_divided : FnScope N_divided ["numbers"] (defScope s_divided) := ⟨rfl, rfl, rfl, by decide +kernel, rfl, by decide +kernel, by decide +kernel⟩
theorem do_divided (T : Txt K mg C) : Does P w K mg base 1 "divided" ["numbers"]
    (PrG (fun (xs : List Int) vs H => ∃ v, vs = [v] ∧ PL xs v H ∧ xs.length ≤ 1000 ∧ Lim (4 * bigB) xs) fun xs v H => ∃ rs, rs.length = xs.length ∧ Row K rs v H) :=
  mk_doesG T.divided sc_divided (fun _ _ _ _ _ _ us hl => match us, hl with | [_], _ => rfl) (fun g vs H h => by obtain ⟨v, rfl, _⟩ := h; rfl) fun f cdv A outer s H vs Q E xs hr h q => by
    obtain ⟨v, rfl, ⟨a, rfl, ha⟩, hl, lim⟩ := h
    have nd := (sc_divided).nd
    refine ⟨_, pss_cons (ps_set (i := 1) nd rfl (Or.inr rfl) pe_int)
      (pss_cons (ps_for PassesOwn.never rfl (pi_list (pv 0)) (pg_name (i := 2) nd rfl (Or.inl rfl))
        (pss_one (ps_set (i := 1) nd rfl (Or.inr rfl) (pe_callBfun cr_gcd (by rfl) T.gcd (pa_cons (pv 1) (pa_cons (pv 2) pa_nil))))))
      (pss_one (ps_ret (pe_ifExp (pt_cmpR op_eq (pv 1) pe_int (nomark _)) (pe_callTy call_tuple_of (by rfl) T.z_tuple (by decide +kernel) (pa_cons (pv 0) pa_nil))
        (pe_callTy call_tuple_of (by rfl) T.z_tuple (by decide +kernel) (pa_cons (pe_lc (own := [("number", 2)]) (g := gName 2) (tt := tYes) rfl nd (pi_list (pv 0)) (blkOk_by (N := N_divided) (sc := defScope s_divided) (by decide +kernel)) (fun _ _ _ _ _ => pg_name (i := 2) nd rfl (Or.inl rfl)) (fun _ _ _ _ _ => pts_nil)
          (fun _ _ _ _ _ => pe_op op_fdivW (pv 2) (pv 1))) pa_nil)))))), ?_⟩
    refine st_asg (R := R0) (P := Is (.int 0)) gv_c trivial fun v1 H1 e1 _ hv1 => ?_
    subst hv1
    have e1 := r0_ex e1
    have a1 := e1 _ _ ha
    show tSeq (tFor _ _ _) _ _ [some (.ref a), some (.int 0), none] H1
    refine st_for (R := R0) (n := (xs.map V.int).length) (Y := YAt (xs.map V.int)) (gi_lst (gv_var rfl fun H2 e _ => ⟨a, rfl, id, sq_of (r0_ex e _ _ a1)⟩)) trivial (fun i σ' H' => ∃ c : Nat, ∃ s2, σ' = [some (.ref a), some (.int (c : Int)), s2] ∧ c ≤ 4 * bigB) (fun H2 e2 _ => ⟨0, none, rfl, by decide⟩) (fun i x σ' H' H'' hi r' _ hp y => ?_) (fun σ' H2 r' _ hp => ?_)
    · obtain ⟨c, s2, rfl, hc⟩ := hp
      obtain ⟨rfl, hx⟩ := y
      rw [List.length_map] at hi
      rw [List.getElem?_map, List.getElem?_eq_getElem hi] at hx
      have hx : V.int xs[i] = x := Option.some.inj hx
      subst hx
      refine g_name ?_
      show tAsg _ _ _ [some (.ref a), some (.int (c : Int)), some (.int xs[i])] H''
      refine st_asg1 (R := R0) (P := Is (.int ((Nat.gcd (c : Int).natAbs xs[i].natAbs : Nat) : Int))) (gv_cb (ga_k (gv_varI rfl) (ga_k (gv_varI rfl) ga_n)) fun vs H2 _ o2 h Q k => ⟨_, _, h, k _ H2 (Rel.refl _) o2 rfl⟩) trivial fun v H2 e2 _ hv => ⟨e2, trivial, Nat.gcd (c : Int).natAbs xs[i].natAbs, some (.int xs[i]), by rw [hv]; rfl, ?_⟩
      have hx := lim _ (List.getElem_mem hi)
      by_cases z : xs[i].natAbs = 0
      · rw [z, Nat.gcd_zero_right, Int.natAbs_natCast]; exact hc
      · exact Nat.le_trans (Nat.gcd_le_right _ (Nat.pos_of_ne_zero z)) hx
    · obtain ⟨c, s2, rfl, hc⟩ := hp
      have a2 := r0_ex r' _ _ a1
      refine st_ret (R := R0) (P := fun v H => ∃ rs : List Int, rs.length = xs.length ∧ Row K rs v H) ?_ trivial fun v H3 e3 _ hv => q v H3 ((e1.trans (r0_ex r')).trans (r0_ex e3)) hv
      refine gv_if (A := (· = decide (c = 0))) (gt_is (gt_test (gv_eq (gv_varI rfl) gv_c rfl)) (decide_eq_decide.mpr ⟨fun z => by have := V.int.inj z; omega, fun z => by rw [z]; rfl⟩)) (fun e => ?_) (fun e => ?_)
      · exact (gv_tuple (xs := xs.map V.int) (gv_var rfl fun H3 e _ => ⟨a, rfl, id, r0_ex e _ _ a2⟩)).imp fun v H' _ p => ⟨xs, rfl, p⟩
      · have e := of_decide_eq_false e.symm
        refine (gv_tuple (xs := (xs.map fun x => x / (c : Int)).map V.int) ?_).imp fun v H' _ p => ⟨_, by simp, p⟩
        refine Gv.imp (gv_new (f := fun _ => true) (n := (xs.map V.int).length) (h := fun j => .int (xs.getD j 0 / (c : Int))) (gv_lcN (f := fun _ => true) (Pe := fun _ j => Is (.int (xs.getD j 0 / (c : Int)))) (gi_lst (xs := xs.map V.int) (gv_var rfl fun H3 e _ => ⟨a, rfl, id, sq_of (r0_ex e _ _ a2)⟩)) (by rw [List.length_map]; omega) trivial (fun _ _ => mo_is) (fun x => rfl) fun D j x H3 hx t o => ⟨gt_yes, fun _ => ?_⟩)) fun v H' _ p => ?_
        · rw [List.getElem?_map] at hx
          cases qx : xs[j]? with
          | none => rw [qx] at hx; cases hx
          | some z =>
            rw [qx] at hx
            have e1 : V.int z = x := Option.some.inj hx
            subst e1
            have e2 : xs.getD j 0 = z := by rw [List.getD_eq_getElem?_getD, qx]; rfl
            rw [e2]
            exact gv_divW4 (gv_varI rfl) (gv_varI rfl) (by omega) (by omega)
        · rw [idx_all (fun _ _ => rfl), List.length_map] at p
          rw [List.map_map]
          have e4 := map_range_get (fun x => V.int (x / (c : Int))) xs
          rw [show (List.map (V.int ∘ fun x => x / (c : Int)) xs) = xs.map (fun x => V.int (x / (c : Int))) from rfl, ← e4]
          exact p
end
end Tm
end
section
set_option Elab.async false
set_option linter.all false
set_option maxRecDepth 100000
set_option maxHeartbeats 4000000
set_option exponentiation.threshold 100000
namespace Tm
open PySem PySem.Spec PyProof.Rows L2
section
variable {R : Rel} {K : PySem.W.Frag} {σ : L2.St} {H : Hp} {ta tb te tl : TE}
/-- tuple(a tuple) -/
theorem gv_tupleT {P : Pv} (ha : Gv R ta σ H P) (hp : ∀ v H, P v H → ∃ a xs, v = .ref a ∧ SqT K H a xs) : Gv R (tCB (fun xs H Q => ∃ p ys, xs = [.ref p] ∧ ((SqL K H p ys ∧ ∀ l, H l = none → Q (.ref l) (upd H l (.tup ys))) ∨ (SqT K H p ys ∧ Q (.ref p) H))) (tCons ta tNil)) σ H P := fun H1 e o Q k =>
  ha H1 e o _ fun v H2 e2 o2 p => by
    obtain ⟨a, xs, h1, h2⟩ := hp v H2 p
    subst h1
    exact ⟨a, xs, rfl, .inr ⟨h2, k _ H2 e2 o2 p⟩⟩
/-- list(a tuple) -/
theorem gv_listT {xs : List V} (ha : Gv R ta σ H (RowV K xs)) : Gv R (tCB (fun xs H Q => ∃ p ys, xs = [.ref p] ∧ (SqL K H p ys ∨ SqT K H p ys) ∧ ∀ l, H l = none → Q (.ref l) (upd H l (.lst ys))) (tCons ta tNil)) σ H (New R xs) := fun H1 e o Q k =>
  ha H1 e o _ fun v H2 e2 o2 ⟨a, h1, h2⟩ => ⟨a, xs, by rw [h1], .inr h2, fun l hl => k _ _ (Rel.trans e2 (Rel.ex (Ex.new hl))) (R.ext _ _ (Ex.new hl) o2) ⟨l, rfl, R.notW o2 hl, upd_same⟩⟩
/-- the rows of a tuple, walked -/
def YRow (K : PySem.W.Frag) (rs : List (List Int)) (i : Nat) (H : Hp) (x : V) (H' : Hp) : Prop := H' = H ∧ Row K (rs.getD i []) x H
theorem gi_rows {rs : List (List Int)} (h : Gv R tl σ H (RowsT K rs)) : GvIt R (iTup K tl) σ H rs.length (YRow K rs) := fun H1 e o Q k => h H1 e o _ fun v H2 e2 o2 ⟨a, ys, h1, h2, h3⟩ => by
  have wk : Walk (Itt K a) ys.length (fun H => SqT K H a ys) (YAt ys) := walk_tup
  have hl := h3.1
  refine ⟨a, h1, ⟨ys, h2⟩, k _ H2 (fun H => SqT K H a ys ∧ Al (Row K) rs ys H) e2 o2 ⟨fun i H hi q => wk.goes i H (by omega) q.1, fun H q => by rw [← hl]; exact wk.stops H q.1, fun i H x H' hi q y => ?_⟩ (fun H3 e3 o3 => ⟨mo_tup (Rel.rq e3) o2 h2, al_row (Rel.rq e3) o2 h3⟩) fun D H3 t => ⟨t.tup h2, al_thru t h3⟩⟩
  obtain ⟨y1, y2⟩ := wk.yields i H x H' (by omega) q.1 y
  refine ⟨y1, ?_⟩
  have ei : rs.getD i [] = rs[i] := by simp [List.getD_eq_getElem?_getD, hi]
  rw [ei]
  exact q.2.2 i x rs[i] y2 (List.getElem?_eq_getElem hi)
/-- a comprehension over the rows of a tuple, a name for each -/
theorem gv_lcR {rs : List (List Int)} {tt : TT} {vs : List Nat} {j : Nat} (f : Nat → Bool) (Pe : Rel → Nat → Pv) (hl : Gv R tl σ H (RowsT K rs)) (hn : rs.length ≤ 40000) (o0 : R.ok H) (mo : ∀ D i, Mo (R.wth D) (Pe (R.wth D) i)) (hw : ∀ x, wipe ((wipe σ vs).set j (some x)) vs = wipe σ vs)
    (hs : ∀ D i x H1, i < rs.length → Row K (rs.getD i []) x H1 → Thru R D H H1 → (R.wth D).ok H1 → GvT (R.wth D) tt ((wipe σ vs).set j (some x)) H1 (· = f i) ∧ (f i = true → Gv (R.wth D) te ((wipe σ vs).set j (some x)) H1 (Pe (R.wth D) i))) :
    Gv R (tLc (iTup K tl) (gName j) tt te vs) σ H (fun v H' => ∃ D ys, v = .ref D ∧ ¬ R.W D ∧ H' D = some (.lst ys) ∧ Fits (Pe (R.wth D)) (idx f rs.length) ys H') :=
  gv_lc f Pe (gi_rows hl) hn o0 mo fun D i x H1 H2 hi t o y => by
    obtain ⟨rfl, hx⟩ := y
    obtain ⟨h1, h2⟩ := hs D i x H2 hi hx t o
    exact ⟨_, fun Q q => q, Rel.refl _, o, hw x, h1, h2⟩
/-- [list(r) + [e] for r in rows] -/
theorem gv_colsL {rs : List (List Int)} {e : Int} {j : Nat} {vs : List Nat} (hl : Gv R tl σ H (RowsT K rs)) (o0 : R.ok H) (few : rs.length ≤ 1000) (len : ∀ r ∈ rs, r.length ≤ 1000) (hj : ∀ x, ((wipe σ vs).set j (some x))[j]? = some (some x)) (hw : ∀ x, wipe ((wipe σ vs).set j (some x)) vs = wipe σ vs) :
    Gv R (tLc (iTup K tl) (gName j) tYes (tOp rCat (tCB (fun xs H Q => ∃ p ys, xs = [.ref p] ∧ (SqL K H p ys ∨ SqT K H p ys) ∧ ∀ l, H l = none → Q (.ref l) (upd H l (.lst ys))) (tCons (tVar j) tNil)) (tLst (tCons (tC (.int e)) tNil))) vs) σ H (LL R (rs.map fun r => r ++ [e])) := by
  refine Gv.imp (gv_lcR (R := R) (fun _ => true) (fun R i => New R ((rs.getD i [] ++ [e]).map V.int)) hl (by omega) o0 (fun _ _ => mo_new) hw fun D i x H1 hi hx t o => ⟨gt_yes, fun _ => ?_⟩) fun v H' o ⟨D, zs, h1, h2, h3, h4⟩ => ?_
  · have ei : rs.getD i [] = rs[i] := by simp [List.getD_eq_getElem?_getD, hi]
    have := len rs[i] (List.getElem_mem hi)
    rw [ei] at hx ⊢
    rw [List.map_append]
    exact gv_catL (gv_listT (gv_slot mo_row o (hj x) hx)) (gv_lstK (ga_k gv_c ga_n) (by simp)) (by simp; omega)
  · rw [idx_all (fun _ _ => rfl)] at h4
    refine ⟨D, zs, h1, h2, h3, by rw [h4.1]; simp, fun i y r a b => ?_⟩
    rw [List.getElem?_map] at b
    cases q : rs[i]? with
    | none => rw [q] at b; cases b
    | some r' =>
      rw [q] at b
      have b : r' ++ [e] = r := Option.some.inj b
      subst b
      have hi : i < rs.length := (List.getElem?_eq_some_iff.mp q).1
      have ei : rs.getD i [] = r' := by rw [List.getD_eq_getElem?_getD, q]; rfl
      obtain ⟨a', z1, z2, z3⟩ := h4.2 i i y (by simp [hi]) a
      rw [ei] at z3
      exact ⟨a', z1, fun m => z2 (.inl m), z3⟩
theorem gv_catLL {rs ts : List (List Int)} (ha : Gv R ta σ H (LL R rs)) (hb : Gv R tb σ H (LL R ts)) (hl : rs.length + ts.length ≤ 100000) : Gv R (tOp rCat ta tb) σ H (LL R (rs ++ ts)) :=
  gv_op ha hb mo_LL fun x y H1 e o ⟨a, xs, h1, m1, h2, h3⟩ ⟨b, ys, h4, m2, h5, h6⟩ Q k => ⟨a, b, xs, ys, h1, h4, h2, h5, sz_of (by rw [h3.1, h6.1]; exact hl), fun p np => k _ _ (Rel.ex (Ex.new np)) (R.ext _ _ (Ex.new np) o) ⟨p, xs ++ ys, rfl, R.notW o np, upd_same, al_new (R := R) (Rel.ex (Ex.new np)) o (al_append h3 h6)⟩⟩
theorem LL.pll {rs : List (List Int)} {v : V} (h : LL R rs v H) : PLL rs v H := by
  obtain ⟨a, vs, h1, _, h2, h3⟩ := h
  exact ⟨a, vs, h1, h2, al_mono h3 (Pe := fun r => New R (r.map V.int)) (fun _ _ h => h) |> fun h => al_mono' h fun r y ⟨a, z1, _, z2⟩ => ⟨a, z1, z2⟩⟩
theorem st_asgS {σ : L2.St} {H : Hp} {te : TE} {P : Pv} {D : L2.Ends} {g : TG} {u : TS} (h : Gv R te σ H P) (o : R.ok H) (k : ∀ v H2, R.r H H2 → R.ok H2 → P v H2 → g v σ H2 fun σ3 H3 => u D σ3 H3) : tSeq (tAsg te g) u D σ H := h H (Rel.refl H) o _ k
/-- a pair's items, taken apart -/
theorem g_two {i j : Nat} {T : Addr} {x y : V} {σ : L2.St} {H : Hp} {Q : L2.St → Hp → Prop} (ht : SqT K H T [x, y]) (h : Q ((σ.set i (some x)).set j (some y)) H) : gTup K 2 (gCons (gName i) (gCons (gName j) gNil)) (.ref T) σ H Q :=
  ⟨T, [x, y], rfl, ht, rfl, x, [y], rfl, y, [], rfl, rfl, h⟩
end
section
variable {K : PySem.W.Frag} {C : Addr} {P : Program} {w : World} {mg : Str → Option Value} {base : Heap}
/-! bound_wall -/
theorem sc_bound_wall : FnScope ["width"] ["width"] (defScope s_bound_wall) := ⟨rfl, rfl, rfl, by decide +kernel, rfl, by decide +kernel, by decide +kernel⟩
theorem do_bound_wall (T : Txt K mg C) : Does P w K mg base 1 "bound_wall" ["width"] (PrG (fun (W : Nat) vs H => vs = [.int (W : Int)] ∧ 1 ≤ W ∧ W ≤ 1000) fun W => Row K (boundRow W)) :=
  mk_doesG T.bound_wall sc_bound_wall (fun _ _ _ _ _ _ us hl => match us, hl with | [_], _ => rfl) (fun g vs H h => by obtain ⟨rfl, _⟩ := h; rfl) fun f cdv A outer s H vs Q E W hr h q => by
    obtain ⟨rfl, h1, h2⟩ := h
    refine ⟨_, pss_one (ps_ret (pe_op op_catA (pe_op op_repA (pe_tup (pa_cons pe_int pa_nil)) (pe_op op_sub (pv 0) pe_int)) (pe_tup (pa_cons pe_int pa_nil)))), ?_⟩
    refine st_ret (R := R0) (P := Row K (boundRow W)) ?_ trivial fun v H1 e _ p => q v H1 (r0_ex e) p
    have g1 := gv_zeros (R := R0) (K := K) (σ := start ["width"] [.int (W : Int)]) (H := H) (tb := tOp (rI0 fun i j => .int (i - j)) (tVar 0) (tC (.int 1))) (k := (W : Int) - 1) (gv_sub (gv_varI rfl) gv_c) (by omega) (by omega)
    rw [show ((W : Int) - 1).toNat = W - 1 by omega] at g1
    exact gv_catR g1 (gv_tup1 gv_c) (by simp; omega)
/-! columns_for -/
abbrev N_cols : List Str := ["width", "walls", "stricts", "more", "found", "wall"]
theorem sc_columns_for : FnScope N_cols ["width", "walls", "stricts", "more"] (defScope s_columns_for) := ⟨rfl, rfl, rfl, by decide +kernel, rfl, by decide +kernel, by decide +kernel⟩
structure RoomG where
  W : Nat
  ws : List (List Int)
  ss : List (List Int)
  mo : List Int
/-- a room and one wall more -/
structure RoomG.Ok (g : RoomG) : Prop where
  w : g.W = 2 ∨ g.W = 3
  l1 : ∀ r ∈ g.ws, r.length = g.W
  l2 : ∀ r ∈ g.ss, r.length = g.W
  l3 : g.mo.length = g.W
  b1 : ∀ r ∈ g.ws, Lim 1000000 r
  b2 : ∀ r ∈ g.ss, Lim 1000000 r
  b3 : Lim 1000000 g.mo
  few : g.ws.length + g.ss.length ≤ 50
theorem RoomG.Ok.cols {g : RoomG} (h : g.Ok) : Cols (colsOf g.W g.ws g.ss g.mo) (wantOf g.W) := cols_ok h.w h.l1 h.l2 h.l3 h.b1 h.b2 h.b3 h.few
abbrev preRoom (K : PySem.W.Frag) (g : RoomG) (vs : List V) (H : Hp) : Prop := ∃ v u y, vs = [.int (g.W : Int), v, u, y] ∧ RowsT K g.ws v H ∧ RowsT K g.ss u H ∧ RowsT K [g.mo] y H ∧ g.Ok
theorem rowsT_tup {rs : List (List Int)} {v : V} {H : Hp} (h : RowsT K rs v H) : ∃ a xs, v = .ref a ∧ SqT K H a xs := by
  obtain ⟨a, vs, h1, h2, _⟩ := h
  exact ⟨a, vs, h1, h2⟩
theorem do_columns_for (T : Txt K mg C) : Does P w K mg base 2 "columns_for" ["width", "walls", "stricts", "more"] (PrG (fun (g : RoomG) vs H => preRoom K g vs H) fun g => PLL (colsOf g.W g.ws g.ss g.mo)) :=
  mk_doesG T.columns_for sc_columns_for (fun _ _ _ _ _ _ us hl => match us, hl with | [_, _, _, _], _ => rfl) (fun g vs H h => by obtain ⟨v, u, y, rfl, _⟩ := h; rfl) fun f cdv A outer s H vs Q E g hr h q => by
    obtain ⟨v, u, y, rfl, hv, hu, hy, ok⟩ := h
    have nd := (sc_columns_for).nd
    have hW := ok.w
    have hfew := ok.few
    refine ⟨_, pss_cons (ps_setLc (i := 4) (own := [("wall", 5)]) (g := gName 5) (tt := tYes) rfl nd rfl rfl (sw_true rfl rfl rfl (by decide +kernel)) (pi_tup (pv 1)) (blkOk_by (N := N_cols) (sc := defScope s_columns_for) (by decide +kernel)) (fun _ _ _ _ _ => pg_name (i := 5) nd rfl (Or.inl rfl)) (fun _ _ _ _ _ => pts_nil)
        (fun _ _ _ _ _ => pe_op op_cat (pe_callTy (r := fun xs H Q => ∃ p ys, xs = [.ref p] ∧ (SqL K H p ys ∨ SqT K H p ys) ∧ ∀ l, H l = none → Q (.ref l) (upd H l (.lst ys))) call_list_of (by rfl) T.z_list (by decide +kernel) (pa_cons (pv 5) pa_nil)) (pe_lst (pa_cons pe_int pa_nil))))
      (pss_one (ps_ret (pe_op op_cat (pv 4) (pe_lc (own := [("wall", 5)]) (g := gName 5) (tt := tYes) rfl nd (pi_tup (pe_op op_catA (pe_op op_catA (pe_callTy call_tuple_of (by rfl) T.z_tuple (by decide +kernel) (pa_cons (pv 2) pa_nil)) (pe_tup (pa_cons (pe_do (do_bound_wall T) hr (by rfl) (pa_cons (pv 0) pa_nil)) pa_nil))) (pe_callTy call_tuple_of (by rfl) T.z_tuple (by decide +kernel) (pa_cons (pv 3) pa_nil))))
        (blkOk_by (N := N_cols) (sc := defScope s_columns_for) (by decide +kernel)) (fun _ _ _ _ _ => pg_name (i := 5) nd rfl (Or.inl rfl)) (fun _ _ _ _ _ => pts_nil)
        (fun _ _ _ _ _ => pe_op op_cat (pe_callTy (r := fun xs H Q => ∃ p ys, xs = [.ref p] ∧ (SqL K H p ys ∨ SqT K H p ys) ∧ ∀ l, H l = none → Q (.ref l) (upd H l (.lst ys))) call_list_of (by rfl) T.z_list (by decide +kernel) (pa_cons (pv 5) pa_nil)) (pe_lst (pa_cons pe_int pa_nil))))))), ?_⟩
    refine st_asg (R := R0) (P := LL R0 (g.ws.map fun r => r ++ [0])) (gv_colsL (gv_slot mo_rowsT trivial rfl hv) trivial (by omega) (fun r hr => by rw [ok.l1 r hr]; omega) (fun x => rfl) (fun x => rfl)) trivial fun v4 H1 e1 _ hv4 => ?_
    have e1 := r0_ex e1
    have hu1 := mo_rowsT (R := R0) u H H1 (Rel.ex e1) trivial hu
    have hy1 := mo_rowsT (R := R0) y H H1 (Rel.ex e1) trivial hy
    show tRet _ _ [some (.int (g.W : Int)), some v, some u, some y, some v4, none] H1
    refine st_ret (R := R0) (P := LL R0 (colsOf g.W g.ws g.ss g.mo)) ?_ trivial fun v H2 e2 _ p => q v H2 (e1.trans (r0_ex e2)) p.pll
    unfold colsOf
    have hl : ∀ r ∈ g.ss ++ [boundRow g.W] ++ [g.mo], r.length ≤ 1000 := fun r hr => by
      rcases List.mem_append.mp hr with hr | hr
      · rcases List.mem_append.mp hr with hr | hr
        · rw [ok.l2 r hr]; omega
        · rw [List.mem_singleton.mp hr, boundRow_len (by omega)]; omega
      · rw [List.mem_singleton.mp hr, ok.l3]; omega
    refine gv_catLL (gv_slot mo_LL trivial rfl hv4) (gv_colsL (rs := g.ss ++ [boundRow g.W] ++ [g.mo]) ?_ trivial (by simp; omega) hl (fun x => rfl) (fun x => rfl)) (by simp; omega)
    refine gv_catRows (gv_catRows (gv_tupleT (gv_slot mo_rowsT trivial rfl hu1) fun _ _ h => rowsT_tup h) (gv_oneRow ?_) (by simp; omega)) (gv_tupleT (gv_slot mo_rowsT trivial rfl hy1) fun _ _ h => rowsT_tup h) (by simp; omega)
    exact gv_call (pre := fun (W : Nat) vs H => vs = [.int (W : Int)] ∧ 1 ≤ W ∧ W ≤ 1000) (post := fun W => Row K (boundRow W)) g.W (ga_k (gv_varI rfl) ga_n) (fun vs H1 _ _ h => ⟨h, by omega, by omega⟩) fun v H1 _ _ p => p
end
end Tm
end
section
set_option Elab.async false
set_option linter.all false
set_option maxRecDepth 100000
set_option maxHeartbeats 4000000
set_option exponentiation.threshold 100000
namespace Tm
open PySem PySem.Spec PyProof.Rows L2
section
variable {R : Rel} {K : PySem.W.Frag} {σ : L2.St} {H : Hp} {ta tb te tl : TE}
theorem PL.new {xs : List Int} {v : V} (h : New R (xs.map V.int) v H) : PL xs v H := by
  obtain ⟨a, h1, _, h2⟩ := h
  exact ⟨a, h1, h2⟩
theorem cut_init' {xs : List V} (h : xs ≠ []) : cutV xs none (some (-1)) = xs.dropLast := cut_init h
end
section
variable {K : PySem.W.Frag} {C : Addr} {P : Program} {w : World} {mg : Str → Option Value} {base : Heap}
/-! paper_of -/
abbrev N_paper : List Str := ["width", "walls", "stricts", "more", "weights", "other"]
theorem sc_paper_of : FnScope N_paper ["width", "walls", "stricts", "more"] (defScope s_paper_of) := ⟨rfl, rfl, rfl, by decide +kernel, rfl, by decide +kernel, by decide +kernel⟩
def Papers (K : PySem.W.Frag) (cs : List (List Int)) (wt : List Int) : Pv := fun v H =>
  (NoBar cs wt ∧ ∃ T a xs, v = .ref T ∧ SqT K H T [.ref a, .non] ∧ SqT K H a ((xs : List Int).map V.int) ∧ xs.length = cs.length) ∨
  ((∃ rs : List Int, rs.length = wt.length ∧ Bars cs wt rs) ∧ ∃ T y, v = .ref T ∧ SqT K H T [.non, y])
theorem do_paper_of (T : Txt K mg C) : Does P w K mg base 4 "paper_of" ["width", "walls", "stricts", "more"] (PrG (fun (g : RoomG) vs H => preRoom K g vs H) fun g => Papers K (colsOf g.W g.ws g.ss g.mo) (wantOf g.W)) :=
  mk_doesG T.paper_of sc_paper_of (fun _ _ _ _ _ _ us hl => match us, hl with | [_, _, _, _], _ => rfl) (fun g vs H h => by obtain ⟨v, u, y, rfl, _⟩ := h; rfl) fun f cdv A outer s H vs Q E g hr h q => by
    obtain ⟨v, u, y, rfl, hv, hu, hy, ok⟩ := h
    have nd := (sc_paper_of).nd
    have hW := ok.w
    have hfew := ok.few
    have hr1 : Room 1 _ := hr.mono (by decide)
    have hr2 : Room 2 _ := hr.mono (by decide)
    refine ⟨_, pss_cons (ps_asg (pe_do (do_solved T) hr (by rfl) (pa_cons (pe_do (do_columns_for T) hr2 (by rfl) (pa_cons (pv 0) (pa_cons (pv 1) (pa_cons (pv 2) (pa_cons (pv 3) pa_nil))))) (pa_cons (pe_op op_cat (pe_op op_rep (pe_lst (pa_cons pe_int pa_nil)) (pv 0)) (pe_lst (pa_cons pe_int pa_nil))) pa_nil)))
        (pg_tup rfl (pgs_cons (pg_name (i := 4) nd rfl (Or.inl rfl)) (pgs_cons (pg_name (i := 5) nd rfl (Or.inl rfl)) pgs_nil))))
      (pss_cons (ps_if (pt_cmp (pc_isN (pv 4))) (pss_one (ps_ret (pe_tup (pa_cons pe_non (pa_cons (pe_do (do_divided T) hr1 (by rfl) (pa_cons (pe_slice sl_list (pv 5) po_none (po_some (pe_un un_neg pe_int))) pa_nil)) pa_nil))))) pss_nil)
      (pss_one (ps_ret (pe_tup (pa_cons (pe_do (do_divided T) hr1 (by rfl) (pa_cons (pv 4) pa_nil)) (pa_cons pe_non pa_nil)))))), ?_⟩
    have hC := ok.cols
    refine st_asgS (R := R0) (P := Solved (colsOf g.W g.ws g.ss g.mo) (wantOf g.W)) ?_ trivial fun v4 H1 e1 _ hv4 => ?_
    · refine gv_call (pre := fun (g : List (List Int) × List Int) vs H => ∃ c u, vs = [c, u] ∧ PLL g.1 c H ∧ PL g.2 u H ∧ Cols g.1 g.2) (post := fun g => Solved g.1 g.2) (colsOf g.W g.ws g.ss g.mo, wantOf g.W) (ga_2 (Pa := PLL (colsOf g.W g.ws g.ss g.mo)) (Pb := New R0 ((wantOf g.W).map V.int)) ?_ ?_ ?_) (fun vs H1 _ _ ⟨v, w, h1, h2, h3⟩ => ⟨v, w, h1, h2, .new h3, hC⟩) fun v H1 _ _ p => p
      · exact gv_call (pre := fun (g : RoomG) vs H => preRoom K g vs H) (post := fun g => PLL (colsOf g.W g.ws g.ss g.mo)) g (ga_cons (gv_varI rfl) mo_is (ga_cons (gv_slot mo_rowsT trivial rfl hv) mo_rowsT (ga_2 (gv_slot mo_rowsT trivial rfl hu) mo_rowsT (gv_slot mo_rowsT trivial rfl hy)))) (fun vs H1 _ _ h => by
          obtain ⟨a1, r1, rfl, rfl, a2, r2, rfl, h2, a3, a4, rfl, h3, h4⟩ := h
          exact ⟨a2, a3, a4, rfl, h2, h3, h4, ok⟩) fun v H1 _ _ p => p
      · exact fun v H H' e _ ⟨a, vs, h1, h2, h3⟩ => ⟨a, vs, h1, r0_ex e _ _ h2, al_mono h3 fun r y ⟨a, z1, z2⟩ => ⟨a, z1, r0_ex e _ _ z2⟩⟩
      · have er : (wantOf g.W).map V.int = (List.replicate g.W [V.int 0]).flatten ++ [V.int 1] := by rw [flat_zero]; simp [wantOf]
        rw [er]
        exact gv_catL (gv_repL (gv_lstK (ga_k gv_c ga_n) (by simp)) (gv_varI rfl) (by simp; omega) (by omega)) (gv_lstK (ga_k gv_c ga_n) (by simp)) (by rw [flat_zero]; simp; omega)
    · have e1 := r0_ex e1
      have lcs : (colsOf g.W g.ws g.ss g.mo).length ≤ 1000 := by have := hC.few; omega
      rcases hv4 with ⟨nb, Tp, a, ws, d, rfl, hT, ha, lw, bw⟩ | ⟨Tp, a, rs, rfl, hT, ha, lr, br, bars⟩
      · refine g_two (st_of hT) ?_
        show tSeq _ _ _ [some (.int (g.W : Int)), some v, some u, some y, some (.ref a), some (.int d)] H1
        refine st_when (R := R0) (B := (· = false)) (gt_B fun H4 e o Q k => ⟨_, rfl, k _ H4 (Rel.refl _) o rfl⟩) trivial (fun _ _ _ z => Bool.noConfusion z) fun H2 e2 _ _ => ?_
        have e2 := r0_ex e2
        refine st_ret (R := R0) (P := Papers K (colsOf g.W g.ws g.ss g.mo) (wantOf g.W)) ?_ trivial fun v H3 e3 _ p => q v H3 ((e1.trans e2).trans (r0_ex e3)) p
        refine gv_tup (ga_2 (Pa := fun v H => ∃ rs : List Int, rs.length = ws.length ∧ Row K rs v H) (Pb := Is .non) ?_ ?_ gv_c) (fun vs H1 ⟨v, w, e, _⟩ => by rw [e]; simp) fun vs H4 p e o ⟨v, w, h1, ⟨rs, h2, b, h3, h4⟩, h5⟩ np => .inl ⟨nb, p, b, rs, rfl, by rw [h1, h3, h5]; exact st_of upd_same, mo_tup (R := R0) (Rel.ex (Ex.new np)) trivial h4, by rw [h2, lw]⟩
        · exact gv_call (pre := fun (xs : List Int) vs H => ∃ v, vs = [v] ∧ PL xs v H ∧ xs.length ≤ 1000 ∧ Lim (4 * bigB) xs) (post := fun xs v H => ∃ rs, rs.length = xs.length ∧ Row K rs v H) ws (ga_1 (P := PL ws) (gv_var rfl fun H1 e _ => ⟨a, rfl, r0_ex e _ _ (e2 _ _ ha)⟩)) (fun vs H1 _ _ ⟨v, h1, h2⟩ => ⟨v, h1, h2, by omega, bw⟩) fun v H1 _ _ p => p
        · exact fun v H H' e o ⟨rs, h1, h2⟩ => ⟨rs, h1, mo_row v H H' e o h2⟩
      · refine g_two (st_of hT) ?_
        show tSeq _ _ _ [some (.int (g.W : Int)), some v, some u, some y, some .non, some (.ref a)] H1
        refine st_when (R := R0) (B := (· = true)) (gt_B fun H4 e o Q k => ⟨_, rfl, k _ H4 (Rel.refl _) o rfl⟩) trivial (fun H2 e2 _ _ => ?_) fun _ _ _ z => Bool.noConfusion z
        have e2 := r0_ex e2
        have lw2 : (wantOf g.W).length ≤ 1000 := by rw [want_len]; omega
        refine st_ret (R := R0) (P := Papers K (colsOf g.W g.ws g.ss g.mo) (wantOf g.W)) ?_ trivial fun v H3 e3 _ p => q v H3 ((e1.trans e2).trans (r0_ex e3)) p
        refine gv_tup (ga_2 (Pa := Is .non) (Pb := fun v H => True) gv_c mo_is ?_) (fun vs H1 ⟨v, w, e, _⟩ => by rw [e]; simp) fun vs H4 p e o ⟨v, w, h1, h2, _⟩ np => .inr ⟨⟨rs, lr, bars⟩, p, w, rfl, by rw [h1, h2]; exact st_of upd_same⟩
        refine gv_call (pre := fun (xs : List Int) vs H => ∃ v, vs = [v] ∧ PL xs v H ∧ xs.length ≤ 1000 ∧ Lim (4 * bigB) xs) (post := fun xs v H => ∃ rs, rs.length = xs.length ∧ Row K rs v H) rs.dropLast (ga_1 (P := New R0 (rs.dropLast.map V.int)) ?_) (fun vs H1 _ _ ⟨v, h1, h2⟩ => ⟨v, h1, .new h2, by simp; omega, fun x hx => br x (List.dropLast_subset _ hx)⟩) fun v H1 _ _ p => trivial
        have hne : rs ≠ [] := fun e => by rw [e, want_len] at lr; simp at lr
        have : cutV (rs.map V.int) none (some (-1)) = rs.dropLast.map V.int := by rw [cut_init (by simpa using hne), List.map_dropLast]
        rw [← this]
        exact gv_sliceL (gv_var rfl fun H1 e _ => ⟨a, rfl, id, sq_of (r0_ex e _ _ (e2 _ _ ha))⟩) go_none (go_part gv_neg1)
end
end Tm
end
section
set_option Elab.async false
set_option linter.all false
set_option maxRecDepth 100000
set_option maxHeartbeats 4000000
set_option exponentiation.threshold 100000
namespace Tm
open PySem PySem.Spec PyProof.Rows L2
section
variable {R : Rel} {K : PySem.W.Frag} {σ : L2.St} {H : Hp} {ta tb te tl : TE}
theorem gv_sliceAny {xs : List V} {lo hi : Option Int} {tl th : TO} (ha : Gv R ta σ H (RowV K xs)) (hl : GvO R tl σ H lo) (hh : GvO R th σ H hi) : Gv R (tSl (rSlA K) ta tl th) σ H (fun _ _ => True) := fun H1 e o Q k =>
  ha H1 e o _ fun v H2 e2 o2 ⟨a, h1, h2⟩ => hl H2 (Rel.trans e e2) o2 _ fun H3 e3 o3 => hh H3 (Rel.trans e (Rel.trans e2 e3)) o3 _ fun H4 e4 o4 =>
    ⟨a, xs, h1, mo_tup (Rel.rq e4) o3 (mo_tup (Rel.rq e3) o2 h2), fun _ => k _ H4 (Rel.trans e2 (Rel.trans e3 e4)) o4 trivial, fun _ p np => k _ _ (Rel.trans e2 (Rel.trans e3 (Rel.trans e4 (Rel.ex (Ex.new np))))) (R.ext _ _ (Ex.new np) o4) trivial⟩
theorem gv_lenT {rs : List (List Int)} (ha : Gv R ta σ H (RowsT K rs)) : Gv R (tCB (fun xs H Q => ∃ p ys, xs = [.ref p] ∧ (SqL K H p ys ∨ SqT K H p ys) ∧ Q (.int ys.length) H) (tCons ta tNil)) σ H (Is (.int rs.length)) :=
  gv_len (ha.imp fun v H' o ⟨a, vs, h1, h2, h3⟩ => ⟨a, _, h1, .inr h2, by rw [h3.1]⟩)
theorem gv_any {P : Pv} (h : Gv R te σ H P) : Gv R te σ H (fun _ _ => True) := h.imp fun _ _ _ _ => trivial
theorem mo_any : Mo R (fun _ _ => True) := fun _ _ _ _ _ _ => trivial
end
section
variable {K : PySem.W.Frag} {C : Addr} {P : Program} {w : World} {mg : Str → Option Value} {base : Heap}
/-! unit_paper -/
abbrev N_unit : List Str := ["walls", "stricts", "wall", "at", "other", "place"]
theorem sc_unit_paper : FnScope N_unit ["walls", "stricts", "wall"] (defScope s_unit_paper) := ⟨rfl, rfl, rfl, by decide +kernel, rfl, by decide +kernel, by decide +kernel⟩
/-- a tuple of four -/
def Four (K : PySem.W.Frag) : Pv := fun v H => ∃ a xs, v = .ref a ∧ SqT K H a xs ∧ xs.length = 4
theorem mo_four {R : Rel} {K : PySem.W.Frag} : Mo R (Four K) := fun v H H' e o ⟨a, xs, h1, h2, h3⟩ => ⟨a, xs, h1, mo_tup e o h2, h3⟩
theorem gv_ints01 {R : Rel} {σ : L2.St} {H : Hp} {ta : TA} {vs : List Nat} {i n a j : Nat} (hit : GvIt R (iRng1 ta) σ H n (YFn fun i => .int (0 + i))) (hn : n ≤ 1000) (o0 : R.ok H) (hw : ∀ x, wipe ((wipe σ vs).set j (some x)) vs = wipe σ vs) (h1 : ∀ x, ((wipe σ vs).set j (some x))[a]? = some (some (.int (i : Int)))) (h2 : ∀ x, ((wipe σ vs).set j (some x))[j]? = some (some x)) :
    Gv R (tLc (iRng1 ta) (gName j) tYes (tCB (fun xs H Q => (∃ i, xs = [.int i] ∧ Q (.int i) H) ∨ ∃ k, xs = [.bl k] ∧ Q (.int (if k then 1 else 0)) H) (tCons (tOp rEq (tVar a) (tVar j)) tNil)) vs) σ H (New R ((idx (fun _ => true) n).map fun o : Nat => V.int (if decide (V.int (i : Int) = V.int (0 + (o : Int))) then 1 else 0))) :=
  gv_new (gv_lcF (f := fun _ => true) (Pe := fun _ o => Is (.int (if decide (V.int (i : Int) = V.int (0 + (o : Int))) then 1 else 0))) (h := fun j => .int (0 + (j : Int))) hit (by omega) o0 (fun _ _ => mo_is) hw fun D k H1 hk t o => ⟨gt_yes, fun _ =>
    gv_cb (ga_k (gv_eq (gv_varI (h1 _)) (gv_varI (h2 _)) rfl) ga_n) fun vs H2 _ o2 h Q k => Or.inr ⟨_, h, k _ H2 (Rel.refl _) o2 rfl⟩⟩)
theorem do_unit_paper (T : Txt K mg C) : Does P w K mg base 1 "unit_paper" ["walls", "stricts", "wall"]
    (PrG (fun (g : List (List Int) × List (List Int) × List Int) vs H => ∃ v u y, vs = [v, u, y] ∧ RowsT K g.1 v H ∧ RowsT K g.2.1 u H ∧ Row K g.2.2 y H ∧ g.1.length ≤ 1000 ∧ g.2.1.length ≤ 1000) fun g v H => v = .non ∨ ((g.2.2 ∈ g.1 ∨ g.2.2 ∈ g.2.1) ∧ Four K v H)) :=
  mk_doesG T.unit_paper sc_unit_paper (fun _ _ _ _ _ _ us hl => match us, hl with | [_, _, _], _ => rfl) (fun g vs H h => by obtain ⟨v, u, y, rfl, _⟩ := h; rfl) fun f cdv A outer s H vs Q E g hr h q => by
    obtain ⟨ws, ss, r⟩ := g
    obtain ⟨v, u, y, rfl, ⟨a, ys, rfl, hq, al⟩, ⟨b, zs, rfl, hqb, alb⟩, hy, h1, h2⟩ := h
    dsimp only at al alb hy h1 h2 q
    have nd := (sc_unit_paper).nd
    refine ⟨_, pss_cons (ps_for PassesOwn.never rfl (pi_enumT (by rfl) T.z_enumerate (pa_cons (pv 0) pa_nil)) (pg_tup rfl (pgs_cons (pg_name (i := 3) nd rfl (Or.inr rfl)) (pgs_cons (pg_name (i := 4) nd rfl (Or.inl rfl)) pgs_nil)))
        (pss_one (ps_if (pt_cmpR (op_eqD hr.units) (pv 4) (pv 2) (nomark _)) (pss_one (ps_ret (pe_tup (pa_cons pe_int (pa_cons (pe_callTy call_tuple_of (by rfl) T.z_tuple (by decide +kernel) (pa_cons (pe_lc (own := [("place", 5)]) (g := gName 5) (tt := tYes) rfl nd (pi_range1 (by rfl) T.z_range (pa_cons (pe_callB call_len_seq (by rfl) T.z_len boot_len (pa_cons (pv 0) pa_nil)) pa_nil))
            (blkOk_by (N := N_unit) (sc := defScope s_unit_paper) (by decide +kernel)) (fun _ _ _ _ _ => pg_name (i := 5) nd rfl (Or.inl rfl)) (fun _ _ _ _ _ => pts_nil) (fun _ _ _ _ _ => pe_callTy call_int1 (by rfl) T.z_int (by decide +kernel) (pa_cons (pe_cmpR op_eq (pv 3) (pv 5) (nomark _)) pa_nil))) pa_nil))
            (pa_cons (pe_op op_repA (pe_tup (pa_cons pe_int pa_nil)) (pe_callB call_len_seq (by rfl) T.z_len boot_len (pa_cons (pv 1) pa_nil))) (pa_cons pe_int pa_nil))))))) pss_nil)))
      (pss_cons (ps_for PassesOwn.never rfl (pi_enumT (by rfl) T.z_enumerate (pa_cons (pv 1) pa_nil)) (pg_tup rfl (pgs_cons (pg_name (i := 3) nd rfl (Or.inr rfl)) (pgs_cons (pg_name (i := 4) nd rfl (Or.inl rfl)) pgs_nil)))
        (pss_one (ps_if (pt_cmpR (op_eqD hr.units) (pv 4) (pv 2) (nomark _)) (pss_one (ps_ret (pe_tup (pa_cons pe_int (pa_cons (pe_op op_repA (pe_tup (pa_cons pe_int pa_nil)) (pe_callB call_len_seq (by rfl) T.z_len boot_len (pa_cons (pv 0) pa_nil))) (pa_cons (pe_callTy call_tuple_of (by rfl) T.z_tuple (by decide +kernel) (pa_cons (pe_lc (own := [("place", 5)]) (g := gName 5) (tt := tYes) rfl nd (pi_range1 (by rfl) T.z_range (pa_cons (pe_callB call_len_seq (by rfl) T.z_len boot_len (pa_cons (pv 1) pa_nil)) pa_nil))
            (blkOk_by (N := N_unit) (sc := defScope s_unit_paper) (by decide +kernel)) (fun _ _ _ _ _ => pg_name (i := 5) nd rfl (Or.inl rfl)) (fun _ _ _ _ _ => pts_nil) (fun _ _ _ _ _ => pe_callTy call_int1 (by rfl) T.z_int (by decide +kernel) (pa_cons (pe_cmpR op_eq (pv 3) (pv 5) (nomark _)) pa_nil))) pa_nil))
            (pa_cons pe_int pa_nil))))))) pss_nil)))
      (pss_one (ps_ret pe_non))), ?_⟩
    show tSeq (tFor _ _ _) _ _ [some (.ref a), some (.ref b), some y, none, none, none] H
    have four : ∀ {ta tb tc td : TE} {σ : L2.St} {H : Hp}, Gv R0 ta σ H (fun _ _ => True) → Gv R0 tb σ H (fun _ _ => True) → Gv R0 tc σ H (fun _ _ => True) → Gv R0 td σ H (fun _ _ => True) → Gv R0 (tTup (tCons ta (tCons tb (tCons tc (tCons td tNil))))) σ H (Four K) := fun h1 h2 h3 h4 =>
      gv_tup (ga_cons h1 mo_any (ga_cons h2 mo_any (ga_2 h3 mo_any h4))) (fun vs H1 ⟨v1, r1, e1, _, v2, r2, e2, _, v3, v4, e3, _⟩ => by rw [e1, e2, e3]; simp) fun vs H1 p e o ⟨v1, r1, e1, _, v2, r2, e2, _, v3, v4, e3, _⟩ np => ⟨p, _, rfl, st_of upd_same, by rw [e1, e2, e3]; rfl⟩
    refine st_forP (R := R0) (n := ys.length) (gp_enumT (xs := ys) (fun H2 e o Q k => ⟨_, rfl, k _ H2 (Rel.refl _) o ⟨a, rfl, ex_tup (r0_ex e) hq⟩⟩)) trivial (fun i σ' H' => ∃ s3 s4, σ' = [some (.ref a), some (.ref b), some y, s3, s4, none]) (fun H2 e2 => ⟨none, none, rfl⟩) (fun i x σ' H' H'' hi r' _ hp yy => ?_) (fun σ' H1 r1 _ hp => ?_)
    · obtain ⟨s3, s4, rfl⟩ := hp
      obtain ⟨Tp, x1, x2, rfl, nT, rfl, hx1, hx2⟩ := yy
      cases hx1
      have eT : Ex H' (upd H' Tp (.tup [.int (i : Int), x2])) := Ex.new nT
      refine g_pair ?_
      have eH := (r0_ex r').trans eT
      generalize upd H' Tp (.tup [.int (i : Int), x2]) = H2 at *
      have him : i < ws.length := by rw [← al.1]; exact hi
      have hrow := mo_row (R := R0) x2 H H2 (Rel.ex eH) trivial (al.2 i x2 ws[i] hx2 (List.getElem?_eq_getElem him))
      have hy2 := mo_row (R := R0) y H H2 (Rel.ex eH) trivial hy
      show tIfS _ _ _ _ [some (.ref a), some (.ref b), some y, some (.int (i : Int)), some x2, none] H2
      refine st_when1 (R := R0) (B := (· = decide (ws[i] = r))) (gt_test (gv_eqRows (gv_slot mo_row trivial rfl hrow) (gv_slot mo_row trivial rfl hy2))) trivial (fun H3 e3 _ hd => ?_) (fun H3 e3 _ hd => ⟨Rel.ex (eT.trans (r0_ex e3)), trivial, some (.int (i : Int)), some x2, rfl⟩)
      have hd := of_decide_eq_true hd.symm
      have e3 := r0_ex e3
      refine st_ret (R := R0) (P := Four K) (four (gv_any gv_c) (gv_any (gv_tuple (gv_ints01 (i := i) ?_ h1 trivial (fun x => rfl) (fun x => rfl) (fun x => rfl)))) (gv_any (gv_zeros (K := K) (gv_lenT (gv_var rfl fun H4 e _ => ⟨b, zs, rfl, ex_tup ((eH.trans e3).trans (r0_ex e)) hqb, al_row (R := R0) (Rel.ex ((eH.trans e3).trans (r0_ex e))) trivial alb⟩)) (by omega) (by omega))) (gv_any gv_c)) trivial fun v H4 e4 _ hv => q v H4 ((eH.trans e3).trans (r0_ex e4)) (.inr ⟨.inl (by rw [← hd]; exact List.getElem_mem him), hv⟩)
      have hit := gi_rng1 (R := R0) (σ := [some (.ref a), some (.ref b), some y, some (.int (i : Int)), some x2, none]) (H := H3) (n := (ws.length : Int)) (ga_k (gv_lenT (K := K) (ta := tVar 0) (gv_var rfl fun H4 e _ => ⟨a, ys, rfl, ex_tup ((eH.trans e3).trans (r0_ex e)) hq, al_row (R := R0) (Rel.ex ((eH.trans e3).trans (r0_ex e))) trivial al⟩)) ga_n) (by omega)
      rw [Int.toNat_natCast] at hit
      exact hit
    · obtain ⟨s3, s4, rfl⟩ := hp
      have e1 := r0_ex r1
      show tSeq (tFor _ _ _) _ _ [some (.ref a), some (.ref b), some y, s3, s4, none] H1
      refine st_forP (R := R0) (n := zs.length) (gp_enumT (xs := zs) (fun H2 e o Q k => ⟨_, rfl, k _ H2 (Rel.refl _) o ⟨b, rfl, ex_tup (e1.trans (r0_ex e)) hqb⟩⟩)) trivial (fun i σ' H' => ∃ s3 s4, σ' = [some (.ref a), some (.ref b), some y, s3, s4, none]) (fun H2 e2 => ⟨s3, s4, rfl⟩) (fun i x σ' H' H'' hi r' _ hp yy => ?_) (fun σ' H2 r2 _ hp => ?_)
      · obtain ⟨s3, s4, rfl⟩ := hp
        obtain ⟨Tp, x1, x2, rfl, nT, rfl, hx1, hx2⟩ := yy
        cases hx1
        have eT : Ex H' (upd H' Tp (.tup [.int (i : Int), x2])) := Ex.new nT
        refine g_pair ?_
        have eH := (e1.trans (r0_ex r')).trans eT
        generalize upd H' Tp (.tup [.int (i : Int), x2]) = H2 at *
        have him : i < ss.length := by rw [← alb.1]; exact hi
        have hrow := mo_row (R := R0) x2 H H2 (Rel.ex eH) trivial (alb.2 i x2 ss[i] hx2 (List.getElem?_eq_getElem him))
        have hy2 := mo_row (R := R0) y H H2 (Rel.ex eH) trivial hy
        show tIfS _ _ _ _ [some (.ref a), some (.ref b), some y, some (.int (i : Int)), some x2, none] H2
        refine st_when1 (R := R0) (B := (· = decide (ss[i] = r))) (gt_test (gv_eqRows (gv_slot mo_row trivial rfl hrow) (gv_slot mo_row trivial rfl hy2))) trivial (fun H3 e3 _ hd => ?_) (fun H3 e3 _ hd => ⟨Rel.ex (eT.trans (r0_ex e3)), trivial, some (.int (i : Int)), some x2, rfl⟩)
        have hd := of_decide_eq_true hd.symm
        have e3 := r0_ex e3
        refine st_ret (R := R0) (P := Four K) (four (gv_any gv_c) (gv_any (gv_zeros (K := K) (gv_lenT (gv_var rfl fun H4 e _ => ⟨a, ys, rfl, ex_tup ((eH.trans e3).trans (r0_ex e)) hq, al_row (R := R0) (Rel.ex ((eH.trans e3).trans (r0_ex e))) trivial al⟩)) (by omega) (by omega))) (gv_any (gv_tuple (gv_ints01 (i := i) ?_ h2 trivial (fun x => rfl) (fun x => rfl) (fun x => rfl)))) (gv_any gv_c)) trivial fun v H4 e4 _ hv => q v H4 ((eH.trans e3).trans (r0_ex e4)) (.inr ⟨.inr (by rw [← hd]; exact List.getElem_mem him), hv⟩)
        have hit := gi_rng1 (R := R0) (σ := [some (.ref a), some (.ref b), some y, some (.int (i : Int)), some x2, none]) (H := H3) (n := (ss.length : Int)) (ga_k (gv_lenT (K := K) (ta := tVar 1) (gv_var rfl fun H4 e _ => ⟨b, zs, rfl, ex_tup ((eH.trans e3).trans (r0_ex e)) hqb, al_row (R := R0) (Rel.ex ((eH.trans e3).trans (r0_ex e))) trivial alb⟩)) ga_n) (by omega)
        rw [Int.toNat_natCast] at hit
        exact hit
      · obtain ⟨s3, s4, rfl⟩ := hp
        exact q _ H2 (e1.trans (r0_ex r2)) (.inl rfl)
end
end Tm
end
section
set_option Elab.async false
set_option linter.all false
set_option maxRecDepth 100000
set_option maxHeartbeats 4000000
set_option exponentiation.threshold 100000
namespace Tm
open PySem PySem.Spec PyProof.Rows L2
section
variable {K : PySem.W.Frag} {C : Addr} {P : Program} {w : World} {mg : Str → Option Value} {base : Heap}
/-! followed -/
abbrev N_followed : List Str := ["width", "walls", "stricts", "wall", "paper", "numbers", "point", "near", "far", "item"]
theorem sc_followed : FnScope N_followed ["width", "walls", "stricts", "wall"] (defScope s_followed) := ⟨rfl, rfl, rfl, by decide +kernel, rfl, by decide +kernel, by decide +kernel⟩
structure FolG where
  W : Nat
  ws : List (List Int)
  ss : List (List Int)
  r : List Int
structure FolG.Ok (g : FolG) : Prop where
  w : g.W = 2 ∨ g.W = 3
  l1 : ∀ r ∈ g.ws, r.length = g.W
  l2 : ∀ r ∈ g.ss, r.length = g.W
  l3 : g.r.length = g.W
  b1 : ∀ r ∈ g.ws, Lim 1000000 r
  b2 : ∀ r ∈ g.ss, Lim 1000000 r
  b3 : Lim 1000000 g.r
  few : g.ws.length + g.ss.length ≤ 50
theorem FolG.Ok.room {g : FolG} (h : g.Ok) : RoomG.Ok ⟨g.W, g.ws, g.ss, neg g.r⟩ := ⟨h.w, h.l1, h.l2, by show (neg g.r).length = g.W; simp [neg, h.l3], h.b1, h.b2, h.b3.neg, h.few⟩
abbrev preFol (K : PySem.W.Frag) (g : FolG) (vs : List V) (H : Hp) : Prop := ∃ v u y, vs = [.int (g.W : Int), v, u, y] ∧ RowsT K g.ws v H ∧ RowsT K g.ss u H ∧ Row K g.r y H ∧ g.Ok
def Fols (K : PySem.W.Frag) (g : FolG) : Pv := fun v H => ∃ T, v = .ref T ∧
  ((¬ (∃ p, Breaks g.W g.ws g.ss g.r p) ∧ ∃ x, SqT K H T [x, .non] ∧ Four K x H) ∨ ((∃ p, Breaks g.W g.ws g.ss g.r p) ∧ ∃ y, SqT K H T [.non, y]))
theorem do_followed (T : Txt K mg C) : Does P w K mg base 5 "followed" ["width", "walls", "stricts", "wall"] (PrG (fun (g : FolG) vs H => preFol K g vs H) fun g => Fols K g) :=
  mk_doesG T.followed sc_followed (fun _ _ _ _ _ _ us hl => match us, hl with | [_, _, _, _], _ => rfl) (fun g vs H h => by obtain ⟨v, u, y, rfl, _⟩ := h; rfl) fun f cdv A outer s H vs Q E g hr h q => by
    obtain ⟨v, u, y, rfl, hv, hu, hy, ok⟩ := h
    have nd := (sc_followed).nd
    have hW := ok.w
    have hfew := ok.few
    have hr1 : Room 1 _ := hr.mono (by decide)
    refine ⟨_, pss_cons (ps_set (i := 4) nd rfl (Or.inl rfl) (pe_do (do_unit_paper T) hr1 (by rfl) (pa_cons (pv 1) (pa_cons (pv 2) (pa_cons (pv 3) pa_nil)))))
      (pss_cons (ps_if (pt_cmp (pc_notN (pv 4))) (pss_one (ps_ret (pe_tup (pa_cons (pv 4) (pa_cons pe_non pa_nil))))) pss_nil)
      (pss_cons (ps_asg (pe_do (do_paper_of T) hr (by rfl) (pa_cons (pv 0) (pa_cons (pv 1) (pa_cons (pv 2) (pa_cons (pe_tup (pa_cons (pe_callTy call_tuple_of (by rfl) T.z_tuple (by decide +kernel) (pa_cons (pe_lc (own := [("item", 9)]) (g := gName 9) (tt := tYes) rfl nd (pi_tup (pv 3)) (blkOk_by (N := N_followed) (sc := defScope s_followed) (by decide +kernel)) (fun _ _ _ _ _ => pg_name (i := 9) nd rfl (Or.inl rfl)) (fun _ _ _ _ _ => pts_nil) (fun _ _ _ _ _ => pe_un un_neg (pv 9))) pa_nil)) pa_nil)) pa_nil)))))
        (pg_tup rfl (pgs_cons (pg_name (i := 5) nd rfl (Or.inl rfl)) (pgs_cons (pg_name (i := 6) nd rfl (Or.inl rfl)) pgs_nil))))
      (pss_cons (ps_if (pt_cmp (pc_isN (pv 5))) (pss_one (ps_ret (pe_tup (pa_cons pe_non (pa_cons (pv 6) pa_nil))))) pss_nil)
      (pss_cons (ps_par (i := 7) (j := 8) rfl nd rfl rfl (by decide) rfl rfl (pa_cons (pe_callB call_len_seq (by rfl) T.z_len boot_len (pa_cons (pv 1) pa_nil)) (pa_cons (pe_op op_add (pe_callB call_len_seq (by rfl) T.z_len boot_len (pa_cons (pv 1) pa_nil)) (pe_callB call_len_seq (by rfl) T.z_len boot_len (pa_cons (pv 2) pa_nil))) pa_nil)) rfl)
      (pss_one (ps_ret (pe_tup (pa_cons (pe_tup (pa_cons (pe_ix ix_tup (pv 5) (pe_un un_neg pe_int) (fun _ _ => rfl)) (pa_cons (pe_slice sl_tupA (pv 5) po_none (po_some (pv 7))) (pa_cons (pe_slice sl_tupA (pv 5) (po_some (pv 7)) (po_some (pv 8))) (pa_cons (pe_ix ix_tup (pv 5) (pv 8) (fun _ _ => rfl)) pa_nil))))) (pa_cons pe_non pa_nil))))))))), ?_⟩
    refine st_asg (R := R0) (P := fun v H => v = .non ∨ ((g.r ∈ g.ws ∨ g.r ∈ g.ss) ∧ Four K v H)) ?_ trivial fun v4 H1 e1 _ hv4 => ?_
    · exact gv_call (pre := fun (g : List (List Int) × List (List Int) × List Int) vs H => ∃ v u y, vs = [v, u, y] ∧ RowsT K g.1 v H ∧ RowsT K g.2.1 u H ∧ Row K g.2.2 y H ∧ g.1.length ≤ 1000 ∧ g.2.1.length ≤ 1000) (post := fun g v H => v = .non ∨ ((g.2.2 ∈ g.1 ∨ g.2.2 ∈ g.2.1) ∧ Four K v H)) (g.ws, g.ss, g.r)
        (ga_cons (gv_slot mo_rowsT trivial rfl hv) mo_rowsT (ga_2 (gv_slot mo_rowsT trivial rfl hu) mo_rowsT (gv_slot mo_row trivial rfl hy))) (fun vs H1 _ _ h => by
          obtain ⟨a2, r2, rfl, h2, a3, a4, rfl, h3, h4⟩ := h
          exact ⟨a2, a3, a4, rfl, h2, h3, h4, by dsimp only; omega, by dsimp only; omega⟩) fun v H1 _ _ p => p
    · have e1 := r0_ex e1
      have hv1 := mo_rowsT (R := R0) v H H1 (Rel.ex e1) trivial hv
      have hu1 := mo_rowsT (R := R0) u H H1 (Rel.ex e1) trivial hu
      have hy1 := mo_row (R := R0) y H H1 (Rel.ex e1) trivial hy
      have hm4 : v4 = .non ∨ v4 ≠ .non ∧ ((g.r ∈ g.ws ∨ g.r ∈ g.ss) ∧ Four K v4 H1) := by
        rcases hv4 with h | h
        · exact .inl h
        · have hh := h
          obtain ⟨_, a, xs, h1, _⟩ := hh
          exact .inr ⟨by rw [h1]; exact fun z => V.noConfusion z, by assumption⟩
      show tSeq _ _ _ [some (.int (g.W : Int)), some v, some u, some y, some v4, none, none, none, none, none] H1
      rcases hm4 with rfl | ⟨hne, hmem, h4⟩
      · refine st_when (R := R0) (B := (· = false)) (gt_B fun H4 e o Q k => ⟨_, rfl, k _ H4 (Rel.refl _) o rfl⟩) trivial (fun _ _ _ z => Bool.noConfusion z) fun H2 e2 _ _ => ?_
        have e2 := r0_ex e2
        have hv2 := mo_rowsT (R := R0) v H1 H2 (Rel.ex e2) trivial hv1
        have hu2 := mo_rowsT (R := R0) u H1 H2 (Rel.ex e2) trivial hu1
        have hy2 := mo_row (R := R0) y H1 H2 (Rel.ex e2) trivial hy1
        refine st_asgS (R := R0) (P := Papers K (colsOf g.W g.ws g.ss (neg g.r)) (wantOf g.W)) ?_ trivial fun v5 H3 e3 _ hv5 => ?_
        · exact gv_call (pre := fun (g : RoomG) vs H => preRoom K g vs H) (post := fun g => Papers K (colsOf g.W g.ws g.ss g.mo) (wantOf g.W)) ⟨g.W, g.ws, g.ss, neg g.r⟩ (ga_cons (gv_varI rfl) mo_is (ga_cons (gv_slot mo_rowsT trivial rfl hv2) mo_rowsT (ga_2 (gv_slot mo_rowsT trivial rfl hu2) mo_rowsT (gv_oneRow (gv_tuple (gv_mapR (fun x => -x) (gv_slot mo_row trivial rfl hy2) (by rw [ok.l3]; omega) trivial (fun x => rfl) fun D x H1 hx o t => gv_negI (gv_varI rfl))))))) (fun vs H1 _ _ h => by
            obtain ⟨a1, r1, rfl, rfl, a2, r2, rfl, h2, a3, a4, rfl, h3, h4⟩ := h
            exact ⟨a2, a3, a4, rfl, h2, h3, h4, ok.room⟩) fun v H1 _ _ p => p
        · have e3 := r0_ex e3
          have hv3 := mo_rowsT (R := R0) v H2 H3 (Rel.ex e3) trivial hv2
          have hu3 := mo_rowsT (R := R0) u H2 H3 (Rel.ex e3) trivial hu2
          rcases hv5 with ⟨nb, Tp, a, xs, rfl, hT, ha, lx⟩ | ⟨⟨rs, lr, b1, b2⟩, Tp, y5, rfl, hT⟩
          · refine g_two hT ?_
            show tSeq _ _ _ [some (.int (g.W : Int)), some v, some u, some y, some .non, some (.ref a), some .non, none, none, none] H3
            refine st_when (R := R0) (B := (· = false)) (gt_B fun H4 e o Q k => ⟨_, rfl, k _ H4 (Rel.refl _) o rfl⟩) trivial (fun _ _ _ z => Bool.noConfusion z) fun H4 e4 _ _ => ?_
            have e4 := r0_ex e4
            have hv4 := mo_rowsT (R := R0) v H3 H4 (Rel.ex e4) trivial hv3
            have hu4 := mo_rowsT (R := R0) u H3 H4 (Rel.ex e4) trivial hu3
            have ha4 := ex_tup e4 ha
            have lx2 : xs.length = g.ws.length + g.ss.length + 2 := by rw [lx]; simp [colsOf]; omega
            refine st_par (R := R0) (x := .int (g.ws.length : Int)) (y := .int ((g.ws.length + g.ss.length : Nat) : Int)) (ga_k (gv_lenT (gv_slot mo_rowsT trivial rfl hv4)) (ga_k (gv_is (gv_add (gv_lenT (gv_slot mo_rowsT trivial rfl hv4)) (gv_lenT (gv_slot mo_rowsT trivial rfl hu4))) (congrArg V.int (by omega))) ga_n)) trivial fun H5 e5 _ => ?_
            have e5 := r0_ex e5
            have ha5 := ex_tup e5 ha4
            show tRet _ _ [some (.int (g.W : Int)), some v, some u, some y, some .non, some (.ref a), some .non, some (.int (g.ws.length : Int)), some (.int ((g.ws.length + g.ss.length : Nat) : Int)), none] H5
            refine st_ret (R := R0) (P := Fols K g) ?_ trivial fun v H6 e6 _ p => q v H6 (((((e1.trans e2).trans e3).trans e4).trans e5).trans (r0_ex e6)) p
            have gn : Gv R0 (tVar 5) [some (.int (g.W : Int)), some v, some u, some y, some .non, some (.ref a), some .non, some (.int (g.ws.length : Int)), some (.int ((g.ws.length + g.ss.length : Nat) : Int)), none] H5 (Row K xs) := gv_slot mo_row trivial rfl ⟨a, rfl, ha5⟩
            have hne : xs ≠ [] := fun e => by rw [e] at lx2; simp at lx2
            refine gv_tup (ga_2 (Pa := Four K) (Pb := Is .non) (gv_tup (ga_cons (gv_any (gv_lastR gn hne)) mo_any (ga_cons (gv_sliceAny gn go_none (go_part (gv_varI rfl))) mo_any (ga_2 (gv_sliceAny gn (go_part (gv_varI rfl)) (go_part (gv_varI rfl))) mo_any (gv_any (gv_ixR gn (gv_varI rfl) (at_nat (by omega))))))) (fun vs H1 ⟨v1, r1, e1, _, v2, r2, e2, _, v3, v4, e3, _⟩ => by rw [e1, e2, e3]; simp) fun vs H1 p e o ⟨v1, r1, e1, _, v2, r2, e2, _, v3, v4, e3, _⟩ np => ⟨p, _, rfl, st_of upd_same, by rw [e1, e2, e3]; rfl⟩) mo_four gv_c)
              (fun vs H1 ⟨v, w, e, _⟩ => by rw [e]; simp) fun vs H1 p e o ⟨v, w, h1, h2, h3⟩ np => ⟨p, rfl, .inl ⟨no_breaks hW ok.l1 ok.l2 ok.l3 nb, v, by rw [h1, h3]; exact st_of upd_same, mo_four (R := R0) v H1 _ (Rel.ex (Ex.new np)) trivial h2⟩⟩
          · refine g_two hT ?_
            show tSeq _ _ _ [some (.int (g.W : Int)), some v, some u, some y, some .non, some .non, some y5, none, none, none] H3
            refine st_when (R := R0) (B := (· = true)) (gt_B fun H4 e o Q k => ⟨_, rfl, k _ H4 (Rel.refl _) o rfl⟩) trivial (fun H4 e4 _ _ => ?_) fun _ _ _ z => Bool.noConfusion z
            have e4 := r0_ex e4
            refine st_ret (R := R0) (P := Fols K g) ?_ trivial fun v H6 e6 _ p => q v H6 ((((e1.trans e2).trans e3).trans e4).trans (r0_ex e6)) p
            exact gv_tup (ga_k gv_c (ga_k (gv_varI rfl) ga_n)) (fun vs H1 e => by rw [e]; simp) fun vs H1 p e o h np => ⟨p, rfl, .inr ⟨bars_breaks hW ok.l1 ok.l2 ok.l3 lr b1 b2, y5, by rw [h]; exact st_of upd_same⟩⟩
      · refine st_when (R := R0) (B := (· = true)) (gt_B fun H4 e o Q k => ⟨_, rfl, k _ H4 (Rel.refl _) o (by rw [decide_eq_false hne]; rfl)⟩) trivial (fun H2 e2 _ _ => ?_) fun _ _ _ z => Bool.noConfusion z
        have e2 := r0_ex e2
        refine st_ret (R := R0) (P := Fols K g) ?_ trivial fun v H6 e6 _ p => q v H6 ((e1.trans e2).trans (r0_ex e6)) p
        have h42 := mo_four (R := R0) v4 H1 H2 (Rel.ex e2) trivial h4
        exact gv_tup (ga_2 (Pa := fun v H => v = v4 ∧ Four K v H) (Pb := Is .non) (gv_var rfl fun H3 e o => ⟨rfl, mo_four v4 H2 H3 (Rel.rq e) trivial h42⟩) (fun v H H' e o ⟨h1, h2⟩ => ⟨h1, mo_four v H H' e o h2⟩) gv_c) (fun vs H1 ⟨v, w, e, _⟩ => by rw [e]; simp) fun vs H1 p e o ⟨v, w, h1, ⟨_, h2⟩, h3⟩ np => ⟨p, rfl, .inl ⟨unit_breaks hmem, v, by rw [h1, h3]; exact st_of upd_same, mo_four (R := R0) v H1 _ (Rel.ex (Ex.new np)) trivial h2⟩⟩
end
end Tm
end
section
set_option Elab.async false
set_option linter.all false
set_option maxRecDepth 100000
set_option maxHeartbeats 4000000
set_option exponentiation.threshold 100000
namespace Tm
open PySem PySem.Spec PyProof.Rows L2
section
variable {K : PySem.W.Frag} {C : Addr} {P : Program} {w : World} {mg : Str → Option Value} {base : Heap}
theorem FolG.Ok.ask {g : FolG} (h : g.Ok) : Ask ((g.W : Int), g.ws, g.ss, g.r) where
  w1 := by have := h.w; show 2 ≤ (g.W : Int); omega
  w2 := by have := h.w; show (g.W : Int) ≤ 8; omega
  walls := ⟨fun r hr => by have := h.w; have := h.l1 r hr; exact ⟨by dsimp only; omega, by omega⟩, by have := h.few; dsimp only; omega⟩
  stricts := ⟨fun r hr => by have := h.w; have := h.l2 r hr; exact ⟨by dsimp only; omega, by omega⟩, by have := h.few; dsimp only; omega⟩
  wall := by have := h.l3; show (g.r.length : Int) = (g.W : Int); omega
theorem gv_need_all {σ : L2.St} {H : Hp} {t : TA} {g : FolG} (ok : g.Ok) (ha : GvA R0 t σ H (fun vs H => ∃ v u y, vs = [.int (g.W : Int), v, u, y] ∧ RowsT K g.ws v H ∧ RowsT K g.ss u H ∧ Row K g.r y H)) :
    Gv R0 (tCall (PrG (fun (g : Int × List (List Int) × List (List Int) × List Int) vs H => ∃ v u y, vs = [.int g.1, v, u, y] ∧ RowsT K g.2.1 v H ∧ RowsT K g.2.2.1 u H ∧ Row K g.2.2.2 y H ∧ Ask g) fun _ => Is .non) [] E0 t) σ H (Is .non) :=
  gv_call (pre := fun (g : Int × List (List Int) × List (List Int) × List Int) vs H => ∃ v u y, vs = [.int g.1, v, u, y] ∧ RowsT K g.2.1 v H ∧ RowsT K g.2.2.1 u H ∧ Row K g.2.2.2 y H ∧ Ask g) (post := fun _ => Is .non) ((g.W : Int), g.ws, g.ss, g.r) ha (fun vs H1 _ _ ⟨v, u, y, h1, h2, h3, h4⟩ => ⟨v, u, y, h1, h2, h3, h4, ok.ask⟩) fun v H1 _ _ p => p
theorem gv_fol {σ : L2.St} {H : Hp} {t : TA} {g : FolG} (ok : g.Ok) (ha : GvA R0 t σ H (fun vs H => ∃ v u y, vs = [.int (g.W : Int), v, u, y] ∧ RowsT K g.ws v H ∧ RowsT K g.ss u H ∧ Row K g.r y H)) :
    Gv R0 (tCall (PrG (fun (g : FolG) vs H => preFol K g vs H) fun g => Fols K g) [] E0 t) σ H (Fols K g) :=
  gv_call (pre := fun (g : FolG) vs H => preFol K g vs H) (post := fun g => Fols K g) g ha (fun vs H1 _ _ ⟨v, u, y, h1, h2, h3, h4⟩ => ⟨v, u, y, h1, h2, h3, h4, ok⟩) fun v H1 _ _ p => p
theorem ga_fol {σ : L2.St} {H : Hp} {g : FolG} {v u y : V} (h0 : σ[0]? = some (some (.int (g.W : Int)))) (h1 : σ[1]? = some (some v)) (h2 : σ[2]? = some (some u)) (h3 : σ[3]? = some (some y)) (hv : RowsT K g.ws v H) (hu : RowsT K g.ss u H) (hy : Row K g.r y H) :
    GvA R0 (tCons (tVar 0) (tCons (tVar 1) (tCons (tVar 2) (tCons (tVar 3) tNil)))) σ H (fun vs H => ∃ v u y, vs = [.int (g.W : Int), v, u, y] ∧ RowsT K g.ws v H ∧ RowsT K g.ss u H ∧ Row K g.r y H) := fun H1 e o Q k =>
  ga_cons (gv_varI h0) mo_is (ga_cons (gv_slot mo_rowsT trivial h1 hv) mo_rowsT (ga_2 (gv_slot mo_rowsT trivial h2 hu) mo_rowsT (gv_slot mo_row trivial h3 hy))) H1 e o Q fun vs H2 e2 o2 ⟨a1, r1, z1, z2, a2, r2, z3, z4, a3, a4, z5, z6, z7⟩ => k vs H2 e2 o2 ⟨a2, a3, a4, by rw [z1, z2, z3, z5], z4, z6, z7⟩
/-! does_follow -/
theorem sc_does_follow : FnScope ["width", "walls", "stricts", "wall"] ["width", "walls", "stricts", "wall"] (defScope s_does_follow) := ⟨rfl, rfl, rfl, by decide +kernel, rfl, by decide +kernel, by decide +kernel⟩
theorem do_does_follow (T : Txt K mg C) : Does P w K mg base 7 "does_follow" ["width", "walls", "stricts", "wall"] (PrG (fun (g : FolG) vs H => preFol K g vs H) fun g v H => ∃ b : Bool, v = .bl b ∧ (b = true ↔ ¬ ∃ p, Breaks g.W g.ws g.ss g.r p)) :=
  mk_doesG T.does_follow sc_does_follow (fun _ _ _ _ _ _ us hl => match us, hl with | [_, _, _, _], _ => rfl) (fun g vs H h => by obtain ⟨v, u, y, rfl, _⟩ := h; rfl) fun f cdv A outer s H vs Q E g hr h q => by
    obtain ⟨v, u, y, rfl, hv, hu, hy, ok⟩ := h
    have hr5 : Room 5 _ := hr.mono (by decide)
    refine ⟨_, pss_cons (ps_expr (pe_do (do_need_all T) hr (by rfl) (pa_cons (pv 0) (pa_cons (pv 1) (pa_cons (pv 2) (pa_cons (pv 3) pa_nil))))))
      (pss_one (ps_ret (pe_cmp (pc_notN (pe_ix ix_tup (pe_do (do_followed T) hr5 (by rfl) (pa_cons (pv 0) (pa_cons (pv 1) (pa_cons (pv 2) (pa_cons (pv 3) pa_nil))))) pe_int (fun _ _ => rfl)))))), ?_⟩
    refine st_drop (R := R0) (gv_need_all ok (ga_fol rfl rfl rfl rfl hv hu hy)) trivial fun _ H1 e1 _ _ => ?_
    have e1 := r0_ex e1
    have hv1 := mo_rowsT (R := R0) v H H1 (Rel.ex e1) trivial hv
    have hu1 := mo_rowsT (R := R0) u H H1 (Rel.ex e1) trivial hu
    have hy1 := mo_row (R := R0) y H H1 (Rel.ex e1) trivial hy
    refine st_ret (R := R0) (P := fun v H => ∃ b : Bool, v = .bl b ∧ (b = true ↔ ¬ ∃ p, Breaks g.W g.ws g.ss g.r p)) ?_ trivial fun v H2 e2 _ p => q v H2 (e1.trans (r0_ex e2)) p
    have gx : Gv R0 (tOp (rIxT K) (tCall (PrG (fun (g : FolG) vs H => preFol K g vs H) fun g => Fols K g) [] E0 (tCons (tVar 0) (tCons (tVar 1) (tCons (tVar 2) (tCons (tVar 3) tNil))))) (tC (.int 0))) [some (.int (g.W : Int)), some v, some u, some y] H1 (fun x _ => (x ≠ .non ∧ ¬ ∃ p, Breaks g.W g.ws g.ss g.r p) ∨ (x = .non ∧ ∃ p, Breaks g.W g.ws g.ss g.r p)) := fun H2 e2 o2 Q k =>
      gv_fol ok (ga_fol rfl rfl rfl rfl hv1 hu1 hy1) H2 e2 o2 _ fun x H3 e3 o3 ⟨Tp, hx, hh⟩ => by
        rcases hh with ⟨nb, z, hT, a, xs, hz, _⟩ | ⟨nb, y', hT⟩
        · exact ⟨Tp, _, 0, z, hx, rfl, hT, rfl, k _ H3 e3 o3 (.inl ⟨by rw [hz]; exact fun z => V.noConfusion z, nb⟩)⟩
        · exact ⟨Tp, _, 0, _, hx, rfl, hT, rfl, k _ H3 e3 o3 (.inr ⟨rfl, nb⟩)⟩
    exact fun H2 e2 o2 Q k => gx H2 e2 o2 _ fun x H3 e3 o3 h => k _ H3 e3 o3 ⟨!decide (x = .non), rfl, by
      rcases h with ⟨h1, h2⟩ | ⟨h1, h2⟩
      · rw [decide_eq_false h1]; exact ⟨fun _ => h2, fun _ => rfl⟩
      · rw [decide_eq_true h1]; exact ⟨fun z => Bool.noConfusion z, fun z => absurd h2 z⟩⟩
/-! judge_follows -/
abbrev N_judge : List Str := ["width", "walls", "stricts", "wall", "paper", "point"]
theorem sc_judge_follows : FnScope N_judge ["width", "walls", "stricts", "wall"] (defScope s_judge_follows) := ⟨rfl, rfl, rfl, by decide +kernel, rfl, by decide +kernel, by decide +kernel⟩
theorem do_judge_follows (T : Txt K mg C) : Does P w K mg base 7 "judge_follows" ["width", "walls", "stricts", "wall"] (PrG (fun (g : FolG) vs H => preFol K g vs H) fun g v H => ∃ a x xs, v = .ref a ∧ SqT K H a (x :: xs) ∧ ((x = .str "weights" ∧ ¬ ∃ p, Breaks g.W g.ws g.ss g.r p) ∨ (x = .str "point" ∧ ∃ p, Breaks g.W g.ws g.ss g.r p))) :=
  mk_doesG T.judge_follows sc_judge_follows (fun _ _ _ _ _ _ us hl => match us, hl with | [_, _, _, _], _ => rfl) (fun g vs H h => by obtain ⟨v, u, y, rfl, _⟩ := h; rfl) fun f cdv A outer s H vs Q E g hr h q => by
    obtain ⟨v, u, y, rfl, hv, hu, hy, ok⟩ := h
    have nd := (sc_judge_follows).nd
    have hr5 : Room 5 _ := hr.mono (by decide)
    refine ⟨_, pss_cons (ps_expr (pe_do (do_need_all T) hr (by rfl) (pa_cons (pv 0) (pa_cons (pv 1) (pa_cons (pv 2) (pa_cons (pv 3) pa_nil))))))
      (pss_cons (ps_asg (pe_do (do_followed T) hr5 (by rfl) (pa_cons (pv 0) (pa_cons (pv 1) (pa_cons (pv 2) (pa_cons (pv 3) pa_nil))))) (pg_tup rfl (pgs_cons (pg_name (i := 4) nd rfl (Or.inl rfl)) (pgs_cons (pg_name (i := 5) nd rfl (Or.inl rfl)) pgs_nil))))
      (pss_one (ps_ret (pe_ifExp (pt_cmp (pc_isN (pv 4))) (pe_tup (pa_cons pe_str (pa_cons (pv 5) pa_nil))) (pe_op op_catA (pe_tup (pa_cons pe_str pa_nil)) (pv 4)))))), ?_⟩
    refine st_drop (R := R0) (gv_need_all ok (ga_fol rfl rfl rfl rfl hv hu hy)) trivial fun _ H1 e1 _ _ => ?_
    have e1 := r0_ex e1
    have hv1 := mo_rowsT (R := R0) v H H1 (Rel.ex e1) trivial hv
    have hu1 := mo_rowsT (R := R0) u H H1 (Rel.ex e1) trivial hu
    have hy1 := mo_row (R := R0) y H H1 (Rel.ex e1) trivial hy
    refine st_asgS (R := R0) (P := Fols K g) (gv_fol ok (ga_fol rfl rfl rfl rfl hv1 hu1 hy1)) trivial fun v4 H2 e2 _ hv4 => ?_
    have e2 := r0_ex e2
    obtain ⟨Tp, rfl, hh⟩ := hv4
    rcases hh with ⟨nb, z, hT, a, xs, rfl, hxs, hl⟩ | ⟨nb, y', hT⟩
    · refine g_two hT ?_
      show tRet _ _ [some (.int (g.W : Int)), some v, some u, some y, some (.ref a), some .non] H2
      refine st_ret (R := R0) (P := RowV K ([.str "weights"] ++ xs)) ?_ trivial fun v H3 e3 _ ⟨a', p1, p2⟩ => q v H3 ((e1.trans e2).trans (r0_ex e3)) ⟨a', _, xs, p1, p2, .inl ⟨rfl, nb⟩⟩
      refine gv_if (A := (· = false)) (gt_B fun H4 e o Q k => ⟨_, rfl, k _ H4 (Rel.refl _) o rfl⟩) (fun z => Bool.noConfusion z) fun _ => ?_
      exact gv_cat (gv_tupK (ga_k gv_c ga_n) (by simp)) (gv_slot mo_rowV trivial rfl ⟨a, rfl, hxs⟩) (by simp; omega)
    · refine g_two hT ?_
      show tRet _ _ [some (.int (g.W : Int)), some v, some u, some y, some .non, some y'] H2
      refine st_ret (R := R0) (P := RowV K [.str "point", y']) ?_ trivial fun v H3 e3 _ ⟨a', p1, p2⟩ => q v H3 ((e1.trans e2).trans (r0_ex e3)) ⟨a', _, [y'], p1, p2, .inr ⟨rfl, nb⟩⟩
      refine gv_if (A := (· = true)) (gt_B fun H4 e o Q k => ⟨_, rfl, k _ H4 (Rel.refl _) o rfl⟩) (fun _ => ?_) fun z => Bool.noConfusion z
      exact gv_tupK (ga_k gv_c (ga_k (gv_varI rfl) ga_n)) (by simp)
end
end Tm
end
section
set_option Elab.async false
set_option linter.all false
set_option maxRecDepth 100000
set_option maxHeartbeats 4000000
set_option exponentiation.threshold 100000
/-! the deck: what is drawn may be anything within its bounds -/
namespace Tm
open PySem PySem.Spec PyProof.Rows L2
def deckF (c : Addr) (m k : Int) : List (Key × V) := [(.inr "cells", .ref c), (.inr "mixed", .int m), (.inr "draws", .int k)]
def DeckAt (d c : Addr) (H : Hp) : Prop := ∃ (cells : List Int) (m k : Int), H d = some (.dK (deckF c m k)) ∧ H c = some (.lst (cells.map V.int)) ∧ cells.length ≤ 1000
theorem DeckAt.ex {d c : Addr} {H H' : Hp} (h : DeckAt d c H) (e : Ex H H') : DeckAt d c H' := by
  obtain ⟨cells, m, k, h1, h2, h3⟩ := h
  exact ⟨cells, m, k, e _ _ h1, e _ _ h2, h3⟩
/-- the deck may change -/
def RD (d c : Addr) : Rel where
  M a := a = d ∨ a = c
  W a := a = d ∨ a = c
  sub _ h := h
  ok H := DeckAt d c H
  sep H a o m := by
    obtain ⟨cells, mm, k, h1, h2, h3⟩ := o
    rcases m with rfl | rfl
    · exact .inl ⟨_, h1⟩
    · exact .inr (.inl ⟨_, h2⟩)
  ext H H' e o := o.ex e
  put H p u o m := by
    obtain ⟨cells, mm, k, h1, h2, h3⟩ := o
    exact ⟨cells, mm, k, by rw [upd_ne fun z => m (.inl z.symm)]; exact h1, by rw [upd_ne fun z => m (.inr z.symm)]; exact h2, h3⟩
/-- a relation that lets the deck change -/
structure DeckR (R : Rel) (d c : Addr) : Prop where
  up : ∀ H H', Kp (fun a => a = d ∨ a = c) H H' → R.r H H'
  ok : ∀ H H', R.ok H → Kp (fun a => a = d ∨ a = c) H H' → DeckAt d c H' → R.ok H'
  at_ : ∀ H, R.ok H → DeckAt d c H
theorem deckR_0 {d c : Addr} : DeckR (RD d c) d c := ⟨fun _ _ h => h, fun _ _ _ _ h => h, fun _ h => h⟩
theorem deckR_wth {d c D : Addr} {H H1 : Hp} (t : Thru (RD d c) D H H1) : DeckR ((RD d c).wth D) d c := by
  obtain ⟨cells, m, k, h1, h2, h3⟩ := t.ok
  have nd : D ≠ d := fun e => by have := t.ne; rw [e, h1] at this; cases this
  have nc : D ≠ c := fun e => by have := t.ne; rw [e, h2] at this; cases this
  exact ⟨fun _ _ h => h, fun H H' o k h => ⟨h, o.2.imp fun xs q => k _ _ q (by rintro (z | z); exact nd z; exact nc z)⟩, fun _ h => h.1⟩
/-- a promise of what draws -/
def PrD {G : Type} (pre : G → List V → Hp → Prop) (post : G → Pv) : Sp := fun vs H Q _ => ∃ (d c : Addr) (g : G) (ws : List V), vs = .ref d :: ws ∧ DeckAt d c H ∧ pre g ws H ∧ ∀ v H', Kp (fun a => a = d ∨ a = c) H H' → DeckAt d c H' → post g v H' → Q v H'
section
variable {R : Rel} {K : PySem.W.Frag} {σ : L2.St} {H : Hp} {ta tb te : TE} {G : Type} {pre : G → List V → Hp → Prop} {post : G → Pv} {d c : Addr} {P : Pv}
/-- a call of what draws -/
theorem gv_draw {E : XK} {A : List V → Hp → Prop} {t : TA} (g : G) (D : DeckR R d c) (ha : GvA R (tCons ta t) σ H A) (hp : ∀ vs H1, R.r H H1 → R.ok H1 → A vs H1 → ∃ ws, vs = .ref d :: ws ∧ pre g ws H1) (hq : ∀ v H1, R.r H H1 → R.ok H1 → post g v H1 → P v H1) :
    Gv R (tCall (PrD pre post) [] E (tCons ta t)) σ H P := fun H1 e o Q k =>
  ha H1 e o _ fun vs H2 e2 o2 a => by
    show PrD pre post (vs ++ []) H2 Q E
    rw [List.append_nil]
    obtain ⟨ws, h1, h2⟩ := hp vs H2 (Rel.trans e e2) o2 a
    refine ⟨d, c, g, ws, h1, D.at_ _ o2, h2, fun v H3 x dk q => ?_⟩
    have r3 := D.up _ _ x
    have o3 := D.ok _ _ o2 x dk
    exact k v H3 (Rel.trans e2 r3) o3 (hq v H3 (Rel.trans (Rel.trans e e2) r3) o3 q)
/-- d[k] -/
theorem gv_dget {kvs : List (Key × V)} {k : Str} {v : V} (ha : Gv R ta σ H (Is (.ref d))) (h : H d = some (.dK kvs)) (m : ¬ R.M d) (hv : valV kvs (.inr k) = some v) : Gv R (tDGet ta (tC (.str k))) σ H (Is v) := fun H1 e o Q kk =>
  ha H1 e o _ fun x H2 e2 o2 p => by
    have := DGet.k (k := .inr k) (Rel.trans e e2 _ _ h m)
    rw [hv] at this
    exact ⟨d, v, p, this, kk _ H2 e2 o2 rfl⟩
theorem kne1 : ¬ (Sum.inr ("cells" : Str) : Key) = .inr "mixed" := by decide +kernel
theorem kne2 : ¬ (Sum.inr ("cells" : Str) : Key) = .inr "draws" := by decide +kernel
theorem kne3 : ¬ (Sum.inr ("mixed" : Str) : Key) = .inr "draws" := by decide +kernel
theorem deck_cells {c : Addr} {m k : Int} : valV (deckF c m k) (.inr "cells") = some (.ref c) := valV_pos rfl
theorem deck_mixed {c : Addr} {m k : Int} : valV (deckF c m k) (.inr "mixed") = some (.int m) := (valV_neg kne1).trans (valV_pos rfl)
theorem deck_draws {c : Addr} {m k : Int} : valV (deckF c m k) (.inr "draws") = some (.int k) := (valV_neg kne2).trans ((valV_neg kne3).trans (valV_pos rfl))
theorem deck_put {c : Addr} {m k j : Int} : putK (deckF c m k) (.inr "draws") (.int j) = deckF c m j := by
  unfold putK deckF
  rw [if_pos (by simp [List.any])]
  rw [List.map_cons, List.map_cons, List.map_cons, List.map_nil, if_neg kne2, if_neg kne3, if_pos rfl]
theorem st_dput {D : L2.Ends} {u : TS} {tv : TE} {i : Nat} {key : Str} (hv : Gv R tv σ H P) (o : R.ok H) (hi : σ[i]? = some (some (.ref d)))
    (k : ∀ v H1, R.r H H1 → R.ok H1 → P v H1 → ∃ kvs, H1 d = some (.dK kvs) ∧ kvs.length < 1000 ∧ u D σ (upd H1 d (.dK (putK kvs (.inr key) v)))) : tSeq (sDPut (tVar i) (tC (.str key)) tv) u D σ H := hv H (Rel.refl H) o _ fun v H1 r1 o1 h => by
  obtain ⟨kvs, h1, h2, h3⟩ := k v H1 r1 o1 h
  exact ⟨_, hi, d, _, rfl, DPut.k (k := .inr key) h1 (sz_lt (by omega)), h3⟩
theorem st_whenJ {J : L2.St → Hp → Prop} {D : L2.Ends} {u x : TS} {t : TT} {B : Bool → Prop} (h : GvT R t σ H B) (o : R.ok H) (fin : ∀ σ' H', J σ' H' → u D σ' H') (k1 : ∀ H2, R.r H H2 → R.ok H2 → B true → (∀ σ' H', J σ' H' → u D σ' H') → x { D with nx := u D } σ H2) (k2 : ∀ H2, R.r H H2 → R.ok H2 → B false → J σ H2) : tSeq (tIfS t x tNext) u D σ H :=
  st_when h o (fun H2 r2 o2 b => k1 H2 r2 o2 b fin) fun H2 r2 o2 b => fin _ _ (k2 H2 r2 o2 b)
theorem gv_mod {i j : Int} (ha : Gv R ta σ H (Is (.int i))) (hb : Gv R tb σ H (Is (.int j))) (h : 0 < j) : Gv R (tOp (rI (fun _ j => 0 < j) fun i j => .int (i % j)) ta tb) σ H (Is (.int (i % j))) := gv_I (C := fun _ j => 0 < j) (g := fun i j => .int (i % j)) ha hb h
/-- int(e), e an int -/
theorem gv_int {i : Int} (ha : Gv R ta σ H (Is (.int i))) : Gv R (tCB (fun xs H Q => (∃ i, xs = [.int i] ∧ Q (.int i) H) ∨ ∃ k, xs = [.bl k] ∧ Q (.int (if k then 1 else 0)) H) (tCons ta tNil)) σ H (Is (.int i)) :=
  gv_cb (ga_k ha ga_n) fun vs H2 _ o2 h Q k => Or.inl ⟨_, h, k _ H2 (Rel.refl _) o2 rfl⟩
end
section
variable {K : PySem.W.Frag} {C : Addr} {P : Program} {w : World} {mg : Str → Option Value} {base : Heap}
/-! _law_draw -/
abbrev N_draw : List Str := ["_law_deck_here", "_law_many", "_law_number", "_law_cell"]
theorem sc_L_draw : FnScope N_draw ["_law_deck_here", "_law_many"] (defScope s_L_draw) := ⟨rfl, rfl, rfl, by decide +kernel, rfl, by decide +kernel, by decide +kernel⟩
/-- what a draw is -/
abbrev postDraw (many : Int) : Pv := fun v _ => ∃ n : Int, v = .int n ∧ 0 ≤ n ∧ n < many
theorem do_L_draw (T : Txt K mg C) : Does P w K mg base 1 "_law_draw" ["_law_deck_here", "_law_many"] (PrD (fun (many : Int) ws _ => ws = [.int many] ∧ 1 ≤ many ∧ many < 1073741824) fun many => postDraw many) :=
  mk_does T.L_draw sc_L_draw (fun _ _ _ _ _ _ us hl => match us, hl with | [_, _], _ => rfl) (fun vs H Q E h => by obtain ⟨d, c, g, ws, rfl, _, ⟨rfl, _⟩, _⟩ := h; rfl) fun f cdv A outer s H vs Q E hr h => by
    obtain ⟨d, c, many, ws, rfl, ⟨cells, m, k, hd, hc, hl⟩, ⟨rfl, hm1, hm2⟩, q⟩ := h
    have nd := (sc_L_draw).nd
    have hu := hu_of hr
    refine ⟨_, pss_cons (ps_dput hu (pv 0) pe_str (pe_op op_add (pe_dget hu (pv 0) pe_str (fun _ _ => rfl)) pe_int) rfl)
      (pss_cons (ps_set (i := 2) nd rfl (Or.inl rfl) (pe_op op_add (pe_dget hu (pv 0) pe_str (fun _ _ => rfl)) (pe_op op_mul pe_int (pe_dget hu (pv 0) pe_str (fun _ _ => rfl)))))
      (pss_cons (ps_if (pt_cmpR (op_neD hr.units) (pe_dget hu (pv 0) pe_str (fun _ _ => rfl)) (pe_lst pa_nil) (nomark _))
        (pss_cons (ps_set (i := 3) nd rfl (Or.inl rfl) (pe_bm0 PySem.F.plainAttrs_list PySem.F.slot_list_pop PySem.F.type_list_pop mt_pop (pe_dget hu (pv 0) pe_str (fun _ _ => rfl))))
        (pss_cons (ps_if (pt_cmpR op_ge (pv 3) (pe_op op_pow pe_int pe_int) (nomark _))
          (pss_cons (ps_expr (pe_bm PySem.F.plainAttrs_list PySem.F.slot_list_append PySem.F.type_list_append mt_append (pe_dget hu (pv 0) pe_str (fun _ _ => rfl)) (pa_cons (pe_op op_fdiv (pv 3) (pe_callB (call_max2 rfl) (by rfl) T.z_max (by decide +kernel) (pa_cons pe_int (pa_cons (pv 1) pa_nil)))) pa_nil)))
            (pss_one (ps_ret (pe_op op_mod (pe_callTy call_int1 (by rfl) T.z_int (by decide +kernel) (pa_cons (pv 3) pa_nil)) (pv 1))))) pss_nil)
        (pss_one (ps_set (i := 2) nd rfl (Or.inl rfl) (pe_op op_add (pv 2) (pe_op op_mod (pe_callTy call_int1 (by rfl) T.z_int (by decide +kernel) (pa_cons (pv 3) pa_nil)) pe_int)))))) pss_nil)
      (pss_cons (ps_set (i := 2) nd rfl (Or.inl rfl) (pe_op op_mod (pe_callTy call_int1 (by rfl) T.z_int (by decide +kernel) (pa_cons (pe_op op_add (pe_op op_mul (pv 2) pe_int) pe_int) pa_nil)) pe_int))
      (pss_cons (ps_set (i := 2) nd rfl (Or.inl rfl) (pe_op op_mod (pe_callTy call_int1 (by rfl) T.z_int (by decide +kernel) (pa_cons (pe_op op_add (pe_op op_add (pe_op op_mul (pv 2) (pv 2)) (pe_op op_mul pe_int (pe_dget hu (pv 0) pe_str (fun _ _ => rfl)))) pe_int) pa_nil)) pe_int))
      (pss_cons (ps_set (i := 2) nd rfl (Or.inl rfl) (pe_op op_mod (pe_callTy call_int1 (by rfl) T.z_int (by decide +kernel) (pa_cons (pe_op op_mul (pv 2) pe_int) pa_nil)) pe_int))
      (pss_one (ps_ret (pe_op op_mod (pe_callTy call_int1 (by rfl) T.z_int (by decide +kernel) (pa_cons (pe_op op_fdiv (pv 2) pe_int) pa_nil)) (pv 1))))))))), ?_⟩
    have hdc : d ≠ c := fun e => by rw [e, hc] at hd; cases hd
    -- the count
    refine st_dput (R := R0) (P := Is (.int (k + 1))) (gv_add (gv_dget (gv_varI rfl) hd id deck_draws) gv_c) trivial rfl fun v H1 e1 _ hv => ⟨_, r0_ex e1 _ _ hd, (by show 3 < 1000; decide), ?_⟩
    subst hv
    rw [deck_put]
    have e1 := r0_ex e1
    have k2 : Kp (fun a => a = d ∨ a = c) H (upd H1 d (.dK (deckF c m (k + 1)))) := fun a o h n => by rw [upd_ne fun z => n (.inl z)]; exact e1 _ _ h
    have hd2 : (upd H1 d (.dK (deckF c m (k + 1)))) d = some (.dK (deckF c m (k + 1))) := upd_same
    have hc2 : (upd H1 d (.dK (deckF c m (k + 1)))) c = some (.lst (cells.map V.int)) := by rw [upd_ne fun z => hdc z.symm]; exact e1 _ _ hc
    generalize upd H1 d (.dK (deckF c m (k + 1))) = H2 at *
    show tSeq _ _ _ [some (.ref d), some (.int many), none, none] H2
    refine st_asg (R := R0) (P := Is (.int (m + 61473 * (k + 1)))) (gv_add (gv_dget (gv_varI rfl) hd2 id deck_mixed) (gv_I (C := CMul) (g := fun i j => .int (i * j)) gv_c (gv_dget (gv_varI rfl) hd2 id deck_draws) (.inl ⟨by decide, by decide⟩))) trivial fun v H3 e3 _ hv => ?_
    subst hv
    have e3 := r0_ex e3
    have hd3 := e3 _ _ hd2
    have hc3 := e3 _ _ hc2
    have k3 : Kp (fun a => a = d ∨ a = c) H H3 := fun a o h n => e3 _ _ (k2 _ _ h n)
    show tSeq _ _ _ [some (.ref d), some (.int many), some (.int (m + 61473 * (k + 1))), none] H3
    refine st_whenJ (R := R0) (J := fun σ' H' => ∃ num s3 cells', σ' = [some (.ref d), some (.int many), some (.int num), s3] ∧ Kp (fun a => a = d ∨ a = c) H H' ∧ H' d = some (.dK (deckF c m (k + 1))) ∧ H' c = some (.lst ((cells' : List Int).map V.int)) ∧ cells'.length ≤ 1000) (B := (· = !cells.isEmpty)) (gt_test (gv_neNil (fun H4 e o Q kk => gv_dget (R := R0) (gv_varI rfl) hd3 id deck_cells H4 e o Q fun v H5 e5 o5 p => kk v H5 e5 o5 ⟨c, cells.map V.int, dInts cells, p, sq_of (r0_ex e5 _ _ (r0_ex e _ _ hc3)), dpAll_ints cells, sh_ints cells, by cases cells <;> rfl⟩))) trivial ?_ (fun H4 e4 _ hb fin => ?_) (fun H4 e4 _ hb => ⟨_, none, cells, rfl, fun a o h n => r0_ex e4 _ _ (k3 _ _ h n), r0_ex e4 _ _ hd3, r0_ex e4 _ _ hc3, hl⟩)
    · rintro σ' H' ⟨num, s3, cells', rfl, kk, hd', hc', hl'⟩
      refine st_asg (R := R0) (P := fun v _ => ∃ n : Int, v = .int n ∧ 0 ≤ n ∧ n < 2147483647) ((gv_mod (gv_int (gv_add (gv_I (C := CMul) (g := fun i j => .int (i * j)) (gv_varI rfl) gv_c (.inr ⟨by decide, by decide⟩)) gv_c)) gv_c (by decide)).imp fun v H o p => ⟨_, p, Int.emod_nonneg _ (by decide), Int.emod_lt_of_pos _ (by decide)⟩) trivial fun v H5 e5 _ ⟨n1, hn, n2, n3⟩ => ?_
      subst hn
      have e5 := r0_ex e5
      refine st_asg (R := R0) (P := fun v _ => ∃ n : Int, v = .int n) ((gv_mod (gv_int (gv_add (gv_add (gv_I (C := CMul) (g := fun i j => .int (i * j)) (gv_varI rfl) (gv_varI rfl) (.inl ⟨by omega, by omega⟩)) (gv_I (C := CMul) (g := fun i j => .int (i * j)) gv_c (gv_dget (gv_varI rfl) (e5 _ _ hd') id deck_draws) (.inl ⟨by decide, by decide⟩))) gv_c)) gv_c (by decide)).imp fun v H o p => ⟨_, p⟩) trivial fun v H6 e6 _ ⟨n4, hn⟩ => ?_
      subst hn
      have e6 := r0_ex e6
      refine st_asg (R := R0) (P := fun v _ => ∃ n : Int, v = .int n) ((gv_mod (gv_int (gv_I (C := CMul) (g := fun i j => .int (i * j)) (gv_varI rfl) gv_c (.inr ⟨by decide, by decide⟩))) gv_c (by decide)).imp fun v H o p => ⟨_, p⟩) trivial fun v H7 e7 _ ⟨n5, hn⟩ => ?_
      subst hn
      have e7 := r0_ex e7
      have e57 := (e5.trans e6).trans e7
      refine st_ret (R := R0) (P := fun v _ => ∃ n : Int, v = .int n ∧ 0 ≤ n ∧ n < many) ((gv_mod (gv_int (gv_I (C := CDiv) (g := fun i j => .int (i / j)) (gv_varI rfl) gv_c ⟨by decide, by decide⟩)) (gv_varI rfl) (by omega)).imp fun v H o p => ⟨_, p, Int.emod_nonneg _ (by omega), Int.emod_lt_of_pos _ (by omega)⟩) trivial fun v H8 e8 _ hv => ?_
      have e8 := e57.trans (r0_ex e8)
      exact q v H8 (fun a o h n => e8 _ _ (kk _ _ h n)) ⟨cells', m, k + 1, e8 _ _ hd', e8 _ _ hc', hl'⟩ hv
    · have e4 := r0_ex e4
      have hd4 := e4 _ _ hd3
      have hc4 := e4 _ _ hc3
      have k4 : Kp (fun a => a = d ∨ a = c) H H4 := fun a o h n => e4 _ _ (k3 _ _ h n)
      have hne : cells ≠ [] := fun e => by rw [e] at hb; simp at hb
      have hpos : 0 < cells.length := List.length_pos_iff.mpr hne
      obtain ⟨z, hz⟩ : ∃ z, cells[cells.length - 1]? = some z := ⟨_, List.getElem?_eq_getElem (by omega)⟩
      refine ⟨_, rfl, d, .ref c, rfl, ?_, .inl ⟨rfl, _, sq_of hc4⟩, c, cells.map V.int, .int z, rfl, rfl, hc4, by rw [List.length_map, List.getElem?_map, hz]; rfl, ?_⟩
      · have := DGet.k (k := .inr "cells") hd4
        rw [deck_cells] at this
        exact this
      have k5 : Kp (fun a => a = d ∨ a = c) H (upd H4 c (.lst (cells.map V.int).dropLast)) := fun a o h n => by rw [upd_ne fun z => n (.inr z)]; exact k4 _ _ h n
      have hd5 : (upd H4 c (.lst (cells.map V.int).dropLast)) d = some (.dK (deckF c m (k + 1))) := by rw [upd_ne hdc]; exact hd4
      have hc5 : (upd H4 c (.lst (cells.map V.int).dropLast)) c = some (.lst (cells.dropLast.map V.int)) := by rw [upd_same, List.map_dropLast]
      generalize upd H4 c (.lst (cells.map V.int).dropLast) = H5 at *
      refine g_name ?_
      have ldl : cells.dropLast.length ≤ 999 := by rw [List.length_dropLast]; omega
      show tSeq _ _ _ [some (.ref d), some (.int many), some (.int (m + 61473 * (k + 1))), some (.int z)] H5
      refine st_when (R := R0) (B := fun _ => True) (gt_any ((gv_I0 (g := fun i j => .bl (decide (j ≤ i))) (gv_varI rfl) (gv_I (C := CPow) (g := fun i j => .int (i ^ j.toNat)) gv_c gv_c ⟨by decide, by decide, by decide⟩)).imp fun v H o p => ⟨_, p⟩)) trivial (fun H6 e6 _ _ => ?_) (fun H6 e6 _ _ => ?_)
      · have e6 := r0_ex e6
        have hd6 := e6 _ _ hd5
        have hc6 := e6 _ _ hc5
        refine ⟨_, rfl, d, .ref c, rfl, ?_, .inl ⟨rfl, _, sq_of hc6⟩, ?_⟩
        · have := DGet.k (k := .inr "cells") hd6
          rw [deck_cells] at this
          exact this
        refine Gv.go1 (R := R0) (P := Is (.int (z / (if many > 2 then many else 2)))) (gv_I (C := CDiv) (g := fun i j => .int (i / j)) (gv_varI rfl) (gv_cb (ga_k gv_c (ga_k (gv_varI rfl) ga_n)) fun vs H2 _ o2 h Q k => ⟨_, _, h, k _ H2 (Rel.refl _) o2 rfl⟩) (by split <;> (constructor <;> omega))) trivial fun v H7 e7 _ hv => ?_
        subst hv
        have e7 := r0_ex e7
        have hd7 := e7 _ _ hd6
        have hc7 := e7 _ _ hc6
        refine ⟨c, _, _, rfl, rfl, hc7, sz_lt (by rw [List.length_map]; omega), ?_⟩
        have k8 : Kp (fun a => a = d ∨ a = c) H (upd H7 c (.lst (cells.dropLast.map V.int ++ [.int (z / (if many > 2 then many else 2))]))) := fun a o h n => by rw [upd_ne fun z => n (.inr z)]; exact e7 _ _ (e6 _ _ (k5 _ _ h n))
        have hd8 : (upd H7 c (.lst (cells.dropLast.map V.int ++ [.int (z / (if many > 2 then many else 2))]))) d = some (.dK (deckF c m (k + 1))) := by rw [upd_ne hdc]; exact hd7
        have hc8 : (upd H7 c (.lst (cells.dropLast.map V.int ++ [.int (z / (if many > 2 then many else 2))]))) c = some (.lst ((cells.dropLast ++ [z / (if many > 2 then many else 2)]).map V.int)) := by rw [upd_same, List.map_append]; rfl
        generalize upd H7 c (.lst (cells.dropLast.map V.int ++ [.int (z / (if many > 2 then many else 2))])) = H8 at *
        dsimp only
        refine st_ret (R := R0) (P := fun v _ => ∃ n : Int, v = .int n ∧ 0 ≤ n ∧ n < many) ((gv_mod (gv_int (gv_varI rfl)) (gv_varI rfl) (by omega)).imp fun v H o p => ⟨_, p, Int.emod_nonneg _ (by omega), Int.emod_lt_of_pos _ (by omega)⟩) trivial fun v H9 e9 _ hv => ?_
        have e9 := r0_ex e9
        exact q v H9 (fun a o h n => e9 _ _ (k8 _ _ h n)) ⟨cells.dropLast ++ [z / (if many > 2 then many else 2)], m, k + 1, e9 _ _ hd8, e9 _ _ hc8, by simp; omega⟩ hv
      · have e6 := r0_ex e6
        refine st_asg1 (R := R0) (P := fun v _ => ∃ n : Int, v = .int n) ((gv_add (gv_varI rfl) (gv_mod (gv_int (gv_varI rfl)) gv_c (by decide))).imp fun v H o p => ⟨_, p⟩) trivial fun v H7 e7 _ ⟨n, hn⟩ => ?_
        subst hn
        have e7 := e6.trans (r0_ex e7)
        exact fin _ _ ⟨n, some (.int z), cells.dropLast, rfl, fun a o h n => e7 _ _ (k5 _ _ h n), e7 _ _ hd5, e7 _ _ hc5, by omega⟩
end
end Tm
end
section
set_option Elab.async false
set_option linter.all false
set_option maxRecDepth 100000
set_option maxHeartbeats 4000000
set_option exponentiation.threshold 100000
namespace Tm
open PySem PySem.Spec PyProof.Rows L2
section
variable {R : Rel} {K : PySem.W.Frag} {σ : L2.St} {H : Hp} {ta tb te : TE}
/-- tuple(a new list), its items told by a word -/
theorem gv_tupleX {Px : List V → Hp → Prop} (hm : ∀ xs H H', R.q H H' → R.ok H → Px xs H → Px xs H') (ha : Gv R ta σ H (fun v H => ∃ a xs, v = .ref a ∧ H a = some (.lst xs) ∧ Px xs H)) : Gv R (tCB (fun xs H Q => ∃ p ys, xs = [.ref p] ∧ ((SqL K H p ys ∧ ∀ l, H l = none → Q (.ref l) (upd H l (.tup ys))) ∨ (SqT K H p ys ∧ Q (.ref p) H))) (tCons ta tNil)) σ H (fun v H => ∃ a xs, v = .ref a ∧ SqT K H a xs ∧ Px xs H) := fun H1 e o Q k =>
  ha H1 e o _ fun v H2 e2 o2 ⟨a, xs, h1, h2, h3⟩ => ⟨a, xs, by rw [h1], .inl ⟨sq_of h2, fun l hl => k _ _ (Rel.trans e2 (Rel.ex (Ex.new hl))) (R.ext _ _ (Ex.new hl) o2) ⟨l, xs, rfl, st_of upd_same, hm xs H2 _ (Rel.ex (Ex.new hl)) o2 h3⟩⟩⟩
theorem fits_all {Pe : Pv} {is : List Nat} {ys : List V} (h : Fits (fun _ => Pe) is ys H) : ∀ y ∈ ys, Pe y H := fun y hy => by
  obtain ⟨i, hi, e⟩ := List.mem_iff_getElem.mp hy
  have hi2 : i < is.length := by rw [← h.1]; exact hi
  exact h.2 i is[i] y (List.getElem?_eq_getElem hi2) (by rw [List.getElem?_eq_getElem hi, e])
theorem ints_of {lo hi : Int} : ∀ {ys : List V}, (∀ y ∈ ys, Bt lo hi y H) → ∃ r : List Int, ys = r.map V.int ∧ ∀ x ∈ r, lo ≤ x ∧ x ≤ hi
  | [], _ => ⟨[], rfl, fun x hx => by cases hx⟩
  | y :: ys, h => by
    obtain ⟨n, rfl, h1, h2⟩ := h y List.mem_cons_self
    obtain ⟨r, rfl, h3⟩ := ints_of fun y hy => h y (List.mem_cons_of_mem _ hy)
    exact ⟨n :: r, rfl, fun x hx => by
      rcases List.mem_cons.mp hx with rfl | hx
      · exact ⟨h1, h2⟩
      · exact h3 x hx⟩
theorem rows_of {Qr : List Int → Prop} : ∀ {ys : List V}, (∀ y ∈ ys, ∃ r, Qr r ∧ Row K r y H) → ∃ rs : List (List Int), (∀ r ∈ rs, Qr r) ∧ Al (Row K) rs ys H
  | [], _ => ⟨[], ⟨fun x hx => absurd hx List.not_mem_nil, al_nil⟩⟩
  | y :: ys, h => by
    obtain ⟨r, h1, h2⟩ := h y List.mem_cons_self
    obtain ⟨rs, h3, h4⟩ := rows_of fun y hy => h y (List.mem_cons_of_mem _ hy)
    exact ⟨r :: rs, fun x hx => by
      rcases List.mem_cons.mp hx with rfl | hx
      · exact h1
      · exact h3 x hx, by simpa using al_append (al_one h2) h4⟩
theorem gv_revL {xs : List V} (ha : Gv R ta σ H (fun v H => ∃ a, v = .ref a ∧ SqL K H a xs)) : Gv R (tRevL K ta) σ H (New R xs.reverse) := fun H1 e o Q k =>
  ha H1 e o _ fun v H2 e2 o2 ⟨a, h1, h2⟩ => ⟨a, xs, h1, h2, fun p np => k _ _ (Rel.trans e2 (Rel.ex (Ex.new np))) (R.ext _ _ (Ex.new np) o2) ⟨p, rfl, R.notW o2 np, upd_same⟩⟩
/-- list(a list) -/
theorem gv_listL {xs : List V} (ha : Gv R ta σ H (fun v H => ∃ a, v = .ref a ∧ SqL K H a xs)) : Gv R (tCB (fun xs H Q => ∃ p ys, xs = [.ref p] ∧ (SqL K H p ys ∨ SqT K H p ys) ∧ ∀ l, H l = none → Q (.ref l) (upd H l (.lst ys))) (tCons ta tNil)) σ H (New R xs) := fun H1 e o Q k =>
  ha H1 e o _ fun v H2 e2 o2 ⟨a, h1, h2⟩ => ⟨a, xs, by rw [h1], .inl h2, fun l hl => k _ _ (Rel.trans e2 (Rel.ex (Ex.new hl))) (R.ext _ _ (Ex.new hl) o2) ⟨l, rfl, R.notW o2 hl, upd_same⟩⟩
theorem New.sl {xs : List V} {v : V} (h : New R xs v H) : ∃ a, v = .ref a ∧ SqL K H a xs := by
  obtain ⟨a, h1, _, h2⟩ := h
  exact ⟨a, h1, sq_of h2⟩
/-- the deck, by its name -/
theorem gv_deck {d c : Addr} {i : Nat} (h : σ[i]? = some (some (.ref d))) : Gv R (tVar i) σ H (Is (.ref d)) := gv_varI h
theorem draw_1 {d c : Addr} {many : Int} {E : XK} {i : Nat} (D : DeckR R d c) (hi : σ[i]? = some (some (.ref d))) (ha : Gv R ta σ H (Is (.int many))) (h1 : 1 ≤ many) (h2 : many < 1073741824) :
    Gv R (tCall (PrD (fun (many : Int) ws _ => ws = [.int many] ∧ 1 ≤ many ∧ many < 1073741824) fun many => postDraw many) [] E (tCons (tVar i) (tCons ta tNil))) σ H (postDraw many) :=
  gv_draw (pre := fun (many : Int) ws _ => ws = [.int many] ∧ 1 ≤ many ∧ many < 1073741824) (post := fun many => postDraw many) many D (ga_k (gv_varI hi) (ga_k ha ga_n)) (fun vs H1 _ _ h => ⟨[.int many], h, rfl, h1, h2⟩) fun v H1 _ _ p => p
end
section
variable {K : PySem.W.Frag} {C : Addr} {P : Program} {w : World} {mg : Str → Option Value} {base : Heap}
theorem tp_c {R : Rel} {σ : L2.St} {H : Hp} {tv : TE} {P : Pv} {x : Str} {r : List (TE × TE)} {Q : List (V × V) → Hp → Prop} (h : Gv R tv σ H P) (o : R.ok H) (k : ∀ v H2, R.r H H2 → R.ok H2 → P v H2 → tPairs r σ H2 fun ps H3 => Q ((.str x, v) :: ps) H3) : tPairs ((tC (.str x), tv) :: r) σ H Q := h H (Rel.refl H) o _ k
theorem mergeK_deck {c : Addr} {m k : Int} : mergeK [] (deckF c m k) = deckF c m k := by
  unfold mergeK deckF
  rw [List.foldl_cons, List.foldl_cons, List.foldl_cons, List.foldl_nil]
  have e1 : putK ([] : List (Key × V)) (.inr "cells") (.ref c) = [(.inr "cells", .ref c)] := by unfold putK; rw [if_neg (by simp)]; rfl
  have e2 : putK ([(.inr "cells", .ref c)] : List (Key × V)) (.inr "mixed") (.int m) = [(.inr "cells", .ref c), (.inr "mixed", .int m)] := by
    unfold putK
    rw [if_neg (by simp only [List.any]; rw [decide_eq_false kne1]; simp)]
    rfl
  have e3 : putK ([(.inr "cells", .ref c), (.inr "mixed", .int m)] : List (Key × V)) (.inr "draws") (.int k) = [(.inr "cells", .ref c), (.inr "mixed", .int m), (.inr "draws", .int k)] := by
    unfold putK
    rw [if_neg (by simp only [List.any]; rw [decide_eq_false kne2, decide_eq_false kne3]; simp)]
    rfl
  dsimp only
  rw [e1, e2, e3]
/-! _law_deck -/
abbrev N_deck : List Str := ["_law_script", "_law_mixed", "_law_cell"]
theorem sc_L_deck : FnScope N_deck ["_law_script"] (defScope s_L_deck) := ⟨rfl, rfl, rfl, by decide +kernel, rfl, by decide +kernel, by decide +kernel⟩
theorem do_L_deck (T : Txt K mg C) : Does P w K mg base 1 "_law_deck" ["_law_script"]
    (PrG (fun (ns : List Int) vs H => ∃ a, vs = [.ref a] ∧ SqL K H a (ns.map V.int)) fun _ v H => ∃ d c, v = .ref d ∧ DeckAt d c H) :=
  mk_doesG T.L_deck sc_L_deck (fun _ _ _ _ _ _ us hl => match us, hl with | [_], _ => rfl) (fun g vs H h => by obtain ⟨v, rfl, _⟩ := h; rfl) fun f cdv A outer s H vs Q E ns hr h q => by
    obtain ⟨a, rfl, ha⟩ := h
    have nd := (sc_L_deck).nd
    refine ⟨_, pss_cons (ps_set (i := 1) nd rfl (Or.inl rfl) pe_int)
      (pss_cons (ps_for PassesOwn.never rfl (pi_list (pe_slice sl_list (pv 0) po_none (po_some pe_int))) (pg_name (i := 2) nd rfl (Or.inl rfl))
        (pss_one (ps_set (i := 1) nd rfl (Or.inl rfl) (pe_op op_mod (pe_callTy call_int1 (by rfl) T.z_int (by decide +kernel) (pa_cons (pe_op op_add (pe_op op_add (pe_op op_mul (pv 1) pe_int) (pe_op op_mod (pe_callTy call_int1 (by rfl) T.z_int (by decide +kernel) (pa_cons (pv 2) pa_nil)) pe_int)) pe_int) pa_nil)) pe_int))))
      (pss_one (ps_ret (pe_disp (pps_cons pe_str (pe_revL (pe_callTy call_list_of (by rfl) T.z_list (by decide +kernel) (pa_cons (pe_slice sl_list (pv 0) po_none (po_some pe_int)) pa_nil))) (pps_cons pe_str (pv 1) (pps_cons pe_str pe_int pps_nil))) rfl rfl (fun z => nomatch z) (by decide))))), ?_⟩
    refine st_asg (R := R0) (P := Is (.int 13731320)) gv_c trivial fun v1 H1 e1 _ hv1 => ?_
    subst hv1
    have e1 := r0_ex e1
    have a1 := ex_lst e1 ha
    have cutE : cutV (ns.map V.int) none (some 63) = (ns.take 63).map V.int := by
      unfold cutV
      rw [show HT.sIx (ns.map V.int).length (ns.map V.int).length (some 63) = min 63 (ns.map V.int).length from HT.sIx_nat _ _ 63, HT.sIx_none]
      rw [List.drop_zero, Nat.sub_zero, List.map_take]
      by_cases h : 63 ≤ (ns.map V.int).length
      · rw [Nat.min_eq_left h]
      · rw [Nat.min_eq_right (by omega), List.take_of_length_le (by omega), List.take_of_length_le (by omega)]
    have gs : ∀ {H2 : Hp} {s1 s2 : Option V}, Ex H1 H2 → Gv R0 (tSl (rSlL K) (tVar 0) tNoPart (tPart (tC (.int 63)))) [some (.ref a), s1, s2] H2 (New R0 ((ns.take 63).map V.int)) := fun e => by
      rw [← cutE]
      exact gv_sliceL (gv_var rfl fun H3 e3 _ => ⟨a, rfl, id, ex_lst (e.trans (r0_ex e3)) a1⟩) go_none (go_part gv_c)
    show tSeq (tFor _ _ _) _ _ [some (.ref a), some (.int 13731320), none] H1
    refine st_for (R := R0) (n := ((ns.take 63).map V.int).length) (Y := YAt ((ns.take 63).map V.int)) (gi_lst ((gs (Ex.refl _)).imp fun v H' o ⟨a, h1, m, h2⟩ => ⟨a, h1, m, sq_of h2⟩)) trivial (fun i σ' H' => ∃ m s2, σ' = [some (.ref a), some (.int m), s2]) (fun H2 e2 _ => ⟨_, none, rfl⟩) (fun i x σ' H' H'' hi r' _ hp y => ?_) (fun σ' H2 r' _ hp => ?_)
    · obtain ⟨m, s2, rfl⟩ := hp
      obtain ⟨rfl, hx⟩ := y
      obtain ⟨z, rfl⟩ : ∃ z, x = .int z := by
        rw [List.getElem?_map] at hx
        obtain ⟨z, _, h⟩ := Option.map_eq_some_iff.mp hx
        exact ⟨z, h.symm⟩
      refine g_name ?_
      show tAsg _ _ _ [some (.ref a), some (.int m), some (.int z)] H''
      refine st_asg1 (R := R0) (P := fun v _ => ∃ n : Int, v = .int n) ((gv_mod (gv_int (gv_add (gv_add (gv_I (C := CMul) (g := fun i j => .int (i * j)) (gv_varI rfl) gv_c (.inr ⟨by decide, by decide⟩)) (gv_mod (gv_int (gv_varI rfl)) gv_c (by decide))) gv_c)) gv_c (by decide)).imp fun v H o p => ⟨_, p⟩) trivial fun v H2 e2 _ ⟨n, hn⟩ => ⟨e2, trivial, n, some (.int z), by rw [hn]; rfl⟩
    · obtain ⟨m, s2, rfl⟩ := hp
      have e2 := r0_ex r'
      refine fun p np => ?_
      have e3 : Ex H2 (upd H2 p (.dK [])) := Ex.new np
      have g1 : Gv R0 (tRevL K (tCB (fun xs H Q => ∃ p ys, xs = [.ref p] ∧ (SqL K H p ys ∨ SqT K H p ys) ∧ ∀ l, H l = none → Q (.ref l) (upd H l (.lst ys))) (tCons (tSl (rSlL K) (tVar 0) tNoPart (tPart (tC (.int 63)))) tNil))) [some (.ref a), some (.int m), s2] (upd H2 p (.dK [])) (New R0 ((ns.take 63).map V.int).reverse) :=
        gv_revL ((gv_listL ((gs (e2.trans e3)).imp fun v H' o h => New.sl h)).imp fun v H' o h => New.sl h)
      refine tp_c (R := R0) g1 trivial fun v H4 e4 _ hv => ?_
      obtain ⟨c, hv, _, hc⟩ := hv
      have e4 := r0_ex e4
      refine ⟨_, rfl, ?_⟩
      refine ⟨e4 _ _ upd_same, deckF c m 0, by rw [hv]; rfl, by show 3 ≤ 15; decide, ?_⟩
      rw [mergeK_deck]
      have hcp : c ≠ p := fun e => by have := e4 _ _ upd_same; rw [← e, hc] at this; cases this
      refine q _ _ (fun b o h => ?_) ⟨p, c, rfl, ((ns.take 63)).reverse, m, 0, upd_same, by rw [upd_ne hcp, hc, List.map_reverse], by simp; omega⟩
      have hb := e2 _ _ (e1 _ _ h)
      rw [upd_ne (ne_of_none hb np)]
      exact e4 _ _ (e3 _ _ hb)
end
end Tm
end
section
set_option Elab.async false
set_option linter.all false
set_option maxRecDepth 100000
set_option maxHeartbeats 4000000
set_option exponentiation.threshold 100000
namespace Tm
open PySem PySem.Spec PyProof.Rows L2
section
variable {K : PySem.W.Frag} {C : Addr} {P : Program} {w : World} {mg : Str → Option Value} {base : Heap}
/-- for promises of the form PrD -/
theorem mk_doesR {x : Str} {st : Stmt} {N ps : List Str} {k : Nat} {G : Type} {pre : G → List V → Hp → Prop} {post : G → Pv} (D : DefAt K mg x st []) (S : FnScope N ps (defScope st))
    (b : ∀ (kV doc pm : Value) (an : Option Addr) (cdv ct : Value) (us : List Value), us.length = ps.length → bindArgs (PySem.W.fnOf x x (defArgs st) (defBody st) (defScope st) .none kV doc pm an cdv ct) ⟨us, []⟩ = pure (ps.zip us))
    (len : ∀ g vs H, pre g vs H → vs.length + 1 = ps.length)
    (hbody : ∀ (f : Addr) (cdv : Value) (A : Around) (outer : List Env) (s : Shared) (H : Hp) (ws : List V) (Q : VK) (E : XK) (g : G) (d c : Addr), Room k (A.deeper (envOfC x (defScope st) s.heap.objs.size f cdv)) → DeckAt d c H → pre g ws H → (∀ v H', (RD d c).r H H' → (RD d c).ok H' → post g v H' → Q v H') →
      ∃ t, PSs (cxOf CX0 P w K mg base N x (defScope st) f cdv A outer s H E).nox (defBody st) t ∧ t { nx := fun _ H' => Q .non H', rt := Q } (start N (.ref d :: ws)) H) : Does P w K mg base (k + 1) x ps (PrD pre post) :=
  mk_does D S b (fun vs H Q E ⟨d, c, g, ws, e, _, h, _⟩ => by rw [e]; exact len g ws H h) fun f cdv A outer s H vs Q E hr ⟨d, c, g, ws, e, dk, h, q⟩ => by
    subst e
    exact hbody f cdv A outer s H ws Q E g d c hr dk h fun v H' r o p => q v H' r o p
/-! _law_pick -/
abbrev spPick (K : PySem.W.Frag) : Sp := fun vs H Q _ => ∃ (d c a : Addr) (ys : List V), vs = [.ref d, .ref a] ∧ DeckAt d c H ∧ H a = some (.lst ys) ∧ a ≠ c ∧ ys ≠ [] ∧ ys.length ≤ 1000000 ∧ ∀ v H', Kp (fun a => a = d ∨ a = c) H H' → DeckAt d c H' → v ∈ ys → Q v H'
theorem sc_L_pick : FnScope ["_law_deck_here", "_law_some"] ["_law_deck_here", "_law_some"] (defScope s_L_pick) := ⟨rfl, rfl, rfl, by decide +kernel, rfl, by decide +kernel, by decide +kernel⟩
theorem do_L_pick (T : Txt K mg C) : Does P w K mg base 2 "_law_pick" ["_law_deck_here", "_law_some"] (spPick K) :=
  mk_does T.L_pick sc_L_pick (fun _ _ _ _ _ _ us hl => match us, hl with | [_, _], _ => rfl) (fun vs H Q E h => by obtain ⟨d, c, a, ys, rfl, _⟩ := h; rfl) fun f cdv A outer s H vs Q E hr h => by
    obtain ⟨d, c, a, ys, rfl, dk, ha, hac, hne, hl, q⟩ := h
    have nd := (sc_L_pick).nd
    refine ⟨_, pss_one (ps_ret (pe_ix ix_list (pv 1) (pe_do (do_L_draw T) hr (by rfl) (pa_cons (pv 0) (pa_cons (pe_callB call_len_seq (by rfl) T.z_len boot_len (pa_cons (pv 1) pa_nil)) pa_nil))) (fun _ _ => rfl))), ?_⟩
    have had : a ≠ d := fun e => by obtain ⟨cells, m, k, h1, _⟩ := dk; rw [← e, ha] at h1; cases h1
    have hpos : 0 < ys.length := List.length_pos_iff.mpr hne
    have ga : ∀ {i : Nat} {σ : L2.St}, σ[i]? = some (some (.ref a)) → Gv (RD d c) (tVar i) σ H (fun v H => v = .ref a ∧ H a = some (.lst ys)) := fun h => gv_var h fun H1 e _ => ⟨rfl, e _ _ ha (by rintro (z | z); exact had z; exact hac z)⟩
    refine st_ret (R := RD d c) (P := fun v _ => v ∈ ys) ?_ dk fun v H1 e o hv => q v H1 e o hv
    refine gv_op (Pa := fun v H => v = .ref a ∧ H a = some (.lst ys)) (Pb := postDraw (ys.length : Int)) (ga rfl) (draw_1 (d := d) (c := c) deckR_0 rfl (gv_lenL (K := K) (xs := ys) ((ga rfl).imp fun v H o ⟨h1, h2⟩ => ⟨a, h1, sq_of h2⟩)) (by omega) (by omega)) (fun v H H' e o ⟨h1, h2⟩ => ⟨h1, e _ _ h2 (by rintro (z | z); exact had z; exact hac z)⟩) fun x y H1 e o ⟨h1, h2⟩ ⟨n, h3, h4, h5⟩ Q k => ?_
    obtain ⟨j, rfl⟩ : ∃ j : Nat, n = (j : Int) := ⟨n.toNat, by omega⟩
    have hj : j < ys.length := by omega
    exact ⟨a, ys, (j : Int), ys[j], h1, h3, sq_of h2, atI_nat (List.getElem?_eq_getElem hj), k _ H1 (Rel.refl _) o (List.getElem_mem hj)⟩
theorem gv_pick {R : Rel} {σ : L2.St} {H : Hp} {ta : TE} {d c : Addr} {i : Nat} {ys : List V} {E : XK} (D : DeckR R d c) (hc : R.W c) (hi : σ[i]? = some (some (.ref d))) (ha : Gv R ta σ H (New R ys)) (h1 : ys ≠ []) (h2 : ys.length ≤ 1000000) :
    Gv R (tCall (spPick K) [] E (tCons (tVar i) (tCons ta tNil))) σ H (fun v _ => v ∈ ys) := fun H1 e o Q k =>
  ⟨_, hi, ha H1 e o _ fun x H2 e2 o2 ⟨a, p1, p2, p3⟩ => by
    show spPick K ([V.ref d, x] ++ []) H2 Q E
    refine ⟨d, c, a, ys, by rw [p1]; rfl, D.at_ _ o2, p3, fun z => p2 (by rw [z]; exact hc), h1, h2, fun v H3 k3 dk hv => ?_⟩
    exact k v H3 (Rel.trans e2 (D.up _ _ k3)) (D.ok _ _ o2 k3 dk) hv⟩
/-! _law_item -/
theorem sc_L_item : FnScope ["_law_deck_here", "_law_most"] ["_law_deck_here", "_law_most"] (defScope s_L_item) := ⟨rfl, rfl, rfl, by decide +kernel, rfl, by decide +kernel, by decide +kernel⟩
abbrev preItem (most : Int) (ws : List V) : Prop := ws = [.int most] ∧ 1 ≤ most ∧ most ≤ 1000000
theorem do_L_item (T : Txt K mg C) : Does P w K mg base 2 "_law_item" ["_law_deck_here", "_law_most"] (PrD (fun (most : Int) ws _ => preItem most ws) fun most => Bt (-most) most) :=
  mk_doesR T.L_item sc_L_item (fun _ _ _ _ _ _ us hl => match us, hl with | [_, _], _ => rfl) (fun g vs H h => by obtain ⟨rfl, _⟩ := h; rfl) fun f cdv A outer s H ws Q E most d c hr dk h q => by
    obtain ⟨rfl, h1, h2⟩ := h
    refine ⟨_, pss_one (ps_ret (pe_ifExp (pt_cmpR op_eq (pe_do (do_L_draw T) hr (by rfl) (pa_cons (pv 0) (pa_cons pe_int pa_nil))) pe_int (nomark _)) pe_int (pe_op op_sub (pe_do (do_L_draw T) hr (by rfl) (pa_cons (pv 0) (pa_cons (pe_op op_add (pe_op op_mul pe_int (pv 1)) pe_int) pa_nil))) (pv 1)))), ?_⟩
    refine st_ret (R := RD d c) (P := Bt (-most) most) ?_ dk fun v H1 e o hv => q v H1 e o hv
    refine gv_if (A := fun _ => True) (gt_any (gv_op (draw_1 (d := d) (c := c) deckR_0 rfl gv_c (by decide) (by decide)) gv_c (fun _ _ _ _ _ h => h) fun x y H1 e o ⟨n, h3, _⟩ h4 Q k => ⟨by rw [h3, h4]; rfl, k _ H1 (Rel.refl _) o ⟨_, rfl⟩⟩)) (fun _ => gv_c.imp fun v H o p => ⟨0, p, by omega, by omega⟩) fun _ => ?_
    exact gv_op (draw_1 (d := d) (c := c) (many := 2 * most + 1) deckR_0 rfl (gv_add (gv_I (C := CMul) (g := fun i j => .int (i * j)) gv_c (gv_varI rfl) (.inl ⟨by decide, by decide⟩)) gv_c) (by omega) (by omega)) (gv_varI (v := .int most) rfl) (fun _ _ _ _ _ h => h) fun x y H1 e o ⟨n, h3, h4, h5⟩ h6 Q k => ⟨n, most, h3, h6, k _ H1 (Rel.refl _) o ⟨n - most, rfl, by omega, by omega⟩⟩
theorem gv_item {R : Rel} {σ : L2.St} {H : Hp} {ta : TE} {d c : Addr} {i : Nat} {most : Int} {E : XK} (D : DeckR R d c) (hi : σ[i]? = some (some (.ref d))) (ha : Gv R ta σ H (Is (.int most))) (h1 : 1 ≤ most) (h2 : most ≤ 1000000) :
    Gv R (tCall (PrD (fun (most : Int) ws _ => preItem most ws) fun most => Bt (-most) most) [] E (tCons (tVar i) (tCons ta tNil))) σ H (Bt (-most) most) :=
  gv_draw (pre := fun (most : Int) ws _ => preItem most ws) (post := fun most => Bt (-most) most) most D (ga_k (gv_varI hi) (ga_k ha ga_n)) (fun vs H1 _ _ h => ⟨[.int most], h, rfl, h1, h2⟩) fun v H1 _ _ p => p
/-- a new list of n drawn ints -/
def DrawnL (R : Rel) (n : Nat) (most : Int) : Pv := fun v H => ∃ a xs, v = .ref a ∧ ¬ R.W a ∧ H a = some (.lst xs) ∧ ∃ r : List Int, xs = r.map V.int ∧ r.length = n ∧ ∀ x ∈ r, -most ≤ x ∧ x ≤ most
theorem gv_items {R : Rel} {σ : L2.St} {H : Hp} {ta tm : TE} {d c : Addr} {i j : Nat} {n : Nat} {most : Int} {E : XK} {vs : List Nat} (D : ∀ A H1, Thru R A H H1 → DeckR (R.wth A) d c) (ok : R.ok H) (hn : n ≤ 1000) (ht : Gv R ta σ H (Is (.int (n : Int))))
    (hi : ∀ x, ((wipe σ vs).set j (some x))[i]? = some (some (.ref d))) (hw : ∀ x, wipe ((wipe σ vs).set j (some x)) vs = wipe σ vs) (ha : ∀ A x H1, Gv (R.wth A) tm ((wipe σ vs).set j (some x)) H1 (Is (.int most))) (h1 : 1 ≤ most) (h2 : most ≤ 1000000) :
    Gv R (tLc (iRng1 (tCons ta tNil)) (gName j) tYes (tCall (PrD (fun (most : Int) ws _ => preItem most ws) fun most => Bt (-most) most) [] E (tCons (tVar i) (tCons tm tNil))) vs) σ H (DrawnL R n most) := by
  have hit := gi_rng1 (R := R) (σ := σ) (H := H) (ta := tCons ta tNil) (n := (n : Int)) (ga_k ht ga_n) (by omega)
  rw [Int.toNat_natCast] at hit
  refine Gv.imp (gv_lcF (f := fun _ => true) (Pe := fun _ _ => Bt (-most) most) (h := fun j => .int (0 + (j : Int))) hit (by omega) ok (fun _ _ => mo_bt) (fun x => hw _) fun A k H1 hk t o => ⟨gt_yes, fun _ => gv_item (D A H1 t) (hi _) (ha A _ H1) h1 h2⟩) fun v H' o ⟨A, ys, z1, z2, z3, z4⟩ => ?_
  rw [idx_all (fun _ _ => rfl)] at z4
  obtain ⟨r, e1, e2⟩ := ints_of (H := H') (fits_all z4)
  refine ⟨A, ys, z1, z2, z3, r, e1, ?_, e2⟩
  have := z4.1
  rw [e1, List.length_map, List.length_range] at this
  exact this
/-- a drawn tuple of ints -/
def DrawnT (K : PySem.W.Frag) (n : Nat) (most : Nat) : Pv := fun v H => ∃ r : List Int, r.length = n ∧ Lim most r ∧ Row K r v H
theorem mo_drawnT {R : Rel} {n most : Nat} : Mo R (DrawnT K n most) := fun v H H' e o ⟨r, h1, h2, h3⟩ => ⟨r, h1, h2, mo_row v H H' e o h3⟩
theorem gv_drawnT {R : Rel} {σ : L2.St} {H : Hp} {ta : TE} {n most : Nat} (h : Gv R ta σ H (DrawnL R n (most : Int))) : Gv R (tCB (fun xs H Q => ∃ p ys, xs = [.ref p] ∧ ((SqL K H p ys ∧ ∀ l, H l = none → Q (.ref l) (upd H l (.tup ys))) ∨ (SqT K H p ys ∧ Q (.ref p) H))) (tCons ta tNil)) σ H (DrawnT K n most) :=
  (gv_tupleX (Px := fun xs _ => ∃ r : List Int, xs = r.map V.int ∧ r.length = n ∧ ∀ x ∈ r, -(most : Int) ≤ x ∧ x ≤ most) (fun _ _ _ _ _ h => h) (h.imp fun v H o ⟨a, xs, h1, _, h2, h3⟩ => ⟨a, xs, h1, h2, h3⟩)).imp fun v H o ⟨a, xs, h1, h2, r, h3, h4, h5⟩ => ⟨r, h4, fun x hx => by have := h5 x hx; omega, a, h1, by rw [← h3]; exact h2⟩
section
variable {R : Rel} {σ : L2.St} {H : Hp} {ta tb te : TE} {n n' most : Nat}
theorem gv_catD (ha : Gv R ta σ H (DrawnT K n most)) (hb : Gv R tb σ H (DrawnT K n' most)) (hl : n + n' ≤ 1000) : Gv R (tOp (rCatA K) ta tb) σ H (DrawnT K (n + n') most) :=
  gv_op ha hb mo_drawnT fun x y H1 e o ⟨r, a1, a2, a, h1, h2⟩ ⟨r', b1, b2, b, h3, h4⟩ Q k => by
    have key : ∀ v H', Row K (r ++ r') v H' → DrawnT K (n + n') most v H' := fun v H' h => ⟨r ++ r', by rw [List.length_append, a1, b1], fun x hx => by
      rcases List.mem_append.mp hx with h | h
      · exact a2 x h
      · exact b2 x h, h⟩
    refine ⟨a, b, r.map V.int, r'.map V.int, h1, h3, h2, h4, sz_of (by rw [List.length_map, List.length_map]; omega), fun z => k _ H1 (Rel.refl _) o (key _ _ ⟨b, rfl, ?_⟩), fun _ z => k _ H1 (Rel.refl _) o (key _ _ ⟨a, rfl, ?_⟩), fun _ _ p np => k _ _ (Rel.ex (Ex.new np)) (R.ext _ _ (Ex.new np) o) (key _ _ ⟨p, rfl, ?_⟩)⟩
    · rw [List.map_append, z]; exact h4
    · rw [List.map_append, z, List.append_nil]; exact h2
    · rw [List.map_append]; exact st_of upd_same
theorem gv_tup1D {P : Pv} (h : Gv R te σ H P) (hp : ∀ v H, P v H → ∃ x : Int, v = .int x ∧ x.natAbs ≤ most) : Gv R (tTup (tCons te tNil)) σ H (DrawnT K 1 most) :=
  gv_tup (ga_1 h) (fun vs H1 ⟨v, e, _⟩ => by rw [e]; simp) fun vs H1 p e o ⟨v, e1, e2⟩ np => by
    obtain ⟨x, h1, h2⟩ := hp v H1 e2
    exact ⟨[x], rfl, fun y hy => by rw [List.mem_singleton.mp hy]; exact h2, p, rfl, by rw [e1, h1]; exact st_of upd_same⟩
theorem gv_zerosD {k : Int} {j : Nat} (hb : Gv R tb σ H (Is (.int k))) (h1 : 0 ≤ k) (h2 : k ≤ 1000) (hj : k.toNat = j) : Gv R (tOp (rRepA K) (tTup (tCons (tC (.int 0)) tNil)) tb) σ H (DrawnT K j most) :=
  (gv_zeros hb h1 h2).imp fun v H' _ h => ⟨_, by rw [List.length_replicate, hj], fun x hx => by rw [List.eq_of_mem_replicate hx]; exact Nat.zero_le _, h⟩
end
/-! _law_border -/
abbrev N_border : List Str := ["_law_deck_here", "_law_width", "_law_way", "_law_at"]
theorem sc_L_border : FnScope N_border ["_law_deck_here", "_law_width"] (defScope s_L_border) := ⟨rfl, rfl, rfl, by decide +kernel, rfl, by decide +kernel, by decide +kernel⟩
theorem do_L_border (T : Txt K mg C) : Does P w K mg base 3 "_law_border" ["_law_deck_here", "_law_width"] (PrD (fun (W : Nat) ws _ => ws = [.int (W : Int)] ∧ (W = 2 ∨ W = 3)) fun W => DrawnT K W 999999) :=
  mk_doesR T.L_border sc_L_border (fun _ _ _ _ _ _ us hl => match us, hl with | [_, _], _ => rfl) (fun g vs H h => by obtain ⟨rfl, _⟩ := h; rfl) fun f cdv A outer s H ws Q E W d c hr dk h q => by
    obtain ⟨rfl, hW⟩ := h
    have nd := (sc_L_border).nd
    have hr1 : Room 1 _ := hr.mono (by decide)
    refine ⟨_, pss_cons (ps_set (i := 2) nd rfl (Or.inl rfl) (pe_do (do_L_draw T) hr1 (by rfl) (pa_cons (pv 0) (pa_cons pe_int pa_nil))))
      (pss_cons (ps_if (pt_cmpR op_eq (pv 2) pe_int (nomark _)) (pss_one (ps_ret (pe_callTy call_tuple_of (by rfl) T.z_tuple (by decide +kernel) (pa_cons (pe_lc (own := [("_law_at", 3)]) (g := gName 3) (tt := tYes) rfl nd (pi_range1 (by rfl) T.z_range (pa_cons (pv 1) pa_nil)) (blkOk_by (N := N_border) (sc := defScope s_L_border) (by decide +kernel)) (fun _ _ _ _ _ => pg_name (i := 3) nd rfl (Or.inl rfl)) (fun _ _ _ _ _ => pts_nil)
          (fun _ _ _ _ _ => pe_do (do_L_item T) hr (by rfl) (pa_cons (pv 0) (pa_cons (pe_op op_sub (pe_op op_pow pe_int pe_int) pe_int) pa_nil)))) pa_nil)))) pss_nil)
      (pss_cons (ps_if (pt_cmpR op_lt (pv 2) pe_int (nomark _)) (pss_cons (ps_set (i := 3) nd rfl (Or.inl rfl) (pe_do (do_L_draw T) hr1 (by rfl) (pa_cons (pv 0) (pa_cons (pe_op op_sub (pv 1) pe_int) pa_nil))))
          (pss_one (ps_ret (pe_op op_catA (pe_op op_catA (pe_op op_catA (pe_op op_repA (pe_tup (pa_cons pe_int pa_nil)) (pv 3)) (pe_tup (pa_cons (pe_do (do_L_pick T) hr (by rfl) (pa_cons (pv 0) (pa_cons (pe_lst (pa_cons pe_int (pa_cons (pe_un un_neg pe_int) pa_nil))) pa_nil))) pa_nil)))
            (pe_op op_repA (pe_tup (pa_cons pe_int pa_nil)) (pe_op op_sub (pe_op op_sub (pv 1) pe_int) (pv 3)))) (pe_tup (pa_cons (pe_do (do_L_draw T) hr1 (by rfl) (pa_cons (pv 0) (pa_cons pe_int pa_nil))) pa_nil)))))) pss_nil)
      (pss_one (ps_ret (pe_callTy call_tuple_of (by rfl) T.z_tuple (by decide +kernel) (pa_cons (pe_lc (own := [("_law_at", 3)]) (g := gName 3) (tt := tYes) rfl nd (pi_range1 (by rfl) T.z_range (pa_cons (pv 1) pa_nil)) (blkOk_by (N := N_border) (sc := defScope s_L_border) (by decide +kernel)) (fun _ _ _ _ _ => pg_name (i := 3) nd rfl (Or.inl rfl)) (fun _ _ _ _ _ => pts_nil)
          (fun _ _ _ _ _ => pe_do (do_L_item T) hr (by rfl) (pa_cons (pv 0) (pa_cons pe_int pa_nil)))) pa_nil)))))), ?_⟩
    have hW1 : 2 ≤ W ∧ W ≤ 3 := by omega
    refine st_asg (R := RD d c) (draw_1 (d := d) (c := c) deckR_0 rfl gv_c (by decide) (by decide)) dk fun v2 H1 e1 o1 ⟨n, hn, _⟩ => ?_
    subst hn
    show tSeq _ _ _ [some (.ref d), some (.int (W : Int)), some (.int n), none] H1
    refine st_when (R := RD d c) (B := fun _ => True) (gt_any ((gv_eq (gv_varI rfl) gv_c rfl).imp fun v H o p => ⟨_, p⟩)) o1 (fun H2 e2 o2 _ => ?_) fun H2 e2 o2 _ => ?_
    · refine st_ret (R := RD d c) (P := DrawnT K W 999999) ?_ o2 fun v H3 e3 o3 p => q v H3 (Rel.trans e1 (Rel.trans e2 e3)) o3 p
      exact gv_drawnT (most := 999999) (gv_items (d := d) (c := c) (fun A H1 t => deckR_wth t) o2 (by omega) (gv_varI rfl) (fun x => rfl) (fun x => rfl) (fun A x H1 => gv_is (gv_sub (gv_I (C := CPow) (g := fun i j => .int (i ^ j.toNat)) gv_c gv_c ⟨by decide, by decide, by decide⟩) gv_c) (by decide)) (by decide) (by decide))
    · refine st_when (R := RD d c) (B := fun _ => True) (gt_any ((gv_I0 (g := fun i j => .bl (decide (i < j))) (gv_varI rfl) gv_c).imp fun v H o p => ⟨_, p⟩)) o2 (fun H3 e3 o3 _ => ?_) fun H3 e3 o3 _ => ?_
      · refine st_asg (R := RD d c) (draw_1 (d := d) (c := c) (many := (W : Int) - 1) deckR_0 rfl (gv_sub (gv_varI rfl) gv_c) (by omega) (by omega)) o3 fun v4 H4 e4 o4 ⟨a, ha, a1, a2⟩ => ?_
        subst ha
        dsimp only
        refine st_ret (R := RD d c) (P := DrawnT K W 999999) ?_ o4 fun v H5 e5 o5 p => q v H5 (Rel.trans e1 (Rel.trans e2 (Rel.trans e3 (Rel.trans e4 e5)))) o5 p
        obtain ⟨j, rfl⟩ : ∃ j : Nat, a = (j : Int) := ⟨a.toNat, by omega⟩
        have e : j + 1 + (W - 2 - j) + 1 = W := by omega
        have g := gv_catD (K := K) (R := RD d c) (σ := [some (.ref d), some (.int (W : Int)), some (.int n), some (.int (j : Int))]) (H := H4) (most := 999999) (gv_catD (gv_catD (gv_zerosD (tb := tVar 3) (k := (j : Int)) (j := j) (gv_varI rfl) (by omega) (by omega) (by omega)) (gv_tup1D (gv_pick (K := K) (E := E0) (d := d) (c := c) (i := 0) (ys := [.int 1, .int (-1)]) deckR_0 (.inr rfl) rfl (gv_lstK (ga_k gv_c (ga_k (gv_negI gv_c) ga_n)) (by simp)) (by simp) (by simp)) (fun v H h => by
            rcases List.mem_cons.mp h with h | h
            · exact ⟨1, h, by decide⟩
            · exact ⟨-1, List.mem_singleton.mp h, by decide⟩)) (by omega)) (gv_zerosD (tb := tOp (rI0 fun i j => .int (i - j)) (tOp (rI0 fun i j => .int (i - j)) (tVar 1) (tC (.int 2))) (tVar 3)) (k := (W : Int) - 2 - (j : Int)) (j := W - 2 - j) (gv_sub (gv_sub (gv_varI rfl) gv_c) (gv_varI rfl)) (by omega) (by omega) (by omega)) (by omega)) (gv_tup1D (draw_1 (E := E0) (d := d) (c := c) (i := 0) (many := 4) deckR_0 rfl gv_c (by decide) (by decide)) (fun v H ⟨x, h1, h2, h3⟩ => ⟨x, h1, by omega⟩)) (by omega)
        rw [e] at g
        exact g
      · refine st_ret (R := RD d c) (P := DrawnT K W 999999) ?_ o3 fun v H4 e4 o4 p => q v H4 (Rel.trans e1 (Rel.trans e2 (Rel.trans e3 e4))) o4 p
        exact (gv_drawnT (most := 4) (gv_items (d := d) (c := c) (fun A H1 t => deckR_wth t) o3 (by omega) (gv_varI rfl) (fun x => rfl) (fun x => rfl) (fun A x H1 => gv_c) (by decide) (by decide))).imp fun v H o ⟨r, h1, h2, h3⟩ => ⟨r, h1, fun x hx => Nat.le_trans (h2 x hx) (by decide), h3⟩
end
end Tm
end
section
set_option Elab.async false
set_option linter.all false
set_option maxRecDepth 100000
set_option maxHeartbeats 4000000
set_option exponentiation.threshold 100000
namespace Tm
open PySem PySem.Spec PyProof.Rows L2
section
variable {K : PySem.W.Frag} {C : Addr} {P : Program} {w : World} {mg : Str → Option Value} {base : Heap}
/-! _law_borders -/
/-- drawn rows -/
def DrawnRs (K : PySem.W.Frag) (n W most : Nat) : Pv := fun v H => ∃ rs : List (List Int), rs.length = n ∧ (∀ r ∈ rs, r.length = W ∧ Lim most r) ∧ RowsT K rs v H
theorem mo_drawnRs {R : Rel} {n W most : Nat} : Mo R (DrawnRs K n W most) := fun v H H' e o ⟨r, h1, h2, h3⟩ => ⟨r, h1, h2, mo_rowsT v H H' e o h3⟩
abbrev N_borders : List Str := ["_law_deck_here", "_law_width", "_law_many", "_law_turn"]
theorem sc_L_borders : FnScope N_borders ["_law_deck_here", "_law_width", "_law_many"] (defScope s_L_borders) := ⟨rfl, rfl, rfl, by decide +kernel, rfl, by decide +kernel, by decide +kernel⟩
theorem gv_border {R : Rel} {σ : L2.St} {H : Hp} {ta : TE} {d c : Addr} {i W : Nat} {E : XK} (D : DeckR R d c) (hi : σ[i]? = some (some (.ref d))) (ha : Gv R ta σ H (Is (.int (W : Int)))) (hW : W = 2 ∨ W = 3) :
    Gv R (tCall (PrD (fun (W : Nat) ws _ => ws = [.int (W : Int)] ∧ (W = 2 ∨ W = 3)) fun W => DrawnT K W 999999) [] E (tCons (tVar i) (tCons ta tNil))) σ H (DrawnT K W 999999) :=
  gv_draw (pre := fun (W : Nat) ws _ => ws = [.int (W : Int)] ∧ (W = 2 ∨ W = 3)) (post := fun W => DrawnT K W 999999) W D (ga_k (gv_varI hi) (ga_k ha ga_n)) (fun vs H1 _ _ h => ⟨[.int (W : Int)], h, rfl, hW⟩) fun v H1 _ _ p => p
theorem do_L_borders (T : Txt K mg C) : Does P w K mg base 4 "_law_borders" ["_law_deck_here", "_law_width", "_law_many"] (PrD (fun (g : Nat × Nat) ws _ => ws = [.int (g.1 : Int), .int (g.2 : Int)] ∧ (g.1 = 2 ∨ g.1 = 3) ∧ g.2 ≤ 100) fun g => DrawnRs K g.2 g.1 999999) :=
  mk_doesR T.L_borders sc_L_borders (fun _ _ _ _ _ _ us hl => match us, hl with | [_, _, _], _ => rfl) (fun g vs H h => by obtain ⟨rfl, _⟩ := h; rfl) fun f cdv A outer s H ws Q E g d c hr dk h q => by
    obtain ⟨W, n⟩ := g
    obtain ⟨rfl, hW, hn⟩ := h
    dsimp only at hW hn q
    have nd := (sc_L_borders).nd
    refine ⟨_, pss_one (ps_ret (pe_callTy call_tuple_of (by rfl) T.z_tuple (by decide +kernel) (pa_cons (pe_lc (own := [("_law_turn", 3)]) (g := gName 3) (tt := tYes) rfl nd (pi_range1 (by rfl) T.z_range (pa_cons (pv 2) pa_nil)) (blkOk_by (N := N_borders) (sc := defScope s_L_borders) (by decide +kernel)) (fun _ _ _ _ _ => pg_name (i := 3) nd rfl (Or.inl rfl)) (fun _ _ _ _ _ => pts_nil)
          (fun _ _ _ _ _ => pe_do (do_L_border T) hr (by rfl) (pa_cons (pv 0) (pa_cons (pv 1) pa_nil)))) pa_nil))), ?_⟩
    refine st_ret (R := RD d c) (P := DrawnRs K n W 999999) ?_ dk fun v H1 e o p => q v H1 e o p
    refine (gv_tupleX (Px := fun xs H => ∃ rs : List (List Int), rs.length = n ∧ (∀ r ∈ rs, r.length = W ∧ Lim 999999 r) ∧ Al (Row K) rs xs H) (fun xs H H' e o ⟨rs, h1, h2, h3⟩ => ⟨rs, h1, h2, al_row e o h3⟩) ?_).imp fun v H o ⟨a, xs, h1, h2, rs, h3, h4, h5⟩ => ⟨rs, h3, h4, a, xs, h1, h2, h5⟩
    have hit := gi_rng1 (R := RD d c) (σ := start N_borders [.ref d, .int (W : Int), .int (n : Int)]) (H := H) (ta := tCons (tVar 2) tNil) (n := (n : Int)) (ga_k (gv_varI rfl) ga_n) (by omega)
    rw [Int.toNat_natCast] at hit
    refine Gv.imp (gv_lcF (f := fun _ => true) (Pe := fun _ _ => DrawnT K W 999999) (h := fun j => .int (0 + (j : Int))) hit (by omega) dk (fun _ _ => mo_drawnT) (fun x => rfl) fun A k H1 hk t o => ⟨gt_yes, fun _ => gv_border (d := d) (c := c) (deckR_wth t) rfl (gv_varI rfl) hW⟩) fun v H' o ⟨A, ys, z1, z2, z3, z4⟩ => ?_
    rw [idx_all (fun _ _ => rfl)] at z4
    obtain ⟨rs, e1, e2⟩ := rows_of (K := K) (H := H') (Qr := fun r => r.length = W ∧ Lim 999999 r) (ys := ys) fun y hy => by
      obtain ⟨r, p1, p2, p3⟩ := fits_all z4 y hy
      exact ⟨r, ⟨p1, p2⟩, p3⟩
    refine ⟨A, ys, z1, z3, rs, ?_, e1, e2⟩
    have := z4.1
    rw [e2.1, List.length_range] at this
    exact this
/-! _law_point -/
abbrev N_point : List Str := ["_law_deck_here", "_law_width", "_law_at"]
theorem sc_L_point : FnScope N_point ["_law_deck_here", "_law_width"] (defScope s_L_point) := ⟨rfl, rfl, rfl, by decide +kernel, rfl, by decide +kernel, by decide +kernel⟩
theorem do_L_point (T : Txt K mg C) : Does P w K mg base 3 "_law_point" ["_law_deck_here", "_law_width"] (PrD (fun (W : Nat) ws _ => ws = [.int (W : Int)] ∧ (W = 2 ∨ W = 3)) fun W => DrawnT K W 6) :=
  mk_doesR T.L_point sc_L_point (fun _ _ _ _ _ _ us hl => match us, hl with | [_, _], _ => rfl) (fun g vs H h => by obtain ⟨rfl, _⟩ := h; rfl) fun f cdv A outer s H ws Q E W d c hr dk h q => by
    obtain ⟨rfl, hW⟩ := h
    have nd := (sc_L_point).nd
    have hr1 : Room 1 _ := hr.mono (by decide)
    refine ⟨_, pss_one (ps_ret (pe_op op_catA (pe_callTy call_tuple_of (by rfl) T.z_tuple (by decide +kernel) (pa_cons (pe_lc (own := [("_law_at", 2)]) (g := gName 2) (tt := tYes) rfl nd (pi_range1 (by rfl) T.z_range (pa_cons (pe_op op_sub (pv 1) pe_int) pa_nil)) (blkOk_by (N := N_point) (sc := defScope s_L_point) (by decide +kernel)) (fun _ _ _ _ _ => pg_name (i := 2) nd rfl (Or.inl rfl)) (fun _ _ _ _ _ => pts_nil)
          (fun _ _ _ _ _ => pe_do (do_L_item T) hr (by rfl) (pa_cons (pv 0) (pa_cons pe_int pa_nil)))) pa_nil)) (pe_tup (pa_cons (pe_op op_add pe_int (pe_do (do_L_draw T) hr1 (by rfl) (pa_cons (pv 0) (pa_cons pe_int pa_nil)))) pa_nil)))), ?_⟩
    refine st_ret (R := RD d c) (P := DrawnT K W 6) ?_ dk fun v H1 e o p => q v H1 e o p
    have e : W - 1 + 1 = W := by omega
    have g := gv_catD (K := K) (R := RD d c) (σ := start N_point [.ref d, .int (W : Int)]) (H := H) (most := 6) (n := W - 1) (n' := 1) (gv_drawnT (most := 6) (gv_items (E := E0) (d := d) (c := c) (i := 0) (j := 2) (vs := [("_law_at", 2)].map (·.2)) (ta := tOp (rI0 fun i j => .int (i - j)) (tVar 1) (tC (.int 1))) (tm := tC (.int 6)) (n := W - 1) (fun A H1 t => deckR_wth t) dk (by omega) (gv_is (gv_sub (gv_varI rfl) gv_c) (congrArg V.int (by omega))) (fun x => rfl) (fun x => rfl) (fun A x H1 => gv_c) (by decide) (by decide)))
      (gv_tup1D (P := fun v _ => ∃ n : Int, v = .int n ∧ 1 ≤ n ∧ n ≤ 6) (te := tOp (rI0 fun i j => .int (i + j)) (tC (.int 1)) (tCall (PrD (fun (many : Int) ws _ => ws = [.int many] ∧ 1 ≤ many ∧ many < 1073741824) fun many => postDraw many) [] E0 (tCons (tVar 0) (tCons (tC (.int 6)) tNil)))) (gv_op (gv_c (v := .int 1)) (draw_1 (E := E0) (d := d) (c := c) (i := 0) (many := 6) deckR_0 rfl gv_c (by decide) (by decide)) mo_is fun x y H1 e o h1 ⟨n, h2, h3, h4⟩ Q k => ⟨1, n, h1, h2, k _ H1 (Rel.refl _) o ⟨1 + n, rfl, by omega, by omega⟩⟩) (fun v H ⟨x, h1, h2, h3⟩ => ⟨x, h1, by omega⟩)) (by omega)
    rw [e] at g
    exact g
end
end Tm
end
section
set_option Elab.async false
set_option linter.all false
set_option maxRecDepth 100000
set_option maxHeartbeats 4000000
set_option exponentiation.threshold 100000
namespace Tm
open PySem PySem.Spec PyProof.Rows L2
theorem toward_ok {r p : List Int} {l : Int} {b : Nat} (hne : r ≠ []) (h : Lim b r) : (toward r p l).length = r.length ∧ Lim (b + 1) (toward r p l) := by
  have key : ∀ t : List Int, t ≠ [] → t.length = r.length → Lim b t → (if l ≤ value t p then t else t.dropLast ++ [last t + 1]).length = r.length ∧ Lim (b + 1) (if l ≤ value t p then t else t.dropLast ++ [last t + 1]) := fun t tne tl tb => by
    split
    · exact ⟨tl, fun x hx => Nat.le_succ_of_le (tb x hx)⟩
    · have : 0 < t.length := List.length_pos_iff.mpr tne
      refine ⟨by simp; omega, fun x hx => ?_⟩
      rcases List.mem_append.mp hx with h | h
      · exact Nat.le_succ_of_le (tb x (List.dropLast_subset _ h))
      · rw [List.mem_singleton.mp h]
        have := tb _ (last_mem tne)
        omega
  unfold toward
  dsimp only
  split
  · exact key r hne rfl h
  · exact key (neg r) (by simp [neg, hne]) (by simp [neg]) h.neg
section
variable {R : Rel} {K : PySem.W.Frag} {σ : L2.St} {H : Hp} {ta tb te tl : TE} {G : Type} {pre : G → List V → Hp → Prop} {post : G → Pv} {t : TA} {A : List V → Hp → Prop} {P : Pv}
/-- a call whose ghost is told by the arguments -/
theorem gv_callX {E : XK} (ha : GvA R t σ H A) (hp : ∀ vs H1, R.r H H1 → R.ok H1 → A vs H1 → ∃ g, pre g vs H1 ∧ ∀ v H2, R.r H1 H2 → R.ok H2 → post g v H2 → P v H2) : Gv R (tCall (PrG pre post) [] E t) σ H P := fun H1 e o Q k =>
  ha H1 e o _ fun vs H2 e2 o2 a => by
    show PrG pre post (vs ++ []) H2 Q E
    rw [List.append_nil]
    obtain ⟨g, h1, h2⟩ := hp vs H2 (Rel.trans e e2) o2 a
    exact ⟨g, h1, fun v H3 x q => k v H3 (Rel.trans e2 (Rel.ex x)) (R.ext _ _ x o2) (h2 v H3 (Rel.ex x) (R.ext _ _ x o2) q)⟩
theorem gv_drawX {E : XK} {d c : Addr} (D : DeckR R d c) (ha : GvA R (tCons ta t) σ H A) (hp : ∀ vs H1, R.r H H1 → R.ok H1 → A vs H1 → ∃ g ws, vs = .ref d :: ws ∧ pre g ws H1 ∧ ∀ v H2, R.r H1 H2 → R.ok H2 → post g v H2 → P v H2) :
    Gv R (tCall (PrD pre post) [] E (tCons ta t)) σ H P := fun H1 e o Q k =>
  ha H1 e o _ fun vs H2 e2 o2 a => by
    show PrD pre post (vs ++ []) H2 Q E
    rw [List.append_nil]
    obtain ⟨g, ws, h1, h2, h3⟩ := hp vs H2 (Rel.trans e e2) o2 a
    refine ⟨d, c, g, ws, h1, D.at_ _ o2, h2, fun v H3 x dk q => ?_⟩
    have r3 := D.up _ _ x
    have o3 := D.ok _ _ o2 x dk
    exact k v H3 (Rel.trans e2 r3) o3 (h3 v H3 r3 o3 q)
theorem st_parX {D : L2.Ends} {u : TS} {i j : Nat} (h : GvA R t σ H A) (o : R.ok H) (k : ∀ vs H2, R.r H H2 → R.ok H2 → A vs H2 → ∃ v w, vs = [v, w] ∧ u D ((σ.set i (some v)).set j (some w)) H2) : tSeq (tPar i j t) u D σ H :=
  h H (Rel.refl H) o _ k
theorem st_parX1 {D : L2.Ends} {i j : Nat} (h : GvA R t σ H A) (o : R.ok H) (k : ∀ vs H2, R.r H H2 → R.ok H2 → A vs H2 → ∃ v w, vs = [v, w] ∧ D.nx ((σ.set i (some v)).set j (some w)) H2) : tPar i j t D σ H :=
  h H (Rel.refl H) o _ k
/-- some rows of a width, within so much -/
def MoreOk (K : PySem.W.Frag) (W n b : Nat) : Pv := fun v H => ∃ rs : List (List Int), rs.length ≤ n ∧ (∀ r ∈ rs, r.length = W ∧ Lim b r) ∧ RowsT K rs v H
theorem mo_moreOk {W n b : Nat} : Mo R (MoreOk K W n b) := fun v H H' e o ⟨r, h1, h2, h3⟩ => ⟨r, h1, h2, mo_rowsT v H H' e o h3⟩
theorem MoreOk.wide {W n b b' : Nat} {v : V} (h : MoreOk K W n b v H) (hb : b ≤ b') : MoreOk K W n b' v H := by
  obtain ⟨rs, h1, h2, h3⟩ := h
  exact ⟨rs, h1, fun r hr => ⟨(h2 r hr).1, fun x hx => Nat.le_trans ((h2 r hr).2 x hx) hb⟩, h3⟩
/-- borders, as many as are drawn -/
theorem gv_borders {d c : Addr} {W n : Nat} {E E' : XK} {i : Nat} {many : Int} (D : DeckR R d c) (hi : σ[i]? = some (some (.ref d))) (hW : W = 2 ∨ W = 3) (ha : Gv R ta σ H (Is (.int (W : Int)))) (hb : Gv R tb σ H (Is (.int many))) (hm1 : 1 ≤ many) (hm : many ≤ (n : Int) + 1) (hn : n ≤ 100) :
    Gv R (tCall (PrD (fun (g : Nat × Nat) ws _ => ws = [.int (g.1 : Int), .int (g.2 : Int)] ∧ (g.1 = 2 ∨ g.1 = 3) ∧ g.2 ≤ 100) fun g => DrawnRs K g.2 g.1 999999) [] E (tCons (tVar i) (tCons ta (tCons (tCall (PrD (fun (many : Int) ws _ => ws = [.int many] ∧ 1 ≤ many ∧ many < 1073741824) fun many => postDraw many) [] E' (tCons (tVar i) (tCons tb tNil))) tNil)))) σ H (MoreOk K W n 999999) :=
  gv_drawX (pre := fun (g : Nat × Nat) ws _ => ws = [.int (g.1 : Int), .int (g.2 : Int)] ∧ (g.1 = 2 ∨ g.1 = 3) ∧ g.2 ≤ 100) (post := fun g => DrawnRs K g.2 g.1 999999) D (ga_cons (gv_varI hi) mo_is (ga_2 ha mo_is (draw_1 D hi hb hm1 (by omega)))) fun vs H1 _ _ h => by
    obtain ⟨v1, r1, rfl, rfl, v2, v3, rfl, rfl, n1, rfl, h1, h2⟩ := h
    obtain ⟨j, rfl⟩ : ∃ j : Nat, n1 = (j : Int) := ⟨n1.toNat, by omega⟩
    refine ⟨(W, j), _, rfl, ⟨rfl, hW, by dsimp only; omega⟩, fun v H2 _ _ ⟨rs, p1, p2, p3⟩ => ⟨rs, by dsimp only at p1; omega, p2, p3⟩⟩
/-- tuple([toward(it, point, l) for it in rows]) -/
theorem gv_towards {W n : Nat} {p : List Int} {l : Int} {vs : List Nat} {j i : Nat} {pv : V} {E : XK} (hl : Gv R tl σ H (MoreOk K W n 999999)) (ok : R.ok H) (hn : n ≤ 100) (hW : W = 2 ∨ W = 3) (hp : p.length = W) (hp2 : Sm p) (hpv : Row K p pv H)
    (hj : ∀ x, ((wipe σ vs).set j (some x))[j]? = some (some x)) (hi : ∀ x, ((wipe σ vs).set j (some x))[i]? = some (some pv)) (hw : ∀ x, wipe ((wipe σ vs).set j (some x)) vs = wipe σ vs)
    (known : ∃ rs : List (List Int), rs.length ≤ n ∧ (∀ r ∈ rs, r.length = W ∧ Lim 999999 r) ∧ Gv R tl σ H (RowsT K rs)) :
    Gv R (tCB (fun xs H Q => ∃ p ys, xs = [.ref p] ∧ ((SqL K H p ys ∧ ∀ l, H l = none → Q (.ref l) (upd H l (.tup ys))) ∨ (SqT K H p ys ∧ Q (.ref p) H))) (tCons (tLc (iTup K tl) (gName j) tYes (tCall (PrG (fun (g : List Int × List Int × Int) vs H => ∃ v u, vs = [v, u, .int g.2.2] ∧ Row K g.1 v H ∧ Row K g.2.1 u H ∧ g.1.length = g.2.1.length ∧ 1 ≤ g.1.length ∧ g.1.length ≤ 1000 ∧ Sm g.1 ∧ Sm g.2.1) fun g => Row K (toward g.1 g.2.1 g.2.2)) [] E (tCons (tVar j) (tCons (tVar i) (tCons (tC (.int l)) tNil)))) vs) tNil)) σ H (MoreOk K W n 1000000) := by
  obtain ⟨rs, k1, k2, k3⟩ := known
  refine (gv_tupleX (Px := fun xs H => Al (Row K) (rs.map fun r => toward r p l) xs H) (fun xs H H' e o h => al_row e o h) (Gv.imp (gv_lcR (f := fun _ => true) (Pe := fun _ k => Row K (toward (rs.getD k []) p l)) k3 (by omega) ok (fun _ _ => mo_row) hw fun D k x H1 hk hx t o => ⟨gt_yes, fun _ => ?_⟩) fun v H' o ⟨D, zs, h1, h2, h3, h4⟩ => ?_)).imp fun v H' o ⟨a, xs, h1, h2, h3⟩ => ⟨_, by simp; exact k1, fun r hr => ?_, a, xs, h1, h2, h3⟩
  · have ek : rs.getD k [] = rs[k] := by simp [List.getD_eq_getElem?_getD, hk]
    obtain ⟨m1, m2⟩ := k2 _ (List.getElem_mem hk)
    rw [ek] at hx ⊢
    refine gv_call (pre := fun (g : List Int × List Int × Int) vs H => ∃ v u, vs = [v, u, .int g.2.2] ∧ Row K g.1 v H ∧ Row K g.2.1 u H ∧ g.1.length = g.2.1.length ∧ 1 ≤ g.1.length ∧ g.1.length ≤ 1000 ∧ Sm g.1 ∧ Sm g.2.1) (post := fun g => Row K (toward g.1 g.2.1 g.2.2)) (rs[k], p, l) (ga_cons (gv_slot mo_row o (hj x) hx) mo_row (ga_2 (gv_slot mo_row o (hi x) (row_thru t hpv)) mo_row gv_c)) (fun vs H2 _ _ h => ?_) fun v H1 _ _ p => p
    obtain ⟨v1, r1, rfl, z1, v2, v3, rfl, z2, rfl⟩ := h
    exact ⟨v1, v2, rfl, z1, z2, by dsimp only; omega, by dsimp only; omega, by dsimp only; omega, m2.sm (by decide), hp2⟩
  · rw [idx_all (fun _ _ => rfl)] at h4
    have := al_fits h4
    rw [map_range_rows (fun r => toward r p l)] at this
    exact ⟨D, zs, h1, h3, this⟩
  · obtain ⟨r', hr', rfl⟩ := List.mem_map.mp hr
    obtain ⟨m1, m2⟩ := k2 _ hr'
    have hne : r' ≠ [] := fun e => by rw [e] at m1; simp at m1; omega
    obtain ⟨t1, t2⟩ := toward_ok (p := p) (l := l) hne m2
    exact ⟨by rw [t1, m1], t2⟩
theorem Gv.impr {P' : Pv} (g : Gv R te σ H P) (h : ∀ v H', R.r H H' → R.ok H' → P v H' → P' v H') : Gv R te σ H P' := fun H1 e o Q k => g H1 e o Q fun v H2 e2 o2 p => k v H2 e2 o2 (h v H2 (Rel.trans e e2) o2 p)
theorem gi_zipM {xs ys : List V} (ha : Gv R ta σ H (fun v H => ∃ a, v = .ref a ∧ ¬ R.W a ∧ SqL K H a xs)) (hb : Gv R tb σ H (fun v H => ∃ a, v = .ref a ∧ SqT K H a ys)) :
    GvIt R (iZipM K (tCons ta (tCons tb tNil))) σ H (min xs.length ys.length) (YPair (fun i => xs[i]?) (fun i => ys[i]?)) := fun H1 e o Q k => ha H1 e o _ fun v H2 e2 o2 ⟨a, h1, m1, h2⟩ => hb H2 (Rel.trans e e2) o2 _ fun w H3 e3 o3 ⟨b, h3, h4⟩ =>
  ⟨a, b, xs, ys, by rw [h1, h3], mo_lst (Rel.rq e3) m1 h2, h4, k _ H3 (fun H => SqL K H a xs ∧ SqT K H b ys) (Rel.trans e2 e3) o3 (walk_zipM rfl) (fun H4 e4 o4 => ⟨mo_lst (Rel.rq e4) m1 (mo_lst (Rel.rq e3) m1 h2), mo_tup (Rel.rq e4) o3 h4⟩) fun D H4 t => ⟨t.lst m1 (mo_lst (Rel.rq e3) m1 h2), t.tup h4⟩⟩
end
theorem box_ok {W : Nat} (hW : W = 2 ∨ W = 3) {k : Int} (h1 : 1 ≤ k) (h2 : k ≤ 3) : (box W k).length ≤ 4 ∧ ∀ r ∈ box W k, r.length = W ∧ Lim 3 r := by
  rcases hW with rfl | rfl
  · refine ⟨by simp [box], fun r hr => ?_⟩
    simp [box] at hr
    rcases hr with rfl | rfl <;> refine ⟨rfl, fun x hx => ?_⟩ <;> simp at hx <;> omega
  · refine ⟨by simp [box], fun r hr => ?_⟩
    simp [box] at hr
    rcases hr with rfl | rfl | rfl | rfl <;> refine ⟨rfl, fun x hx => ?_⟩ <;> simp at hx <;> omega
/-- the law's slots -/
abbrev LS (a d : Addr) (W : Int) (bx py mo st sh co so s10 s11 s12 s13 s14 s15 : Option V) : L2.St := [some (.ref a), some (.ref d), some (.int W), bx, py, mo, st, sh, co, so, s10, s11, s12, s13, s14, s15, none, none, none]
/-- the walls that are asked about -/
def SomeN (R : Rel) (K : PySem.W.Frag) (W n : Nat) : Pv := fun v H => ∃ rs : List (List Int), rs.length ≤ n ∧ (∀ r ∈ rs, r.length = W ∧ Lim 1000000 r) ∧ RowsN R K rs v H
theorem mo_someN {R : Rel} {K : PySem.W.Frag} {W n : Nat} : Mo R (SomeN R K W n) := fun v H H' e o ⟨rs, h1, h2, h3⟩ => ⟨rs, h1, h2, mo_rowsN v H H' e o h3⟩
theorem gv_catSome {R : Rel} {K : PySem.W.Frag} {σ : L2.St} {H : Hp} {ta tb : TE} {W n m : Nat} (ha : Gv R ta σ H (SomeN R K W n)) (hb : Gv R tb σ H (SomeN R K W m)) (hl : n + m ≤ 1000) : Gv R (tOp rCat ta tb) σ H (SomeN R K W (n + m)) :=
  gv_op ha hb mo_someN fun x y H1 e o ⟨rs, a1, a2, a, xs, h1, m1, h2, h3⟩ ⟨ts, b1, b2, b, ys, h4, m2, h5, h6⟩ Q k => ⟨a, b, xs, ys, h1, h4, h2, h5, sz_of (by rw [h3.1, h6.1]; omega), fun p np => k _ _ (Rel.ex (Ex.new np)) (R.ext _ _ (Ex.new np) o) ⟨rs ++ ts, by rw [List.length_append]; omega, fun r hr => by
    rcases List.mem_append.mp hr with h | h
    · exact a2 r h
    · exact b2 r h, p, xs ++ ys, rfl, R.notW o np, upd_same, al_row (R := R) (Rel.ex (Ex.new np)) o (al_append h3 h6)⟩⟩
end Tm
end
section
set_option Elab.async false
set_option linter.all false
set_option maxRecDepth 100000
set_option maxHeartbeats 4000000
set_option exponentiation.threshold 100000
namespace Tm
open PySem PySem.Spec PyProof.Rows L2
def valOf : Stmt → Expr
  | .Assign _ v _ => v
  | _ => .Constant .none 0 ⟨0, 0, 0, 0⟩
section
variable {K : PySem.W.Frag} {C : Addr} {P : Program} {w : World} {mg : Str → Option Value} {base : Heap}
abbrev N_law : List Str := ["_law_script", "_law_deck_here", "_law_width", "_law_box_here", "_law_point_here", "_law_more", "_law_stricts", "_law_shuts", "_law_corners_here", "_law_some", "_law_at", "_law_corner", "_law_slope", "_law_touch", "_law_shut", "_law_due", "_law_it", "_law_x", "_law_y"]
theorem sc_law : FnScope N_law ["_law_script"] (defScope s_law) := ⟨rfl, rfl, rfl, by decide +kernel, rfl, by decide +kernel, by decide +kernel⟩
/-- the law's promise: the true answer, at every script -/
abbrev spLaw (K : PySem.W.Frag) : Sp := fun vs H Q _ => ∃ (a : Addr) (ns : List Int), vs = [.ref a] ∧ SqL K H a (ns.map V.int) ∧ ∀ H', Q (.bl true) H'
theorem mk_fn {x : Str} {st : Stmt} {N ps : List Str} {k : Nat} {sp : Sp} {f : Addr} {fd : FuncData} (F : FunD K x x (defArgs st) (defBody st) (defScope st) [] [] f fd) (S : FnScope N ps (defScope st))
    (len : ∀ vs H Q E, sp vs H Q E → vs.length = ps.length)
    (hbody : ∀ (f : Addr) (cdv : Value) (A : Around) (outer : List Env) (s : Shared) (H : Hp) (vs : List V) (Q : VK) (E : XK), Room k (A.deeper (envOfC x (defScope st) s.heap.objs.size f cdv)) → sp vs H Q E →
      ∃ t, PSs (cxOf CX0 P w K mg base N x (defScope st) f cdv A outer s H E).nox (defBody st) t ∧ t { nx := fun _ H' => Q .non H', rt := Q } (start N vs) H) : FnOk P w K mg base CX0 (k + 1) f fd ps sp :=
  F.ok S len fun cdv A outer s H vs Q E hr h => by
    obtain ⟨t, h1, h2⟩ := hbody f cdv A outer s H vs Q E hr h
    exact ⟨t, h1.nox, h2⟩
theorem do_law (T : Txt K mg C) {f : Addr} {fd : FuncData} (F : FunD K "law" "law" (defArgs s_law) (defBody s_law) (defScope s_law) [] [] f fd) : FnOk P w K mg base CX0 8 f fd ["_law_script"] (spLaw K) :=
  mk_fn F sc_law (fun vs H Q E h => by obtain ⟨a, ns, rfl, _⟩ := h; rfl) fun f cdv A outer s H vs Q E hr h => by
    obtain ⟨a, ns, rfl, ha, q⟩ := h
    have nd := (sc_law).nd
    have hr1 : Room 1 _ := hr.mono (by decide)
    have hr2 : Room 2 _ := hr.mono (by decide)
    have hr3 : Room 3 _ := hr.mono (by decide)
    have hr4 : Room 4 _ := hr.mono (by decide)
    refine ⟨_, pss_cons (ps_set (i := 1) nd rfl (Or.inr rfl) (pe_do (do_L_deck T) hr1 (by rfl) (pa_cons (pv 0) pa_nil)))
      (pss_cons (ps_set (i := 2) nd rfl (Or.inl rfl) (pe_do (do_L_pick T) hr2 (by rfl) (pa_cons (pv 1) (pa_cons (pe_lst (pa_cons pe_int (pa_cons pe_int (pa_cons pe_int pa_nil)))) pa_nil))))
      (pss_cons (ps_asg (pe_tup (pa_cons (pe_do (do_L_box T) hr1 (by rfl) (pa_cons (pv 2) (pa_cons (pe_op op_add pe_int (pe_do (do_L_draw T) hr1 (by rfl) (pa_cons (pv 1) (pa_cons pe_int pa_nil)))) pa_nil))) (pa_cons (pe_do (do_L_point T) hr3 (by rfl) (pa_cons (pv 1) (pa_cons (pv 2) pa_nil))) pa_nil))) (pg_tup rfl (pgs_cons (pg_name (i := 3) nd rfl (Or.inl rfl)) (pgs_cons (pg_name (i := 4) nd rfl (Or.inr rfl)) pgs_nil))))
      (pss_cons (ps_par (i := 5) (j := 6) rfl nd rfl rfl (by decide) rfl rfl (pa_cons (pe_do (do_L_borders T) hr4 (by rfl) (pa_cons (pv 1) (pa_cons (pv 2) (pa_cons (pe_do (do_L_draw T) hr1 (by rfl) (pa_cons (pv 1) (pa_cons pe_int pa_nil))) pa_nil)))) (pa_cons (pe_do (do_L_borders T) hr4 (by rfl) (pa_cons (pv 1) (pa_cons (pv 2) (pa_cons (pe_do (do_L_draw T) hr1 (by rfl) (pa_cons (pv 1) (pa_cons pe_int pa_nil))) pa_nil)))) pa_nil)) rfl)
      (pss_cons (ps_if (pt_cmpR op_gt (pe_do (do_L_draw T) hr1 (by rfl) (pa_cons (pv 1) (pa_cons pe_int pa_nil))) pe_int (nomark _))
        (pss_one (ps_par (i := 5) (j := 6) rfl nd rfl rfl (by decide) rfl rfl (pa_cons (pe_callTy call_tuple_of (by rfl) T.z_tuple (by decide +kernel) (pa_cons (pe_lc (own := [("_law_it", 16)]) (g := gName 16) (tt := tYes) rfl nd (pi_tup (pv 5)) (blkOk_by (N := N_law) (sc := defScope s_law) (by decide +kernel)) (fun _ _ _ _ _ => pg_name (i := 16) nd rfl (Or.inl rfl)) (fun _ _ _ _ _ => pts_nil) (fun _ _ _ _ _ => pe_do (do_L_toward T) hr2 (by rfl) (pa_cons (pv 16) (pa_cons (pv 4) (pa_cons pe_int pa_nil))))) pa_nil))
          (pa_cons (pe_callTy call_tuple_of (by rfl) T.z_tuple (by decide +kernel) (pa_cons (pe_lc (own := [("_law_it", 16)]) (g := gName 16) (tt := tYes) rfl nd (pi_tup (pv 6)) (blkOk_by (N := N_law) (sc := defScope s_law) (by decide +kernel)) (fun _ _ _ _ _ => pg_name (i := 16) nd rfl (Or.inl rfl)) (fun _ _ _ _ _ => pts_nil) (fun _ _ _ _ _ => pe_do (do_L_toward T) hr2 (by rfl) (pa_cons (pv 16) (pa_cons (pv 4) (pa_cons pe_int pa_nil))))) pa_nil)) pa_nil)) rfl)) pss_nil)
      (pss_cons (ps_set (i := 7) nd rfl (Or.inl rfl) (pe_op op_catA (pv 3) (pv 5)))
      (pss_cons (ps_set (i := 8) nd rfl (Or.inl rfl) (pe_do (do_L_corners T) hr2 (by rfl) (pa_cons (pv 7) pa_nil)))
      (pss_cons (ps_set (i := 9) nd rfl (Or.inl rfl) (pe_lst (pa_cons (pe_do (do_L_border T) hr3 (by rfl) (pa_cons (pv 1) (pa_cons (pv 2) pa_nil))) (pa_cons (pe_do (do_L_toward T) hr2 (by rfl) (pa_cons (pe_do (do_L_border T) hr3 (by rfl) (pa_cons (pv 1) (pa_cons (pv 2) pa_nil))) (pa_cons (pv 4) (pa_cons pe_int pa_nil)))) pa_nil))))
      (pss_cons (ps_if (pt_cmpR (op_neD hr.units) (pv 8) (pe_lst pa_nil) (nomark _))
        (pss_cons (ps_asg (pe_tup (pa_cons (pe_do (do_L_pick T) hr2 (by rfl) (pa_cons (pv 1) (pa_cons (pv 8) pa_nil))) (pa_cons (pe_lc (own := [("_law_at", 10)]) (g := gName 10) (tt := tYes) rfl nd (pi_range1 (by rfl) T.z_range (pa_cons (pe_op op_sub (pv 2) pe_int) pa_nil)) (blkOk_by (N := N_law) (sc := defScope s_law) (by decide +kernel)) (fun _ _ _ _ _ => pg_name (i := 10) nd rfl (Or.inl rfl)) (fun _ _ _ _ _ => pts_nil)
            (fun _ _ _ _ _ => pe_do (do_L_item T) hr2 (by rfl) (pa_cons (pv 1) (pa_cons pe_int pa_nil)))) pa_nil))) (pg_tup rfl (pgs_cons (pg_name (i := 11) nd rfl (Or.inr rfl)) (pgs_cons (pg_name (i := 12) nd rfl (Or.inl rfl)) pgs_nil))))
        (pss_cons (ps_set (i := 13) nd rfl (Or.inl rfl) (pe_op op_catA (pe_callTy call_tuple_of (by rfl) T.z_tuple (by decide +kernel) (pa_cons (pe_lc (own := [("_law_x", 17)]) (g := gName 17) (tt := tYes) rfl nd (pi_list (pv 12)) (blkOk_by (N := N_law) (sc := defScope s_law) (by decide +kernel)) (fun _ _ _ _ _ => pg_name (i := 17) nd rfl (Or.inl rfl)) (fun _ _ _ _ _ => pts_nil) (fun _ _ _ _ _ => pe_op op_mulW (pv 17) (pe_ix (r := rIxT K) ix_tup (pv 11) (pe_un un_neg pe_int) (fun _ _ => rfl)))) pa_nil))
            (pe_tup (pa_cons (pe_un un_neg (pe_callB (cr_sum rfl) (by rfl) T.z_sum (by decide +kernel) (pa_cons (pe_lc (own := [("_law_x", 17), ("_law_y", 18)]) (g := gTup K 2 (gCons (gName 17) (gCons (gName 18) gNil))) (tt := tYes) rfl nd (pi_zipM (by rfl) T.z_zip (pa_cons (pv 12) (pa_cons (pv 11) pa_nil)))
              (blkOk_by (N := N_law) (sc := defScope s_law) (by decide +kernel)) (fun _ _ _ _ _ => pg_tup rfl (pgs_cons (pg_name (i := 17) nd rfl (Or.inl rfl) (by exact Or.inr rfl)) (pgs_cons (pg_name (i := 18) nd rfl (Or.inl rfl) (by exact Or.inr rfl)) pgs_nil))) (fun _ _ _ _ _ => pts_nil) (fun _ _ _ _ _ => pe_op op_mulW (pv 17) (pv 18))) pa_nil))) pa_nil))))
        (pss_one (ps_set (i := 9) nd rfl (Or.inl rfl) (pe_op op_cat (pv 9) (pe_lc (own := [("_law_it", 16)]) (g := gName 16) rfl nd (pi_tup (pe_tup (pa_cons (pv 13) (pa_cons (pe_op op_catA (pe_slice sl_tupA (pv 13) po_none (po_some (pe_un un_neg pe_int))) (pe_tup (pa_cons (pe_op op_sub (pe_ix ix_tup (pv 13) (pe_un un_neg pe_int) (fun _ _ => rfl)) pe_int) pa_nil))) (pa_cons (pe_op op_catA (pe_slice sl_tupA (pv 13) po_none (po_some (pe_un un_neg pe_int))) (pe_tup (pa_cons (pe_op op_add (pe_ix ix_tup (pv 13) (pe_un un_neg pe_int) (fun _ _ => rfl)) pe_int) pa_nil))) pa_nil)))))
            (blkOk_by (N := N_law) (sc := defScope s_law) (by decide +kernel)) (fun _ _ _ _ _ => pg_name (i := 16) nd rfl (Or.inl rfl)) (fun _ _ _ _ _ => pts_one (pt_val (pe_do (do_L_fits T) hr1 (by rfl) (pa_cons (pe_lst (pa_cons (pv 16) pa_nil)) pa_nil)))) (fun _ _ _ _ _ => pv 16))))))) pss_nil)
      (pss_cons (ps_for PassesOwn.never rfl (pi_enum (by rfl) T.z_enumerate (pa_cons (pv 9) pa_nil)) (pg_tup rfl (pgs_cons (pg_name (i := 10) nd rfl (Or.inl rfl)) (pgs_cons (pg_name (i := 14) nd rfl (Or.inl rfl)) pgs_nil)))
        (pss_cons (ps_set (i := 15) nd rfl (Or.inl rfl) (pe_not (pe_do (do_L_broken T) hr3 (by rfl) (pa_cons (pv 7) (pa_cons (pv 6) (pa_cons (pv 14) pa_nil))))))
        (pss_cons (ps_if (pt_cmpR op_ne (pe_callB call_repr_bool (by rfl) T.z_repr (by decide +kernel) (pa_cons (pe_do (do_does_follow T) hr (by rfl) (pa_cons (pv 2) (pa_cons (pv 7) (pa_cons (pv 6) (pa_cons (pv 14) pa_nil))))) pa_nil)) (pe_callB call_repr_bool (by rfl) T.z_repr (by decide +kernel) (pa_cons (pv 15) pa_nil)) (nomark _)) (pss_one (ps_ret pe_bl)) pss_nil)
        (pss_cons (ps_if (PW.pt (pw_and (pt_cmpR op_eq (pv 10) pe_int (nomark _)) (pw_and1 (pt_cmpR op_ne (pe_ix ix_tup (pe_do (do_judge_follows T) hr (by rfl) (pa_cons (pv 2) (pa_cons (pv 7) (pa_cons (pv 6) (pa_cons (pv 14) pa_nil))))) pe_int (fun _ _ => rfl)) (pe_ifExp (pt_val (pv 15)) pe_str pe_str) (nomark _))))) (pss_one (ps_ret pe_bl)) pss_nil)
        (pss_one (ps_if (PW.pt (pw_and (pt_val (pv 15)) (pw_and1 (pt_not (pt_val (pe_do (do_L_kept T) hr4 (by rfl) (pa_cons (pv 2) (pa_cons (pv 7) (pa_cons (pv 6) (pa_cons (pv 14) pa_nil)))))))))) (pss_one (ps_ret pe_bl)) pss_nil))))))
      (pss_one (ps_ret pe_bl))))))))))), ?_⟩
    -- the deck, the width
    refine st_asg (R := R0) (P := fun v H => ∃ d c, v = .ref d ∧ DeckAt d c H) (gv_call (pre := fun (ns : List Int) vs H => ∃ a, vs = [.ref a] ∧ SqL K H a (ns.map V.int)) (post := fun _ v H => ∃ d c, v = .ref d ∧ DeckAt d c H) ns (ga_1 (P := fun v H => ∃ a, v = .ref a ∧ SqL K H a (ns.map V.int)) (gv_var rfl fun H1 e _ => ⟨a, rfl, ex_lst (r0_ex e) ha⟩)) (fun vs H1 _ _ ⟨v, h1, a, h2, h3⟩ => ⟨a, by rw [h1, h2], h3⟩) fun v H1 _ _ p => p) trivial fun v1 H1 e1 _ hv1 => ?_
    obtain ⟨d, c, rfl, o1⟩ := hv1
    refine st_asg (R := RD d c) (P := fun v _ => v ∈ [V.int 3, .int 2, .int 3]) (gv_pick (K := K) (d := d) (c := c) deckR_0 (.inr rfl) rfl (gv_lstK (ga_k gv_c (ga_k gv_c (ga_k gv_c ga_n))) (by simp)) (by simp) (by simp)) o1 fun v2 H2 e2 o2 hv2 => ?_
    obtain ⟨W, rfl, hW⟩ : ∃ W : Nat, v2 = .int (W : Int) ∧ (W = 2 ∨ W = 3) := by
      simp at hv2
      rcases hv2 with rfl | rfl | rfl
      · exact ⟨3, rfl, .inr rfl⟩
      · exact ⟨2, rfl, .inl rfl⟩
      · exact ⟨3, rfl, .inr rfl⟩
    have hW1 : 2 ≤ W ∧ W ≤ 3 := by omega
    -- the box, the point
    show tSeq _ _ _ (LS a d W none none none none none none none none none none none none none) H2
    refine st_asgS (R := RD d c) (P := fun v H => ∃ T x y, v = .ref T ∧ SqT K H T [x, y] ∧ (∃ k : Int, 1 ≤ k ∧ k ≤ 3 ∧ RowsT K (box W k) x H) ∧ DrawnT K W 6 y H) ?_ o2 fun v3 H3 e3 o3 hv3 => ?_
    · refine gv_tup (ga_2 (Pa := fun v H => ∃ k : Int, 1 ≤ k ∧ k ≤ 3 ∧ RowsT K (box W k) v H) (Pb := DrawnT K W 6) ?_ ?_ ?_) (fun vs H1 ⟨v, w, e, _⟩ => by rw [e]; simp) fun vs H1 p e o ⟨v, w, h1, ⟨k, k1, k2, k3⟩, h3⟩ np => ⟨p, v, w, rfl, by rw [h1]; exact st_of upd_same, ⟨k, k1, k2, mo_rowsT (R := RD d c) v H1 _ (Rel.ex (Ex.new np)) o k3⟩, mo_drawnT (R := RD d c) w H1 _ (Rel.ex (Ex.new np)) o h3⟩
      · exact gv_callX (pre := fun (g : Nat × Int) vs H => vs = [.int (g.1 : Int), .int g.2] ∧ (g.1 = 2 ∨ g.1 = 3)) (post := fun g => RowsT K (box g.1 g.2)) (ga_2 (Pa := Is (.int (W : Int))) (Pb := Bt 1 3) (gv_varI rfl) mo_is (gv_op (gv_c (v := .int 1)) (draw_1 (d := d) (c := c) (many := 3) deckR_0 rfl gv_c (by decide) (by decide)) mo_is fun x y H1 e o h1 ⟨n, h2, h3, h4⟩ Q k => ⟨1, n, h1, h2, k _ H1 (Rel.refl _) o ⟨1 + n, rfl, by omega, by omega⟩⟩)) fun vs H1 _ _ ⟨v, w, h1, h2, n, h3, h4, h5⟩ => ⟨(W, n), ⟨by rw [h1, h2, h3], hW⟩, fun v H2 _ _ p => ⟨n, h4, h5, p⟩⟩
      · exact fun v H H' e o ⟨k, k1, k2, k3⟩ => ⟨k, k1, k2, mo_rowsT v H H' e o k3⟩
      · exact gv_draw (pre := fun (W : Nat) ws _ => ws = [.int (W : Int)] ∧ (W = 2 ∨ W = 3)) (post := fun W => DrawnT K W 6) (d := d) (c := c) W deckR_0 (ga_k (gv_varI rfl) (ga_k (gv_varI rfl) ga_n)) (fun vs H1 _ _ h => ⟨[.int (W : Int)], h, rfl, hW⟩) fun v H1 _ _ p => p
    obtain ⟨Tp, bx, py, rfl, hT, ⟨k, k1, k2, hbx⟩, p, hp1, hp2, hpy⟩ := hv3
    refine g_two hT ?_
    obtain ⟨lbx, bxo⟩ := box_ok hW k1 k2
    have smp : Sm p := hp2.sm (by decide)
    -- more walls, stricts
    show tSeq _ _ _ (LS a d W (some bx) (some py) none none none none none none none none none none none) H3
    refine st_parX (R := RD d c) (A := fun vs H => ∃ v w, vs = [v, w] ∧ MoreOk K W 5 999999 v H ∧ MoreOk K W 2 999999 w H) (ga_2 (gv_borders (n := 5) (many := 6) (d := d) (c := c) deckR_0 rfl hW (gv_varI rfl) gv_c (by decide) (by decide) (by decide)) mo_moreOk (gv_borders (n := 2) (many := 3) (d := d) (c := c) deckR_0 rfl hW (gv_varI rfl) gv_c (by decide) (by decide) (by decide))) o3 fun vs H4 e4 o4 ⟨mo, st, hvs, hmo, hst⟩ => ⟨mo, st, hvs, ?_⟩
    have hbx4 := mo_rowsT (R := RD d c) bx H3 H4 (Rel.rq e4) o3 hbx
    have hpy4 := mo_row (R := RD d c) py H3 H4 (Rel.rq e4) o3 hpy
    show tSeq _ _ _ (LS a d W (some bx) (some py) (some mo) (some st) none none none none none none none none none) H4
    refine st_whenJ (R := RD d c) (J := fun σ' H' => ∃ mo st, σ' = LS a d W (some bx) (some py) (some mo) (some st) none none none none none none none none none ∧ (RD d c).r H4 H' ∧ (RD d c).ok H' ∧ MoreOk K W 5 1000000 mo H' ∧ MoreOk K W 2 1000000 st H') (B := fun _ => True) (gt_any (gv_op (draw_1 (d := d) (c := c) (many := 3) deckR_0 rfl gv_c (by decide) (by decide)) (gv_c (v := .int 0)) (fun _ _ _ _ _ h => h) fun x y H1 e o ⟨n, h1, _⟩ h2 Q k => ⟨n, 0, h1, h2, k _ H1 (Rel.refl _) o ⟨_, rfl⟩⟩)) o4 ?_ (fun H5 e5 o5 _ fin => ?_) (fun H5 e5 o5 _ => ⟨mo, st, rfl, e5, o5, (mo_moreOk mo H4 H5 (Rel.rq e5) o4 hmo).wide (by decide), (mo_moreOk st H4 H5 (Rel.rq e5) o4 hst).wide (by decide)⟩)
    rotate_left
    · have hmo5 := mo_moreOk (R := RD d c) mo H4 H5 (Rel.rq e5) o4 hmo
      have hst5 := mo_moreOk (R := RD d c) st H4 H5 (Rel.rq e5) o4 hst
      have hpy5 := mo_row (R := RD d c) py H4 H5 (Rel.rq e5) o4 hpy4
      have kn1 := hmo5
      have kn2 := hst5
      obtain ⟨rs1, a1, a2, a3⟩ := kn1
      obtain ⟨rs2, b1, b2, b3⟩ := kn2
      refine st_parX1 (R := RD d c) (A := fun vs H => ∃ v w, vs = [v, w] ∧ MoreOk K W 5 1000000 v H ∧ MoreOk K W 2 1000000 w H) (ga_2 (gv_towards (n := 5) (W := W) (gv_slot mo_moreOk o5 rfl hmo5) o5 (by decide) hW hp1 smp hpy5 (fun x => rfl) (fun x => rfl) (fun x => rfl) ⟨rs1, a1, a2, gv_slot mo_rowsT o5 rfl a3⟩) mo_moreOk (gv_towards (n := 2) (W := W) (gv_slot mo_moreOk o5 rfl hst5) o5 (by decide) hW hp1 smp hpy5 (fun x => rfl) (fun x => rfl) (fun x => rfl) ⟨rs2, b1, b2, gv_slot mo_rowsT o5 rfl b3⟩)) o5 fun vs H6 e6 o6 ⟨mo', st', hvs', h1, h2⟩ => ⟨mo', st', hvs', fin _ _ ⟨mo', st', rfl, Rel.trans e5 e6, o6, h1, h2⟩⟩
    rintro σ' H6 ⟨mo, st, rfl, e6, o6, ⟨ms, m1, m2, m3⟩, ss, s1, s2, s3⟩
    have hbx6 := mo_rowsT (R := RD d c) bx H4 H6 (Rel.rq e6) o4 hbx4
    have hpy6 := mo_row (R := RD d c) py H4 H6 (Rel.rq e6) o4 hpy4
    -- the walls
    refine st_asg (R := RD d c) (P := RowsT K (box W k ++ ms)) (gv_catRows (gv_slot mo_rowsT o6 rfl hbx6) (gv_slot mo_rowsT o6 rfl m3) (by omega)) o6 fun v7 H7 e7 o7 hv7 => ?_
    have hpy7 := mo_row (R := RD d c) py H6 H7 (Rel.rq e7) o6 hpy6
    have hst7 := mo_rowsT (R := RD d c) st H6 H7 (Rel.rq e7) o6 s3
    have wsb : ∀ r ∈ box W k, r ∈ box W k ++ ms := fun r hr => List.mem_append_left _ hr
    have wso : ∀ r ∈ box W k ++ ms, r.length = W ∧ Lim 1000000 r := fun r hr => by
      rcases List.mem_append.mp hr with h | h
      · exact ⟨(bxo r h).1, fun x hx => Nat.le_trans ((bxo r h).2 x hx) (by decide)⟩
      · exact m2 r h
    have wsl : (box W k ++ ms).length ≤ 9 := by rw [List.length_append]; omega
    generalize box W k ++ ms = ws at *
    have fineW : Fine W ws := ⟨hW, fun r hr => (wso r hr).1, fun r hr x hx => Nat.le_trans ((wso r hr).2 x hx) (by decide), by omega⟩
    show tSeq _ _ _ (LS a d W (some bx) (some py) (some mo) (some st) (some v7) none none none none none none none none) H7
    refine st_asg (R := RD d c) (P := RowsN (RD d c) K (corners ws)) (gv_call (pre := fun (g : (Addr → Prop) × Nat × List (List Int)) vs H => ∃ v, vs = [v] ∧ RowsT K g.2.2 v H ∧ Fine g.2.1 g.2.2 ∧ ∀ a, g.1 a → H a ≠ none) (post := fun g v H => RowsN R0 K (corners g.2.2) v H ∧ ∀ a, v = .ref a → ¬ g.1 a) (fun a => a = d ∨ a = c, W, ws) (ga_1 (gv_slot mo_rowsT o7 rfl hv7)) (fun vs H1 _ o ⟨v, h1, h2⟩ => ⟨v, h1, h2, fineW, fun b hb => by
        obtain ⟨cells, mm, kk, z1, z2, z3⟩ := o
        rcases hb with rfl | rfl
        · rw [z1]; exact fun z => nomatch z
        · rw [z2]; exact fun z => nomatch z⟩) fun v H1 _ _ ⟨⟨a', vs, z1, _, z2, z3⟩, fr⟩ => ⟨a', vs, z1, fr a' z1, z2, z3⟩) o7 fun v8 H8 e8 o8 hv8 => ?_
    have hpy8 := mo_row (R := RD d c) py H7 H8 (Rel.rq e8) o7 hpy7
    have hst8 := mo_rowsT (R := RD d c) st H7 H8 (Rel.rq e8) o7 hst7
    have hws8 := mo_rowsT (R := RD d c) v7 H7 H8 (Rel.rq e8) o7 hv7
    -- the walls that are asked about
    show tSeq _ _ _ (LS a d W (some bx) (some py) (some mo) (some st) (some v7) (some v8) none none none none none none none) H8
    refine st_asg (R := RD d c) (P := SomeN (RD d c) K W 2) ?_ o8 fun v9 H9 e9 o9 hv9 => ?_
    · refine gv_lst (ga_2 (Pa := DrawnT K W 999999) (Pb := fun v H => ∃ r, r.length = W ∧ Lim 1000000 r ∧ Row K r v H) (gv_border (d := d) (c := c) deckR_0 rfl (gv_varI rfl) hW) mo_drawnT ?_) (fun vs H1 ⟨v, w, e, _⟩ => by rw [e]; simp) fun vs H1 p e o ⟨v, w, h1, ⟨r1, g1, g2, g3⟩, r2, g4, g5, g6⟩ np => ⟨[r1, r2], by simp, fun r hr => ?_, p, [v, w], rfl, (RD d c).notW o np, by rw [h1]; exact upd_same, al_append (al_one (mo_row (R := RD d c) v H1 _ (Rel.ex (Ex.new np)) o g3)) (al_one (mo_row (R := RD d c) w H1 _ (Rel.ex (Ex.new np)) o g6))⟩
      · refine gv_callX (pre := fun (g : List Int × List Int × Int) vs H => ∃ v u, vs = [v, u, .int g.2.2] ∧ Row K g.1 v H ∧ Row K g.2.1 u H ∧ g.1.length = g.2.1.length ∧ 1 ≤ g.1.length ∧ g.1.length ≤ 1000 ∧ Sm g.1 ∧ Sm g.2.1) (post := fun g => Row K (toward g.1 g.2.1 g.2.2)) (ga_cons (gv_border (d := d) (c := c) deckR_0 rfl (gv_varI rfl) hW) mo_drawnT (ga_2 (gv_slot mo_row o8 rfl hpy8) mo_row (gv_c (v := .int 0)))) fun vs H1 _ _ h => ?_
        obtain ⟨v1, r1, rfl, ⟨r, g1, g2, g3⟩, v2, v3, rfl, z2, rfl⟩ := h
        have hne : r ≠ [] := fun e => by rw [e] at g1; simp at g1; omega
        obtain ⟨t1, t2⟩ := toward_ok (p := p) (l := 0) hne g2
        exact ⟨(r, p, 0), ⟨v1, v2, rfl, g3, z2, by dsimp only; omega, by dsimp only; omega, by dsimp only; omega, g2.sm (by decide), smp⟩, fun v H2 _ _ p' => ⟨_, by rw [← g1]; exact t1, t2, p'⟩⟩
      · simp at hr
        rcases hr with rfl | rfl
        · exact ⟨g1, fun x hx => Nat.le_trans (g2 x hx) (by decide)⟩
        · exact ⟨g4, g5⟩
    have hst9 := mo_rowsT (R := RD d c) st H8 H9 (Rel.rq e9) o8 hst8
    have hws9 := mo_rowsT (R := RD d c) v7 H8 H9 (Rel.rq e9) o8 hws8
    have hv89 := mo_rowsN (R := RD d c) v8 H8 H9 (Rel.rq e9) o8 hv8
    show tSeq _ _ _ (LS a d W (some bx) (some py) (some mo) (some st) (some v7) (some v8) (some v9) none none none none none none) H9
    refine st_whenJ (R := RD d c) (J := fun σ' H' => ∃ so s11 s12 s13, σ' = LS a d W (some bx) (some py) (some mo) (some st) (some v7) (some v8) (some so) none s11 s12 s13 none none ∧ (RD d c).r H9 H' ∧ (RD d c).ok H' ∧ SomeN (RD d c) K W 5 so H') (B := (· = !(corners ws).isEmpty)) (gt_test (gv_neNil (Gv.imp (gv_slot mo_rowsN o9 rfl hv89) fun v H' _ p => nil_rows p.l))) o9 ?_ (fun H10 e10 o10 hb fin => ?_) (fun H10 e10 o10 _ => ⟨v9, none, none, none, rfl, e10, o10, by
      obtain ⟨rs, z1, z2, z3⟩ := mo_someN (R := RD d c) v9 H9 H10 (Rel.rq e10) o9 hv9
      exact ⟨rs, by omega, z2, z3⟩⟩)
    rotate_left
    · have hne : corners ws ≠ [] := fun e => by rw [e] at hb; simp at hb
      have hv8' := mo_rowsN (R := RD d c) v8 H9 H10 (Rel.rq e10) o9 hv89
      have hv9' := mo_someN (R := RD d c) v9 H9 H10 (Rel.rq e10) o9 hv9
      obtain ⟨ca, cvs, rfl, nca, hca, cal⟩ := hv8'
      have hcl : (corners ws).length ≤ 144 := corners_len hW fineW.len (by omega)
      have cfine := corners_fine fineW
      -- a corner, a slope
      refine st_asgS (R := RD d c) (P := fun v H => ∃ T x y, v = .ref T ∧ SqT K H T [x, y] ∧ (∃ qc : List Int, qc.length = W ∧ Lim 200000000000000 qc ∧ Row K qc x H) ∧ DrawnL (RD d c) (W - 1) 3 y H) ?_ o10 fun v11 H11 e11 o11 hv11 => ?_
      · refine gv_tup (ga_2 (Pa := fun v H => ∃ qc : List Int, qc.length = W ∧ Lim 200000000000000 qc ∧ Row K qc v H) (Pb := DrawnL (RD d c) (W - 1) 3) (Gv.impr (gv_pick (K := K) (d := d) (c := c) (ys := cvs) deckR_0 (.inr rfl) rfl (gv_slot mo_new o10 rfl ⟨ca, rfl, nca, hca⟩) (fun e => by have := cal.1; rw [e] at this; exact hne (List.length_eq_zero_iff.mp this.symm)) (by rw [cal.1]; omega)) fun v H' r _ hv => ?_) ?_ ?_) (fun vs H1 ⟨v, w, e, _⟩ => by rw [e]; simp) fun vs H1 p e o ⟨v, w, h1, ⟨qc, q1, q2, q3⟩, b', xs, z1, z2, z3, z4⟩ np => ⟨p, v, w, rfl, by rw [h1]; exact st_of upd_same, ⟨qc, q1, q2, mo_row (R := RD d c) v H1 _ (Rel.ex (Ex.new np)) o q3⟩, b', xs, z1, z2, Ex.new np _ _ z3, z4⟩
        · obtain ⟨i, hi, ei⟩ := List.mem_iff_getElem.mp hv
          have hi2 : i < (corners ws).length := by rw [← cal.1]; exact hi
          have hrow := cal.2 i cvs[i] _ (List.getElem?_eq_getElem hi) (List.getElem?_eq_getElem hi2)
          obtain ⟨f1, f2⟩ := cfine _ (List.getElem_mem hi2)
          rw [ei] at hrow
          exact ⟨_, f1, f2, mo_row (R := RD d c) v H10 H' (Rel.rq r) o10 hrow⟩
        · exact fun v H H' e o ⟨qc, q1, q2, q3⟩ => ⟨qc, q1, q2, mo_row v H H' e o q3⟩
        · exact gv_items (d := d) (c := c) (n := W - 1) (most := 3) (fun A H1 t => deckR_wth t) o10 (by omega) (gv_is (gv_sub (gv_varI rfl) gv_c) (congrArg V.int (by omega))) (fun x => rfl) (fun x => rfl) (fun A x H1 => gv_c) (by decide) (by decide)
      obtain ⟨T2, cx, sx, rfl, hT2, ⟨qc, q1, q2, q3⟩, sa, sxs, rfl, nsa, hsa, sr, rfl, lsr, bsr⟩ := hv11
      refine g_two hT2 ?_
      have hv9'' := mo_someN (R := RD d c) v9 H10 H11 (Rel.rq e11) o10 hv9'
      have qne : qc ≠ [] := fun e => by rw [e] at q1; simp at q1; omega
      show tSeq _ _ _ (LS a d W (some bx) (some py) (some mo) (some st) (some v7) (some (.ref ca)) (some v9) none (some cx) (some (.ref sa)) none none none) H11
      have smq : ∀ x ∈ qc, x.natAbs < lim := fun x hx => lim_of (Nat.lt_of_le_of_lt (q2 x hx) (by decide))
      have sms : ∀ x ∈ sr, x.natAbs < lim := fun x hx => lim_small (by have := bsr x hx; omega)
      -- the wall through it
      refine st_asg (R := RD d c) (P := Row K (sr.map (fun x => x * last qc) ++ [-(List.zipWith (· * ·) sr qc).sum])) ?_ o11 fun v13 H12 e12 o12 hv13 => ?_
      · refine gv_catR (gv_tuple ?_) (gv_tup1 (gv_negI (gv_sum ?_))) (by simp; omega)
        · refine Gv.imp (gv_new (f := fun _ => true) (n := (sr.map V.int).length) (h := fun j => .int (sr.getD j 0 * last qc)) (gv_lcN (f := fun _ => true) (Pe := fun _ j => Is (.int (sr.getD j 0 * last qc))) (gi_lst (xs := sr.map V.int) (gv_var rfl fun H3 e _ => ⟨sa, rfl, nsa, sq_of (e _ _ hsa nsa)⟩)) (by rw [List.length_map]; omega) o11 (fun _ _ => mo_is) (fun x => rfl) fun D j x H3 hx t o => ⟨gt_yes, fun _ => ?_⟩)) fun v H' _ p => ?_
          · rw [List.getElem?_map] at hx
            cases qx : sr[j]? with
            | none => rw [qx] at hx; cases hx
            | some z =>
              rw [qx] at hx
              have e1 : V.int z = x := Option.some.inj hx
              subst e1
              have e2 : sr.getD j 0 = z := by rw [List.getD_eq_getElem?_getD, qx]; rfl
              rw [e2]
              exact gv_mulW (gv_varI rfl) (gv_lastR (gv_slot mo_row o rfl (row_thru t q3)) qne) (sms z (List.mem_of_getElem? qx)) (smq _ (last_mem qne))
          · rw [idx_all (fun _ _ => rfl), List.length_map] at p
            rw [List.map_map]
            have e4 := map_range_get (fun x => V.int (x * last qc)) sr
            rw [show (List.map (V.int ∘ fun x => x * last qc) sr) = sr.map (fun x => V.int (x * last qc)) from rfl, ← e4]
            exact p
        · refine Gv.imp (gv_new (f := fun _ => true) (h := fun i => .int (sr.getD i 0 * qc.getD i 0)) (gv_lcP (f := fun _ => true) (Pe := fun _ i => Is (.int (sr.getD i 0 * qc.getD i 0))) (gi_zipM (xs := sr.map V.int) (ys := qc.map V.int) (gv_var rfl fun H3 e _ => ⟨sa, rfl, nsa, sq_of (e _ _ hsa nsa)⟩) (gv_slot mo_row o11 rfl q3)) (by simp; omega) o11 (fun _ _ => mo_is) (fun x y => rfl) fun D i x y H1 hi hx hy t o => ⟨gt_yes, fun _ => ?_⟩)) fun v H' _ p => ?_
          · rw [List.length_map, List.length_map] at hi
            have a1 : i < sr.length := by omega
            have a2 : i < qc.length := by omega
            rw [List.getElem?_map, List.getElem?_eq_getElem a1] at hx
            rw [List.getElem?_map, List.getElem?_eq_getElem a2] at hy
            have e1 : V.int sr[i] = x := Option.some.inj hx
            have e2 : V.int qc[i] = y := Option.some.inj hy
            subst e1 e2
            have f1 : sr.getD i 0 = sr[i] := by simp [List.getD_eq_getElem?_getD, a1]
            have f2 : qc.getD i 0 = qc[i] := by simp [List.getD_eq_getElem?_getD, a2]
            rw [f1, f2]
            exact gv_mulW (gv_varI rfl) (gv_varI rfl) (sms _ (List.getElem_mem a1)) (smq _ (List.getElem_mem a2))
          · rw [idx_all (fun _ _ => rfl), List.length_map, List.length_map] at p
            have e : (List.range (min sr.length qc.length)).map (fun i => V.int (sr.getD i 0 * qc.getD i 0)) = (List.zipWith (· * ·) sr qc).map V.int := by
              refine List.ext_getElem (by simp) fun j h1 h2 => ?_
              have a : j < min sr.length qc.length := by simpa using h1
              have a1 : j < sr.length := by omega
              have a2 : j < qc.length := by omega
              rw [List.getElem_map, List.getElem_map, List.getElem_range, List.getElem_zipWith, List.getD_eq_getElem?_getD, List.getD_eq_getElem?_getD, List.getElem?_eq_getElem a1, List.getElem?_eq_getElem a2]
              rfl
            rw [← e]
            exact p
      have tl : (sr.map (fun x => x * last qc) ++ [-(List.zipWith (· * ·) sr qc).sum]).length = W := by simp; omega
      generalize sr.map (fun x => x * last qc) ++ [-(List.zipWith (· * ·) sr qc).sum] = tch at *
      have tne : tch ≠ [] := fun e => by rw [e] at tl; simp at tl; omega
      have hv93 := mo_someN (R := RD d c) v9 H11 H12 (Rel.rq e12) o11 hv9''
      show tAsg _ _ _ (LS a d W (some bx) (some py) (some mo) (some st) (some v7) (some (.ref ca)) (some v9) none (some cx) (some (.ref sa)) (some v13) none none) H12
      refine st_asg1 (R := RD d c) (P := SomeN (RD d c) K W 5) (gv_catSome (n := 2) (m := 3) (gv_slot mo_someN o12 rfl hv93) ?_ (by decide)) o12 fun v14 H13 e13 o13 hv14 => fin _ _ ⟨v14, _, _, _, rfl, Rel.trans e10 (Rel.trans e11 (Rel.trans e12 e13)), o13, hv14⟩
      have g13 : ∀ {R : Rel} {H : Hp}, R.ok H → Row K tch v13 H → Gv R (tVar 13) (LS a d W (some bx) (some py) (some mo) (some st) (some v7) (some (.ref ca)) (some v9) none (some cx) (some (.ref sa)) (some v13) none none) H (Row K tch) := fun o h => gv_slot mo_row o rfl h
      have len3 : ∀ r ∈ [tch, tch.dropLast ++ [last tch - 1], tch.dropLast ++ [last tch + 1]], r.length = W := fun r hr => by
        simp at hr
        rcases hr with rfl | rfl | rfl
        · exact tl
        · simp; omega
        · simp; omega
      refine Gv.imp (gv_lcR (rs := [tch, tch.dropLast ++ [last tch - 1], tch.dropLast ++ [last tch + 1]]) (f := fun i => ([tch, tch.dropLast ++ [last tch - 1], tch.dropLast ++ [last tch + 1]].getD i []).all fun x => decide (x.natAbs ≤ 1000000)) (Pe := fun _ i => Row K ([tch, tch.dropLast ++ [last tch - 1], tch.dropLast ++ [last tch + 1]].getD i [])) ?_ (by simp) o12 (fun _ _ => mo_row) (fun x => rfl) fun D i x H1 hi hx t o => ?_) fun v H' o ⟨D, zs, h1, h2, h3, h4⟩ => ?_
      · refine gv_tup (ga_cons (g13 o12 hv13) mo_row (ga_2 (gv_catR (gv_init (g13 o12 hv13) tne) (gv_tup1 (gv_sub (gv_lastR (g13 o12 hv13) tne) gv_c)) (by simp; omega)) mo_row (gv_catR (gv_init (g13 o12 hv13) tne) (gv_tup1 (gv_add (gv_lastR (g13 o12 hv13) tne) gv_c)) (by simp; omega)))) (fun vs H1 ⟨v1, r1, e1, _, v2, v3, e2, _⟩ => by rw [e1, e2]; simp) fun vs H1 p e o ⟨v1, r1, e1, z1, v2, v3, e2, z2, z3⟩ np => ⟨p, [v1, v2, v3], rfl, by rw [e1, e2]; exact st_of upd_same, ?_⟩
        have zz := al_append (al_one z1) (al_append (al_one z2) (al_one z3))
        exact al_row (R := RD d c) (Rel.ex (Ex.new np)) o zz
      · have er : [tch, tch.dropLast ++ [last tch - 1], tch.dropLast ++ [last tch + 1]].getD i [] ∈ [tch, tch.dropLast ++ [last tch - 1], tch.dropLast ++ [last tch + 1]] := by
          rw [List.getD_eq_getElem?_getD, List.getElem?_eq_getElem hi]
          exact List.getElem_mem hi
        have lr := len3 _ er
        generalize [tch, tch.dropLast ++ [last tch - 1], tch.dropLast ++ [last tch + 1]].getD i [] = r at *
        refine ⟨gt_B (gv_call (pre := fun (r : List Int) vs H => ∃ v, vs = [v] ∧ RowsL R0 K [r] v H ∧ r.length ≤ 1000) (post := fun r => Is (.bl (r.all fun x => decide (x.natAbs ≤ 1000000)))) r (ga_1 (P := fun v H => ∃ b, v = .ref b ∧ H b = some (.lst [x]) ∧ Row K r x H) (gv_lst (ga_1 (P := fun v H => v = x ∧ Row K r v H) (gv_var rfl fun H2 e _ => ⟨rfl, mo_row x H1 H2 (Rel.rq e) o hx⟩)) (fun vs H1 ⟨v, e, _⟩ => by rw [e]; simp) fun vs H2 p e o2 ⟨v, e1, e2, e3⟩ np => ⟨p, rfl, by rw [e1, e2]; exact upd_same, mo_row x H2 _ (Rel.ex (Ex.new np)) o2 (by rw [← e2]; exact e3)⟩)) (fun vs H2 _ _ ⟨v, z1, b, z2, z3, z4⟩ => ⟨v, z1, ⟨b, [x], z2, id, sq_of z3, al_one z4⟩, by omega⟩) fun v H1 _ _ p => p), fun _ => gv_slot mo_row o rfl hx⟩
      · refine ⟨(idx (fun i => ([tch, tch.dropLast ++ [last tch - 1], tch.dropLast ++ [last tch + 1]].getD i []).all fun x => decide (x.natAbs ≤ 1000000)) 3).map fun i => [tch, tch.dropLast ++ [last tch - 1], tch.dropLast ++ [last tch + 1]].getD i [], by rw [List.length_map]; exact idx_len _ 3, fun r hr => ?_, D, zs, h1, h2, h3, ?_⟩
        · obtain ⟨i, hi, rfl⟩ := List.mem_map.mp hr
          obtain ⟨z1, z2⟩ := List.mem_filter.mp hi
          have hi3 : i < [tch, tch.dropLast ++ [last tch - 1], tch.dropLast ++ [last tch + 1]].length := List.mem_range.mp z1
          refine ⟨len3 _ ?_, fun x hx => of_decide_eq_true (List.all_eq_true.mp z2 x hx)⟩
          rw [List.getD_eq_getElem?_getD, List.getElem?_eq_getElem hi3]
          exact List.getElem_mem hi3
        · refine ⟨by rw [h4.1, List.length_map]; rfl, fun k y r p1 p2 => ?_⟩
          rw [List.getElem?_map] at p2
          obtain ⟨j, p3, p4⟩ := Option.map_eq_some_iff.mp p2
          rw [← p4]
          exact h4.2 k j y p3 p1
    rintro σ' H10 ⟨so, s11, s12, s13, rfl, e10, o10, srs, sl, sok, sA, svs, rfl, nsA, hsA, sal⟩
    have hst10 := mo_rowsT (R := RD d c) st H9 H10 (Rel.rq e10) o9 hst9
    have hws10 := mo_rowsT (R := RD d c) v7 H9 H10 (Rel.rq e10) o9 hws9
    have lsv : svs.length = srs.length := sal.1
    show tSeq (tFor _ _ _) _ _ (LS a d W (some bx) (some py) (some mo) (some st) (some v7) (some v8) (some (.ref sA)) none s11 s12 s13 none none) H10
    refine st_forP (R := R0) (n := svs.length) (gp_enum (xs := svs) (fun H2 e o Q k => ⟨_, rfl, k _ H2 (Rel.refl _) o ⟨sA, rfl, id, sq_of (r0_ex e _ _ hsA)⟩⟩)) trivial (fun i σ' H' => ∃ s10 s14 s15, σ' = LS a d W (some bx) (some py) (some mo) (some st) (some v7) (some v8) (some (.ref sA)) s10 s11 s12 s13 s14 s15) (fun H2 e2 => ⟨none, none, none, rfl⟩) (fun i x σ' H' H'' hi r' _ hp yy => ?_) (fun σ' H' r' _ hp => ?_)
    · obtain ⟨s10, s14, s15, rfl⟩ := hp
      obtain ⟨Tp, x1, x2, rfl, nT, rfl, hx1, hx2⟩ := yy
      cases hx1
      have eT : Ex H' (upd H' Tp (.tup [.int (i : Int), x2])) := Ex.new nT
      refine g_pair ?_
      have eH := (r0_ex r').trans eT
      generalize upd H' Tp (.tup [.int (i : Int), x2]) = H11 at *
      have him : i < srs.length := by rw [← lsv]; exact hi
      have hrow := mo_row (R := R0) x2 H10 H11 (Rel.ex eH) trivial (sal.2 i x2 srs[i] hx2 (List.getElem?_eq_getElem him))
      obtain ⟨lr, br⟩ := sok _ (List.getElem_mem him)
      generalize srs[i] = r at *
      have hws11 := mo_rowsT (R := R0) v7 H10 H11 (Rel.ex eH) trivial hws10
      have hst11 := mo_rowsT (R := R0) st H10 H11 (Rel.ex eH) trivial hst10
      have fol : FolG.Ok ⟨W, ws, ss, r⟩ := ⟨hW, fun r hr => (wso r hr).1, fun r hr => (s2 r hr).1, lr, fun r hr => (wso r hr).2, fun r hr => (s2 r hr).2, br, by show ws.length + ss.length ≤ 50; omega⟩
      have asked : Asked W ws ss r := by
        refine ⟨⟨hW, fun r' hr => ?_, fun r' hr => ?_, by simp; omega⟩, by omega⟩
        · rcases List.mem_append.mp hr with hr | hr
          · rcases List.mem_append.mp hr with hr | hr
            · exact (wso r' hr).1
            · exact (s2 r' hr).1
          · rw [List.mem_singleton.mp hr]; simp [neg, lr]
        · rcases List.mem_append.mp hr with hr | hr
          · rcases List.mem_append.mp hr with hr | hr
            · exact fun x hx => Nat.le_trans ((wso r' hr).2 x hx) (by decide)
            · exact fun x hx => Nat.le_trans ((s2 r' hr).2 x hx) (by decide)
          · rw [List.mem_singleton.mp hr]; exact fun x hx => Nat.le_trans (br.neg x hx) (by decide)
      have biff : broken ws ss r = true ↔ ∃ p, Breaks W ws ss r p := broken_iff hW (fun r hr => (wso r hr).1) (fun r hr => (s2 r hr).1) lr wsb
      show tSeq _ _ _ (LS a d W (some bx) (some py) (some mo) (some st) (some v7) (some v8) (some (.ref sA)) (some (.int (i : Int))) s11 s12 s13 (some x2) s15) H11
      refine st_asg (R := R0) (P := Is (.bl (!broken ws ss r))) (gv_notV (gv_call (pre := fun (g : Nat × List (List Int) × List (List Int) × List Int) vs H => ∃ v u y, vs = [v, u, y] ∧ RowsT K g.2.1 v H ∧ RowsT K g.2.2.1 u H ∧ Row K g.2.2.2 y H ∧ Asked g.1 g.2.1 g.2.2.1 g.2.2.2) (post := fun g => Is (.bl (broken g.2.1 g.2.2.1 g.2.2.2))) (W, ws, ss, r) (ga_cons (gv_slot mo_rowsT trivial rfl hws11) mo_rowsT (ga_2 (gv_slot mo_rowsT trivial rfl hst11) mo_rowsT (gv_slot mo_row trivial rfl hrow))) (fun vs H1 _ _ h => by
          obtain ⟨a2, r2, rfl, h2, a3, a4, rfl, h3, h4⟩ := h
          exact ⟨a2, a3, a4, rfl, h2, h3, h4, asked⟩) fun v H1 _ _ p => p)) trivial fun v15 H12 e12 _ hv15 => ?_
      subst hv15
      have e12 := r0_ex e12
      have hrow12 := mo_row (R := R0) x2 H11 H12 (Rel.ex e12) trivial hrow
      have hws12 := mo_rowsT (R := R0) v7 H11 H12 (Rel.ex e12) trivial hws11
      have hst12 := mo_rowsT (R := R0) st H11 H12 (Rel.ex e12) trivial hst11
      have args : ∀ {H : Hp}, RowsT K ws v7 H → RowsT K ss st H → Row K r x2 H → GvA R0 (tCons (tVar 2) (tCons (tVar 7) (tCons (tVar 6) (tCons (tVar 14) tNil)))) (LS a d W (some bx) (some py) (some mo) (some st) (some v7) (some v8) (some (.ref sA)) (some (.int (i : Int))) s11 s12 s13 (some x2) (some (.bl (!broken ws ss r)))) H (fun vs H => ∃ v u y, vs = [.int (W : Int), v, u, y] ∧ RowsT K ws v H ∧ RowsT K ss u H ∧ Row K r y H) := fun h1 h2 h3 H1 e o Q k =>
        ga_cons (gv_varI rfl) mo_is (ga_cons (gv_slot mo_rowsT trivial rfl h1) mo_rowsT (ga_2 (gv_slot mo_rowsT trivial rfl h2) mo_rowsT (gv_slot mo_row trivial rfl h3))) H1 e o Q fun vs H2 e2 o2 ⟨a1, r1, z1, z2, a2, r2, z3, z4, a3, a4, z5, z6, z7⟩ => k vs H2 e2 o2 ⟨a2, a3, a4, by rw [z1, z2, z3, z5], z4, z6, z7⟩
      show tSeq _ _ _ (LS a d W (some bx) (some py) (some mo) (some st) (some v7) (some v8) (some (.ref sA)) (some (.int (i : Int))) s11 s12 s13 (some x2) (some (.bl (!broken ws ss r)))) H12
      -- does_follow
      refine st_when (R := R0) (B := (· = false)) ?_ trivial (fun _ _ _ z => Bool.noConfusion z) fun H13 e13 _ _ => ?_
      · have g1 := Gv.imp (P' := Is (.bl (!broken ws ss r))) (gv_call (E := E0) (pre := fun (g : FolG) vs H => preFol K g vs H) (post := fun g v H => ∃ b : Bool, v = .bl b ∧ (b = true ↔ ¬ ∃ p, Breaks g.W g.ws g.ss g.r p)) (P := fun v H => ∃ b : Bool, v = .bl b ∧ (b = true ↔ ¬ ∃ p, Breaks W ws ss r p)) ⟨W, ws, ss, r⟩ (args hws12 hst12 hrow12) (fun vs H1 _ _ ⟨v, u, y, h1, h2, h3, h4⟩ => ⟨v, u, y, h1, h2, h3, h4, fol⟩) fun v H1 _ _ p => p) fun v H' _ ⟨b, hb, hiff⟩ => by
            rw [← biff] at hiff
            rw [hb]
            cases b with
            | true => rw [Bool.eq_false_iff.mpr (hiff.mp rfl)]; rfl
            | false =>
              have : broken ws ss r = true := by
                cases hbr : broken ws ss r with
                | true => rfl
                | false => exact absurd (hiff.mpr (by rw [hbr]; exact Bool.false_ne_true)) Bool.false_ne_true
              rw [this]; rfl
        refine gt_is (gt_test (gv_ne (x := .str (if !broken ws ss r then "True" else "False")) (y := .str (if !broken ws ss r then "True" else "False")) (gv_cb (ga_k g1 ga_n) fun vs H2 _ o2 h Q k => ⟨_, h, k _ H2 (Rel.refl _) o2 rfl⟩) (gv_cb (ga_k (gv_varI rfl) ga_n) fun vs H2 _ o2 h Q k => ⟨_, h, k _ H2 (Rel.refl _) o2 rfl⟩) rfl)) (by rw [decide_eq_true rfl]; rfl)
      · have e13 := r0_ex e13
        have hrow13 := mo_row (R := R0) x2 H12 H13 (Rel.ex e13) trivial hrow12
        have hws13 := mo_rowsT (R := R0) v7 H12 H13 (Rel.ex e13) trivial hws12
        have hst13 := mo_rowsT (R := R0) st H12 H13 (Rel.ex e13) trivial hst12
        -- judge_follows
        refine st_when (R := R0) (B := (· = false)) ?_ trivial (fun _ _ _ z => Bool.noConfusion z) fun H14 e14 _ _ => ?_
        · have g2 : Gv R0 (tOp (rIxT K) (tCall (PrG (fun (g : FolG) vs H => preFol K g vs H) fun g v H => ∃ a x xs, v = .ref a ∧ SqT K H a (x :: xs) ∧ ((x = .str "weights" ∧ ¬ ∃ p, Breaks g.W g.ws g.ss g.r p) ∨ (x = .str "point" ∧ ∃ p, Breaks g.W g.ws g.ss g.r p))) [] E0 (tCons (tVar 2) (tCons (tVar 7) (tCons (tVar 6) (tCons (tVar 14) tNil))))) (tC (.int 0))) (LS a d W (some bx) (some py) (some mo) (some st) (some v7) (some v8) (some (.ref sA)) (some (.int (i : Int))) s11 s12 s13 (some x2) (some (.bl (!broken ws ss r)))) H13 (Is (.str (if !broken ws ss r then "weights" else "point"))) := fun H1 e1 o1 Q k =>
            gv_call (E := E0) (pre := fun (g : FolG) vs H => preFol K g vs H) (post := fun g v H => ∃ a x xs, v = .ref a ∧ SqT K H a (x :: xs) ∧ ((x = .str "weights" ∧ ¬ ∃ p, Breaks g.W g.ws g.ss g.r p) ∨ (x = .str "point" ∧ ∃ p, Breaks g.W g.ws g.ss g.r p))) (P := fun v H => ∃ a x xs, v = .ref a ∧ SqT K H a (x :: xs) ∧ ((x = .str "weights" ∧ ¬ ∃ p, Breaks W ws ss r p) ∨ (x = .str "point" ∧ ∃ p, Breaks W ws ss r p))) ⟨W, ws, ss, r⟩ (args hws13 hst13 hrow13) (fun vs H1 _ _ ⟨v, u, y, h1, h2, h3, h4⟩ => ⟨v, u, y, h1, h2, h3, h4, fol⟩) (fun v H1 _ _ p => p) H1 e1 o1 _ fun v H2 e2 o2 ⟨ja, jx, jxs, j1, j2, j3⟩ => ⟨ja, _, 0, jx, j1, rfl, j2, (show atI (jx :: jxs) ((0 : Nat) : Int) = some jx from atI_nat rfl), k _ H2 e2 o2 (by
              rw [← biff] at j3
              rcases j3 with ⟨z1, z2⟩ | ⟨z1, z2⟩
              · rw [z1, Bool.eq_false_iff.mpr z2]; rfl
              · rw [z1, z2]; rfl)⟩
          refine gt_is (gt_and (a := decide (V.int (i : Int) = V.int 1)) (b := false) (gt_test (gv_eq (gv_varI rfl) gv_c rfl)) fun _ => gt_is (gt_test (gv_ne (x := .str (if !broken ws ss r then "weights" else "point")) (y := .str (if !broken ws ss r then "weights" else "point")) g2 (gv_if (A := (· = !broken ws ss r)) (gt_B (gv_varI rfl)) (fun z => by rw [← z]; exact gv_c) (fun z => by rw [← z]; exact gv_c)) rfl)) (by rw [decide_eq_true rfl]; rfl)) (Bool.and_false _)
        · have e14 := r0_ex e14
          have hrow14 := mo_row (R := R0) x2 H13 H14 (Rel.ex e14) trivial hrow13
          have hws14 := mo_rowsT (R := R0) v7 H13 H14 (Rel.ex e14) trivial hws13
          have hst14 := mo_rowsT (R := R0) st H13 H14 (Rel.ex e14) trivial hst13
          refine st_when1 (R := R0) (B := (· = false)) ?_ trivial (fun _ _ _ z => Bool.noConfusion z) fun H15 e15 _ _ => ⟨Rel.ex (((eT.trans e12).trans e13).trans (e14.trans (r0_ex e15))), trivial, _, _, _, rfl⟩
          refine gt_is (gt_and (a := !broken ws ss r) (b := false) (gt_B (gv_varI rfl)) fun hd => gt_is (gt_not (gt_B (b := true) ?_)) rfl) (Bool.and_false _)
          have nb : ∀ p, ¬ Breaks W ws ss r p := fun p hp => by
            rw [biff.mpr ⟨p, hp⟩] at hd
            exact Bool.noConfusion hd
          refine gv_call (pre := fun (g : Nat × List (List Int) × List (List Int) × List Int) vs H => ∃ v u y, vs = [.int (g.1 : Int), v, u, y] ∧ RowsT K g.2.1 v H ∧ RowsT K g.2.2.1 u H ∧ Row K g.2.2.2 y H ∧ (g.1 = 2 ∨ g.1 = 3) ∧ Nice g.1 g.2.1 ∧ Nice g.1 g.2.2.1 ∧ g.2.2.2.length = g.1 ∧ Sm g.2.2.2 ∧ ∀ p, ¬ Breaks g.1 g.2.1 g.2.2.1 g.2.2.2 p) (post := fun _ => Is (.bl true)) (W, ws, ss, r) (args hws14 hst14 hrow14) (fun vs H1 _ _ ⟨v, u, y, h1, h2, h3, h4⟩ => ⟨v, u, y, h1, h2, h3, h4, hW, ⟨fun r hr => (wso r hr).1, fun r hr => (wso r hr).2.sm (by decide), by dsimp only; omega⟩, ⟨fun r hr => (s2 r hr).1, fun r hr => (s2 r hr).2.sm (by decide), by dsimp only; omega⟩, lr, br.sm (by decide), nb⟩) fun v H1 _ _ p => p
    · obtain ⟨s10, s14, s15, rfl⟩ := hp
      exact q H'
end
end Tm
end
set_option Elab.async false
set_option linter.all false
set_option maxRecDepth 100000
set_option maxHeartbeats 0
namespace TmH
open PySem PySem.Spec PyProof.Rows L2
open Tm (RW top Txt DefAt MetAt MakAt s_L_border s_L_borders s_L_box s_L_corners s_L_cut s_L_deck s_L_draw s_L_fits s_L_is_border s_L_is_broken s_L_is_integer s_L_is_kept_nearby s_L_is_point s_L_item s_L_longer s_L_mean s_L_pick s_L_point s_L_toward s_L_value s_T_entering s_T_init s_T_leaving s_T_less s_T_pivot s_are_rows_of s_bound_wall s_columns_for s_divided s_does_follow s_followed s_is_between s_is_integer s_is_row_of s_judge_follows s_law s_need_all s_need_room s_need_walls s_need_width s_paper_of s_solved s_unit_paper)
def d_T_init : He.DefD := ⟨("Table", some "__init__"), "__init__", "Table.__init__", defArgs s_T_init, defBody s_T_init, defScope s_T_init, [], []⟩
def d_T_leaving : He.DefD := ⟨("Table", some "leaving"), "leaving", "Table.leaving", defArgs s_T_leaving, defBody s_T_leaving, defScope s_T_leaving, [], []⟩
def d_T_pivot : He.DefD := ⟨("Table", some "pivot"), "pivot", "Table.pivot", defArgs s_T_pivot, defBody s_T_pivot, defScope s_T_pivot, [], []⟩
def d_T_less : He.DefD := ⟨("Table", some "less"), "less", "Table.less", defArgs s_T_less, defBody s_T_less, defScope s_T_less, [], []⟩
def d_T_entering : He.DefD := ⟨("Table", some "entering"), "entering", "Table.entering", defArgs s_T_entering, defBody s_T_entering, defScope s_T_entering, [], []⟩
def d_solved : He.DefD := ⟨("solved", none), "solved", "solved", defArgs s_solved, defBody s_solved, defScope s_solved, [], []⟩
def d_is_integer : He.DefD := ⟨("is_integer", none), "is_integer", "is_integer", defArgs s_is_integer, defBody s_is_integer, defScope s_is_integer, [], []⟩
def d_is_between : He.DefD := ⟨("is_between", none), "is_between", "is_between", defArgs s_is_between, defBody s_is_between, defScope s_is_between, [], []⟩
def d_is_row_of : He.DefD := ⟨("is_row_of", none), "is_row_of", "is_row_of", defArgs s_is_row_of, defBody s_is_row_of, defScope s_is_row_of, [], []⟩
def d_are_rows_of : He.DefD := ⟨("are_rows_of", none), "are_rows_of", "are_rows_of", defArgs s_are_rows_of, defBody s_are_rows_of, defScope s_are_rows_of, [.int 80], []⟩
def d_bound_wall : He.DefD := ⟨("bound_wall", none), "bound_wall", "bound_wall", defArgs s_bound_wall, defBody s_bound_wall, defScope s_bound_wall, [], []⟩
def d_divided : He.DefD := ⟨("divided", none), "divided", "divided", defArgs s_divided, defBody s_divided, defScope s_divided, [], []⟩
def d_columns_for : He.DefD := ⟨("columns_for", none), "columns_for", "columns_for", defArgs s_columns_for, defBody s_columns_for, defScope s_columns_for, [], []⟩
def d_paper_of : He.DefD := ⟨("paper_of", none), "paper_of", "paper_of", defArgs s_paper_of, defBody s_paper_of, defScope s_paper_of, [], []⟩
def d_unit_paper : He.DefD := ⟨("unit_paper", none), "unit_paper", "unit_paper", defArgs s_unit_paper, defBody s_unit_paper, defScope s_unit_paper, [], []⟩
def d_followed : He.DefD := ⟨("followed", none), "followed", "followed", defArgs s_followed, defBody s_followed, defScope s_followed, [], []⟩
def d_need_width : He.DefD := ⟨("need_width", none), "need_width", "need_width", defArgs s_need_width, defBody s_need_width, defScope s_need_width, [], []⟩
def d_need_walls : He.DefD := ⟨("need_walls", none), "need_walls", "need_walls", defArgs s_need_walls, defBody s_need_walls, defScope s_need_walls, [], []⟩
def d_need_room : He.DefD := ⟨("need_room", none), "need_room", "need_room", defArgs s_need_room, defBody s_need_room, defScope s_need_room, [], []⟩
def d_need_all : He.DefD := ⟨("need_all", none), "need_all", "need_all", defArgs s_need_all, defBody s_need_all, defScope s_need_all, [], []⟩
def d_judge_follows : He.DefD := ⟨("judge_follows", none), "judge_follows", "judge_follows", defArgs s_judge_follows, defBody s_judge_follows, defScope s_judge_follows, [], []⟩
def d_does_follow : He.DefD := ⟨("does_follow", none), "does_follow", "does_follow", defArgs s_does_follow, defBody s_does_follow, defScope s_does_follow, [], []⟩
def d_L_deck : He.DefD := ⟨("_law_deck", none), "_law_deck", "_law_deck", defArgs s_L_deck, defBody s_L_deck, defScope s_L_deck, [], []⟩
def d_L_draw : He.DefD := ⟨("_law_draw", none), "_law_draw", "_law_draw", defArgs s_L_draw, defBody s_L_draw, defScope s_L_draw, [], []⟩
def d_L_pick : He.DefD := ⟨("_law_pick", none), "_law_pick", "_law_pick", defArgs s_L_pick, defBody s_L_pick, defScope s_L_pick, [], []⟩
def d_L_is_integer : He.DefD := ⟨("_law_is_integer", none), "_law_is_integer", "_law_is_integer", defArgs s_L_is_integer, defBody s_L_is_integer, defScope s_L_is_integer, [], []⟩
def d_L_is_border : He.DefD := ⟨("_law_is_border", none), "_law_is_border", "_law_is_border", defArgs s_L_is_border, defBody s_L_is_border, defScope s_L_is_border, [], []⟩
def d_L_value : He.DefD := ⟨("_law_value", none), "_law_value", "_law_value", defArgs s_L_value, defBody s_L_value, defScope s_L_value, [], []⟩
def d_L_is_point : He.DefD := ⟨("_law_is_point", none), "_law_is_point", "_law_is_point", defArgs s_L_is_point, defBody s_L_is_point, defScope s_L_is_point, [], []⟩
def d_L_item : He.DefD := ⟨("_law_item", none), "_law_item", "_law_item", defArgs s_L_item, defBody s_L_item, defScope s_L_item, [], []⟩
def d_L_border : He.DefD := ⟨("_law_border", none), "_law_border", "_law_border", defArgs s_L_border, defBody s_L_border, defScope s_L_border, [], []⟩
def d_L_borders : He.DefD := ⟨("_law_borders", none), "_law_borders", "_law_borders", defArgs s_L_borders, defBody s_L_borders, defScope s_L_borders, [], []⟩
def d_L_point : He.DefD := ⟨("_law_point", none), "_law_point", "_law_point", defArgs s_L_point, defBody s_L_point, defScope s_L_point, [], []⟩
def d_L_toward : He.DefD := ⟨("_law_toward", none), "_law_toward", "_law_toward", defArgs s_L_toward, defBody s_L_toward, defScope s_L_toward, [], []⟩
def d_L_box : He.DefD := ⟨("_law_box", none), "_law_box", "_law_box", defArgs s_L_box, defBody s_L_box, defScope s_L_box, [], []⟩
def d_L_fits : He.DefD := ⟨("_law_fits", none), "_law_fits", "_law_fits", defArgs s_L_fits, defBody s_L_fits, defScope s_L_fits, [], []⟩
def d_L_cut : He.DefD := ⟨("_law_cut", none), "_law_cut", "_law_cut", defArgs s_L_cut, defBody s_L_cut, defScope s_L_cut, [], []⟩
def d_L_corners : He.DefD := ⟨("_law_corners", none), "_law_corners", "_law_corners", defArgs s_L_corners, defBody s_L_corners, defScope s_L_corners, [], []⟩
def d_L_mean : He.DefD := ⟨("_law_mean", none), "_law_mean", "_law_mean", defArgs s_L_mean, defBody s_L_mean, defScope s_L_mean, [], []⟩
def d_L_is_broken : He.DefD := ⟨("_law_is_broken", none), "_law_is_broken", "_law_is_broken", defArgs s_L_is_broken, defBody s_L_is_broken, defScope s_L_is_broken, [], []⟩
def d_L_is_kept_nearby : He.DefD := ⟨("_law_is_kept_nearby", none), "_law_is_kept_nearby", "_law_is_kept_nearby", defArgs s_L_is_kept_nearby, defBody s_L_is_kept_nearby, defScope s_L_is_kept_nearby, [], []⟩
def d_L_longer : He.DefD := ⟨("_law_longer", none), "_law_longer", "_law_longer", defArgs s_L_longer, defBody s_L_longer, defScope s_L_longer, [], []⟩
def d_law : He.DefD := ⟨("law", none), "law", "law", defArgs s_law, defBody s_law, defScope s_law, [], []⟩
def fn : List He.DefD := [d_T_init, d_T_leaving, d_T_pivot, d_T_less, d_T_entering, d_solved, d_is_integer, d_is_between, d_is_row_of, d_are_rows_of, d_bound_wall, d_divided, d_columns_for, d_paper_of, d_unit_paper, d_followed, d_need_width, d_need_walls, d_need_room, d_need_all, d_judge_follows, d_does_follow, d_L_deck, d_L_draw, d_L_pick, d_L_is_integer, d_L_is_border, d_L_value, d_L_is_point, d_L_item, d_L_border, d_L_borders, d_L_point, d_L_toward, d_L_box, d_L_fits, d_L_cut, d_L_corners, d_L_mean, d_L_is_broken, d_L_is_kept_nearby, d_L_longer, d_law]
def fa : List He.Fa := [.glo "solved", .glo "is_integer", .glo "is_between", .glo "is_row_of", .glo "are_rows_of", .glo "bound_wall", .glo "divided", .glo "columns_for", .glo "paper_of", .glo "unit_paper", .glo "followed", .glo "need_width", .glo "need_walls", .glo "need_room", .glo "need_all", .glo "judge_follows", .glo "does_follow", .glo "_law_deck", .glo "_law_draw", .glo "_law_pick", .glo "_law_is_integer", .glo "_law_is_border", .glo "_law_value", .glo "_law_is_point", .glo "_law_item", .glo "_law_border", .glo "_law_borders", .glo "_law_point", .glo "_law_toward", .glo "_law_box", .glo "_law_fits", .glo "_law_cut", .glo "_law_corners", .glo "_law_mean", .glo "_law_is_broken", .glo "_law_is_kept_nearby", .glo "_law_longer", .glo "law", .free "len", .free "range", .free "sum", .free "enumerate", .free "zip", .free "isinstance", .free "int", .free "bool", .free "tuple", .free "list", .free "all", .free "max", .free "abs", .free "repr", .int "MOST_WALLS" 80, .int "LEAST_WIDTH" 2, .int "MOST_WIDTH" 8, .glo "Table", .cls "Table", .mkr "Table", .meth "Table" "leaving", .meth "Table" "pivot", .meth "Table" "less", .meth "Table" "entering", .noat "Table" "real", .noat "Table" "rows", .noat "Table" "cost", .noat "Table" "basis", .noat "Table" "divisor"]
/-- the module's name x holds a built-in function -/
def btB (K : PySem.W.Frag) (x : Str) (id : String) : Bool := match PySem.W.nsIn K mainGlobals x with
  | some (some (.builtin i)) => decide (i = id)
  | _ => false
def ex (K : PySem.W.Frag) : Bool := btB K "gcd" "math.gcd"
abbrev AlM : Type := He.AlD × Bool
def hookM (n : Nat) : PySem.W.Hook where
  α := AlM
  obs := fun s => (He.obsD fa fn (He.frG s.heap.get? (He.asD s.heap.get? n)), ex (He.frG s.heap.get? (He.asD s.heap.get? n)))
  val := fun _ => (He.valD fn, true)
  says := fun _ h => ∃ K : PySem.W.Frag, K.In h ∧ He.SaysD fa fn K ∧ ex K = true
  of := fun _ _ e => ⟨_, He.frG_in, congrArg (fun z : AlM => z.1) e, congrArg (fun z : AlM => z.2) e⟩
  keeps := fun _ _ _ ⟨K, hK, c⟩ k => ⟨K, PySem.W.Frag.In.keeps hK k, c⟩
abbrev R : PySem.W.OpenRow := PySem.W.OpenLaw.row RW
abbrev hk : PySem.W.Hook := hookM 4
def obG (g : Addr → Option Obj) : AlM := (He.obsD fa fn (He.frG g (He.asD g 4)), ex (He.frG g (He.asD g 4)))
def ob (s : PySem.W.SharedT) : AlM := obG (HandSHeadRun.getT s)
theorem ob_eq (s : PySem.W.SharedT) : ob s = hk.obs s.abs := by
  have e : HandSHeadRun.getT s = s.abs.heap.get? := funext (HandSHeadRun.getT_eq s)
  show obG (HandSHeadRun.getT s) = obG s.abs.heap.get?
  rw [e]
def loose1 : List Str := ["TripError", "BadNumber", "BadWall", "BadWalls", "Table", "solved", "MOST_WALLS", "is_integer", "is_between", "is_row_of", "are_rows_of", "bound_wall", "divided", "columns_for", "paper_of", "unit_paper", "followed", "LEAST_WIDTH", "MOST_WIDTH", "need_width", "need_walls", "need_room"]
def loose2 : List Str := ["need_all", "judge_follows", "does_follow", "_law_deck", "_law_draw", "_law_pick", "_law_is_integer", "_law_is_border", "_law_value", "_law_is_point", "_law_item", "_law_border", "_law_borders", "_law_point", "_law_toward", "_law_box", "_law_fits", "_law_cut", "_law_corners", "_law_mean", "_law_is_broken", "_law_is_kept_nearby", "_law_longer"]
def loose : List Str := loose1 ++ loose2
theorem run (w : World) : HandSHeadRun.RunEqI R (PySem.W.view R.prog [0, 51]) hk ob 20000 loose w := by
  unfold HandSHeadRun.RunEqI
  kernel_rfl
/-! what the top has left, for the walk -/
section
variable {K : PySem.W.Frag} {h : Heap} {mg : Str → Option Value}
theorem defAt (X : K.In h) (G : h.Ns mainGlobals mg) (c : He.SaysD fa fn K) {x : Str} {st : Stmt} (i j : Nat) (h1 : fn[i]? = some ⟨(x, none), x, x, defArgs st, defBody st, defScope st, [], []⟩) (h2 : fa[j]? = some (.glo x)) : DefAt K mg x st [] := by
  obtain ⟨fd, F⟩ := c.def_ i h1
  exact ⟨⟨_, fd, F, He.glo_ok X G (c.fact j h2)⟩⟩
theorem defAt80 (X : K.In h) (G : h.Ns mainGlobals mg) (c : He.SaysD fa fn K) {x : Str} {st : Stmt} (i j : Nat) (h1 : fn[i]? = some ⟨(x, none), x, x, defArgs st, defBody st, defScope st, [.int 80], []⟩) (h2 : fa[j]? = some (.glo x)) : DefAt K mg x st [.int 80] := by
  obtain ⟨fd, F⟩ := c.def_ i h1
  exact ⟨⟨_, fd, F, He.glo_ok X G (c.fact j h2)⟩⟩
theorem metAt (c : He.SaysD fa fn K) {q m : Str} {st : Stmt} (i j : Nat) (h1 : fn[i]? = some ⟨("Table", some m), m, q, defArgs st, defBody st, defScope st, [], []⟩) (h2 : fa[j]? = some (.meth "Table" m)) : MetAt K (He.ga K "Table") q m st := by
  obtain ⟨fd, F⟩ := c.def_ i h1
  exact ⟨⟨_, fd, F, He.meth_ok (c.fact j h2)⟩⟩
theorem makAt (c : He.SaysD fa fn K) {q : Str} {st : Stmt} (i j : Nat) (h1 : fn[i]? = some ⟨("Table", some "__init__"), "__init__", q, defArgs st, defBody st, defScope st, [], []⟩) (h2 : fa[j]? = some (.mkr "Table")) : MakAt K (He.ga K "Table") q st := by
  obtain ⟨fd, F⟩ := c.def_ i h1
  exact ⟨⟨_, fd, F, He.mkr_ok (c.fact j h2)⟩⟩
theorem bt_ok (X : K.In h) (G : h.Ns mainGlobals mg) {x : Str} {id : String} (c : btB K x id = true) : mg x = some (.builtin id) := by
  unfold btB at c
  split at c
  · rename_i i e
    have := of_decide_eq_true c
    subst this
    exact PySem.W.mg_of X G e
  · exact Bool.noConfusion c
theorem txt (X : K.In h) (G : h.Ns mainGlobals mg) (c : He.SaysD fa fn K) (e : ex K = true) : Txt K mg (He.ga K "Table") where
  solved := defAt X G c 5 0 rfl rfl
  is_integer := defAt X G c 6 1 rfl rfl
  is_between := defAt X G c 7 2 rfl rfl
  is_row_of := defAt X G c 8 3 rfl rfl
  are_rows_of := defAt80 X G c 9 4 rfl rfl
  bound_wall := defAt X G c 10 5 rfl rfl
  divided := defAt X G c 11 6 rfl rfl
  columns_for := defAt X G c 12 7 rfl rfl
  paper_of := defAt X G c 13 8 rfl rfl
  unit_paper := defAt X G c 14 9 rfl rfl
  followed := defAt X G c 15 10 rfl rfl
  need_width := defAt X G c 16 11 rfl rfl
  need_walls := defAt X G c 17 12 rfl rfl
  need_room := defAt X G c 18 13 rfl rfl
  need_all := defAt X G c 19 14 rfl rfl
  judge_follows := defAt X G c 20 15 rfl rfl
  does_follow := defAt X G c 21 16 rfl rfl
  L_deck := defAt X G c 22 17 rfl rfl
  L_draw := defAt X G c 23 18 rfl rfl
  L_pick := defAt X G c 24 19 rfl rfl
  L_is_integer := defAt X G c 25 20 rfl rfl
  L_is_border := defAt X G c 26 21 rfl rfl
  L_value := defAt X G c 27 22 rfl rfl
  L_is_point := defAt X G c 28 23 rfl rfl
  L_item := defAt X G c 29 24 rfl rfl
  L_border := defAt X G c 30 25 rfl rfl
  L_borders := defAt X G c 31 26 rfl rfl
  L_point := defAt X G c 32 27 rfl rfl
  L_toward := defAt X G c 33 28 rfl rfl
  L_box := defAt X G c 34 29 rfl rfl
  L_fits := defAt X G c 35 30 rfl rfl
  L_cut := defAt X G c 36 31 rfl rfl
  L_corners := defAt X G c 37 32 rfl rfl
  L_mean := defAt X G c 38 33 rfl rfl
  L_is_broken := defAt X G c 39 34 rfl rfl
  L_is_kept_nearby := defAt X G c 40 35 rfl rfl
  L_longer := defAt X G c 41 36 rfl rfl
  law := defAt X G c 42 37 rfl rfl
  z_len := He.free_ok X G (c.fact 38 rfl)
  z_range := He.free_ok X G (c.fact 39 rfl)
  z_sum := He.free_ok X G (c.fact 40 rfl)
  z_enumerate := He.free_ok X G (c.fact 41 rfl)
  z_zip := He.free_ok X G (c.fact 42 rfl)
  z_isinstance := He.free_ok X G (c.fact 43 rfl)
  z_int := He.free_ok X G (c.fact 44 rfl)
  z_bool := He.free_ok X G (c.fact 45 rfl)
  z_tuple := He.free_ok X G (c.fact 46 rfl)
  z_list := He.free_ok X G (c.fact 47 rfl)
  z_all := He.free_ok X G (c.fact 48 rfl)
  z_max := He.free_ok X G (c.fact 49 rfl)
  z_abs := He.free_ok X G (c.fact 50 rfl)
  z_repr := He.free_ok X G (c.fact 51 rfl)
  i_MOST_WALLS := He.int_ok X G (c.fact 52 rfl)
  i_LEAST_WIDTH := He.int_ok X G (c.fact 53 rfl)
  i_MOST_WIDTH := He.int_ok X G (c.fact 54 rfl)
  gcd := bt_ok X G e
  mgC := He.glo_ok X G (c.fact 55 rfl)
  cl := He.cls_ok (c.fact 56 rfl)
  n_real := He.noat_ok (c.fact 62 rfl)
  n_rows := He.noat_ok (c.fact 63 rfl)
  n_cost := He.noat_ok (c.fact 64 rfl)
  n_basis := He.noat_ok (c.fact 65 rfl)
  n_divisor := He.noat_ok (c.fact 66 rfl)
  m_init := makAt c 0 57 rfl rfl
  m_leaving := metAt c 1 58 rfl rfl
  m_pivot := metAt c 2 59 rfl rfl
  m_less := metAt c 3 60 rfl rfl
  m_entering := metAt c 4 61 rfl rfl
end
theorem facts {P : Program} {w : World} {K : PySem.W.Frag} {h : Heap} {mg : Str → Option Value} {f : Addr} (X : K.In h) (G : h.Ns mainGlobals mg) (hfa : mg ("law" : Str) = some (.ref f)) (c : He.SaysD fa fn K) (e : ex K = true) :
    ∃ fd : FuncData, (∀ (s : Shared) (v : Value), BindsTo s fd ⟨[v], []⟩ [("_law_script", v)]) ∧ ∀ base : Heap, K.In base → base.Ns mainGlobals mg → FnOk P w K mg base CX0 8 f fd ["_law_script"] (Tm.spLaw K) := by
  have T := txt X G c e
  obtain ⟨f0, fd, F, g0⟩ := T.law.ex
  rw [hfa] at g0
  have ef : f = f0 := by cases g0; rfl
  subst ef
  have b := FunD.bindsA (ps := ["_law_script"]) F fun _ _ _ _ _ _ us hl => match us, hl with | [_], _ => rfl
  exact ⟨fd, fun s v => b s [v] rfl, fun base _ _ => Tm.do_law T F⟩
end TmH
open PySem PySem.W PySem.Calls PyProof.Rows
theorem PySem.Challenge.cw_tripmeans_k03_whole_follows_by_corners_a_holds : PySem.Challenge.rw_tripmeans_k03_whole_follows_by_corners_a.Holds := by
  w_on; o_law
  refine HandSHeadRun.head_imp (r := OpenLaw.row PySem.Challenge.rw_tripmeans_k03_whole_follows_by_corners_a) (q := view (OpenLaw.row PySem.Challenge.rw_tripmeans_k03_whole_follows_by_corners_a).prog [0, 51]) (H := TmH.hk) (ob := TmH.ob) (M := 20000) (loose := TmH.loose) (d := HandSHeadRun.topDef (OpenLaw.row PySem.Challenge.rw_tripmeans_k03_whole_follows_by_corners_a).prog 51) (kwd := []) TmH.ob_eq TmH.run
    (by kernel_rfl) (by kernel_rfl) (by kernel_rfl) (by rfl) (by first | assumption | decide +kernel) (by decide +kernel) ⟨rfl, rfl, rfl, rfl, rfl, by decide +kernel⟩ ?hw ?hc
  case hw => w_witness2
  case hc =>
    refine L2.walk_ofE (l := PySem.Challenge.rw_tripmeans_k03_whole_follows_by_corners_a) (n := 63) (k := 8) (x := "_law_script") (CX := L2.CX0) rfl (by decide) (by kernel_rfl) ⟨rfl, by decide, by decide⟩ ?F (fun _ _ _ _ z => z)
    intro w mg fa h Y G hmg0
    obtain ⟨K, KX, c, e⟩ := Y
    have hmg : mg ("law" : PySem.Str) = some (.ref fa) := by
      have e : (HandSHeadRun.topDef (OpenLaw.row PySem.Challenge.rw_tripmeans_k03_whole_follows_by_corners_a).prog 51).name = ("law" : PySem.Str) := by kernel_rfl
      rw [← e]
      exact hmg0
    obtain ⟨fd, hb, hF⟩ := TmH.facts (P := (PySem.Challenge.rw_tripmeans_k03_whole_follows_by_corners_a).prog) (w := w) KX G hmg c e
    exact ⟨K, fd, Tm.spLaw K, KX, hb, fun H a ns hl _ hS => ⟨a, ns, rfl, hS, fun _ => rfl⟩, hF⟩
