import PyProof.Rows.All
import Wide.All
import OpenK.AllK
import Wide.FinOn
import PySem.Challenge.RW_xm0460_01
open PySem PySem.W PyProof.Rows
set_option linter.all false
section
set_option Elab.async false
set_option maxRecDepth 100000
set_option genSizeOf false
set_option genSizeOfSpec false
set_option linter.all false
set_option genInjectivity false
set_option bootstrap.genMatcherCode false
set_option genCtorIdx false
set_option compiler.extract_closed false
set_option tactic.hygienic false

section
namespace Mine
inductive E0C2 (A0 A1 : Prop) : Prop | mk : A0 → A1 → E0C2 A0 A1
inductive E0C3 (A0 A1 A2 : Prop) : Prop | mk : A0 → A1 → A2 → E0C3 A0 A1 A2
inductive E0C4 (A0 A1 A2 A3 : Prop) : Prop | mk : A0 → A1 → A2 → A3 → E0C4 A0 A1 A2 A3
inductive E0C5 (A0 A1 A2 A3 A4 : Prop) : Prop | mk : A0 → A1 → A2 → A3 → A4 → E0C5 A0 A1 A2 A3 A4
inductive E1C2 {τ0 : Type} (A0 A1 : τ0 → Prop) : Prop | mk (a : τ0) : A0 a → A1 a → E1C2 A0 A1
inductive E1C3 {τ0 : Type} (A0 A1 A2 : τ0 → Prop) : Prop | mk (a : τ0) : A0 a → A1 a → A2 a → E1C3 A0 A1 A2
inductive E1C4 {τ0 : Type} (A0 A1 A2 A3 : τ0 → Prop) : Prop | mk (a : τ0) : A0 a → A1 a → A2 a → A3 a → E1C4 A0 A1 A2 A3
inductive E1C5 {τ0 : Type} (A0 A1 A2 A3 A4 : τ0 → Prop) : Prop | mk (a : τ0) : A0 a → A1 a → A2 a → A3 a → A4 a → E1C5 A0 A1 A2 A3 A4
inductive E1C6 {τ0 : Type} (A0 A1 A2 A3 A4 A5 : τ0 → Prop) : Prop | mk (a : τ0) : A0 a → A1 a → A2 a → A3 a → A4 a → A5 a → E1C6 A0 A1 A2 A3 A4 A5
inductive E2C3 {τ0 τ1 : Type} (A0 A1 A2 : τ0 → τ1 → Prop) : Prop | mk (a : τ0) (b : τ1) : A0 a b → A1 a b → A2 a b → E2C3 A0 A1 A2
inductive E2C4 {τ0 τ1 : Type} (A0 A1 A2 A3 : τ0 → τ1 → Prop) : Prop | mk (a : τ0) (b : τ1) : A0 a b → A1 a b → A2 a b → A3 a b → E2C4 A0 A1 A2 A3
inductive E2C5 {τ0 τ1 : Type} (A0 A1 A2 A3 A4 : τ0 → τ1 → Prop) : Prop | mk (a : τ0) (b : τ1) : A0 a b → A1 a b → A2 a b → A3 a b → A4 a b → E2C5 A0 A1 A2 A3 A4
inductive E2C6 {τ0 τ1 : Type} (A0 A1 A2 A3 A4 A5 : τ0 → τ1 → Prop) : Prop | mk (a : τ0) (b : τ1) : A0 a b → A1 a b → A2 a b → A3 a b → A4 a b → A5 a b → E2C6 A0 A1 A2 A3 A4 A5
inductive E2C7 {τ0 τ1 : Type} (A0 A1 A2 A3 A4 A5 A6 : τ0 → τ1 → Prop) : Prop | mk (a : τ0) (b : τ1) : A0 a b → A1 a b → A2 a b → A3 a b → A4 a b → A5 a b → A6 a b → E2C7 A0 A1 A2 A3 A4 A5 A6
inductive E2C8 {τ0 τ1 : Type} (A0 A1 A2 A3 A4 A5 A6 A7 : τ0 → τ1 → Prop) : Prop | mk (a : τ0) (b : τ1) : A0 a b → A1 a b → A2 a b → A3 a b → A4 a b → A5 a b → A6 a b → A7 a b → E2C8 A0 A1 A2 A3 A4 A5 A6 A7
inductive E3C5 {τ0 τ1 τ2 : Type} (A0 A1 A2 A3 A4 : τ0 → τ1 → τ2 → Prop) : Prop | mk (a : τ0) (b : τ1) (c : τ2) : A0 a b c → A1 a b c → A2 a b c → A3 a b c → A4 a b c → E3C5 A0 A1 A2 A3 A4
inductive E3C7 {τ0 τ1 τ2 : Type} (A0 A1 A2 A3 A4 A5 A6 : τ0 → τ1 → τ2 → Prop) : Prop | mk (a : τ0) (b : τ1) (c : τ2) : A0 a b c → A1 a b c → A2 a b c → A3 a b c → A4 a b c → A5 a b c → A6 a b c → E3C7 A0 A1 A2 A3 A4 A5 A6
inductive E3C10 {τ0 τ1 τ2 : Type} (A0 A1 A2 A3 A4 A5 A6 A7 A8 A9 : τ0 → τ1 → τ2 → Prop) : Prop | mk (a : τ0) (b : τ1) (c : τ2) : A0 a b c → A1 a b c → A2 a b c → A3 a b c → A4 a b c → A5 a b c → A6 a b c → A7 a b c → A8 a b c → A9 a b c → E3C10 A0 A1 A2 A3 A4 A5 A6 A7 A8 A9
inductive E4C6 {τ0 τ1 τ2 τ3 : Type} (A0 A1 A2 A3 A4 A5 : τ0 → τ1 → τ2 → τ3 → Prop) : Prop | mk (a : τ0) (b : τ1) (c : τ2) (d : τ3) : A0 a b c d → A1 a b c d → A2 a b c d → A3 a b c d → A4 a b c d → A5 a b c d → E4C6 A0 A1 A2 A3 A4 A5
inductive E4C8 {τ0 τ1 τ2 τ3 : Type} (A0 A1 A2 A3 A4 A5 A6 A7 : τ0 → τ1 → τ2 → τ3 → Prop) : Prop | mk (a : τ0) (b : τ1) (c : τ2) (d : τ3) : A0 a b c d → A1 a b c d → A2 a b c d → A3 a b c d → A4 a b c d → A5 a b c d → A6 a b c d → A7 a b c d → E4C8 A0 A1 A2 A3 A4 A5 A6 A7
inductive E4C9 {τ0 τ1 τ2 τ3 : Type} (A0 A1 A2 A3 A4 A5 A6 A7 A8 : τ0 → τ1 → τ2 → τ3 → Prop) : Prop | mk (a : τ0) (b : τ1) (c : τ2) (d : τ3) : A0 a b c d → A1 a b c d → A2 a b c d → A3 a b c d → A4 a b c d → A5 a b c d → A6 a b c d → A7 a b c d → A8 a b c d → E4C9 A0 A1 A2 A3 A4 A5 A6 A7 A8


set_option genInjectivity true in
set_option genCtorIdx true in
inductive D where
 | none | bool (b : Bool) | int (i : Int) | str (s : Str) | tup (xs : List D) | ref (i : Nat)


section
variable {α : Type}
noncomputable def onInt (d : D) (f : Int → Option α) : Option α := match d with | .int i => f i | _ => none
noncomputable def onStr (d : D) (f : Str → Option α) : Option α := match d with | .str i => f i | _ => none
noncomputable def onBool (d : D) (f : Bool → Option α) : Option α := match d with | .bool i => f i | _ => none
noncomputable def onRef (d : D) (f : Nat → Option α) : Option α := match d with | .ref i => f i | _ => none
noncomputable def onTup (d : D) (f : List D → Option α) : Option α := match d with | .tup i => f i | _ => none
noncomputable def onTwo (d : D) (f : D → D → Option α) : Option α := onTup d fun xs => match xs with | [a, b] => f a b | _ => none
noncomputable def gd (c : Prop) [Decidable c] (x : Option α) : Option α := if c then x else none
inductive OnInt (f : Int → Option α) (r : α) : D → Prop | mk (i : Int) : f i = some r → OnInt f r (.int i)
inductive OnStr (f : Str → Option α) (r : α) : D → Prop | mk (i : Str) : f i = some r → OnStr f r (.str i)
inductive OnBool (f : Bool → Option α) (r : α) : D → Prop | mk (i : Bool) : f i = some r → OnBool f r (.bool i)
inductive OnRef (f : Nat → Option α) (r : α) : D → Prop | mk (i : Nat) : f i = some r → OnRef f r (.ref i)
inductive OnTup (f : List D → Option α) (r : α) : D → Prop | mk (i : List D) : f i = some r → OnTup f r (.tup i)
inductive OnTwo (f : D → D → Option α) (r : α) : D → Prop | mk (a b : D) : f a b = some r → OnTwo f r (.tup [a, b])
inductive Bnd {β : Type} (m : Option β) (f : β → Option α) (r : α) : Prop | mk (a : β) : m = some a → f a = some r → Bnd m f r
variable {r : α}
theorem i_of {d : D} {f : Int → Option α} (h : onInt d f = some r) : OnInt f r d := by cases d with | int i => exact ⟨i, h⟩ | _ => exact nomatch h
theorem s_of {d : D} {f : Str → Option α} (h : onStr d f = some r) : OnStr f r d := by cases d with | str i => exact ⟨i, h⟩ | _ => exact nomatch h
theorem b_of {d : D} {f : Bool → Option α} (h : onBool d f = some r) : OnBool f r d := by cases d with | bool i => exact ⟨i, h⟩ | _ => exact nomatch h
theorem r_of {d : D} {f : Nat → Option α} (h : onRef d f = some r) : OnRef f r d := by cases d with | ref i => exact ⟨i, h⟩ | _ => exact nomatch h
theorem t_of {d : D} {f : List D → Option α} (h : onTup d f = some r) : OnTup f r d := by cases d with | tup i => exact ⟨i, h⟩ | _ => exact nomatch h
theorem t2_of {d : D} {f : D → D → Option α} (h : onTwo d f = some r) : OnTwo f r d := by
 obtain ⟨xs, h⟩ := t_of h
 cases xs with
 | nil => exact nomatch h
 | cons a xs => cases xs with
  | nil => exact nomatch h
  | cons b xs => cases xs with
   | nil => exact ⟨a, b, h⟩
   | cons => exact nomatch h
theorem bi_of {β : Type} {m : Option β} {f : β → Option α} (h : m.bind f = some r) : Bnd m f r := by cases m with | some a => exact ⟨a, rfl, h⟩ | none => exact nomatch h
theorem mp_of {β : Type} {m : Option β} {f : β → α} (h : m.map f = some r) : Bnd m (fun a => some (f a)) r := by cases m with | some a => exact ⟨a, rfl, h⟩ | none => exact nomatch h
theorem gd_of {c : Prop} [Decidable c] {x : Option α} (h : gd c x = some r) : c ∧ x = some r := by
 by_cases k : c
 ·exact ⟨k, (if_pos k).symm.trans h⟩
 ·exact nomatch (if_neg k).symm.trans h
theorem gd_pos {c : Prop} [Decidable c] {x : Option α} (k : c) : gd c x = x := if_pos k
end
theorem sp {α β : Type} {a c : α} {b d : β} (h : some (a, b) = some (c, d)) : a = c ∧ b = d := by injection h with h; injection h with h1 h2; exact ⟨h1, h2⟩
theorem s1 {α : Type} {a b : α} (h : some a = some b) : a = b := Option.some.inj h

noncomputable def eqN : D → Bool | .none => true | _ => false
noncomputable def eqB (x : Bool) : D → Bool | .bool y => x == y | _ => false
noncomputable def eqI (x : Int) : D → Bool | .int y => x == y | _ => false
noncomputable def eqS (x : Str) : D → Bool | .str y => x == y | _ => false
noncomputable def eqR (x : Nat) : D → Bool | .ref y => x == y | _ => false
mutual
noncomputable def D.beq : D → D → Bool
 | .none, b => eqN b
 | .bool x, b => eqB x b
 | .int x, b => eqI x b
 | .str x, b => eqS x b
 | .tup a, b => match b with | .tup b => D.beqs a b | _ => false
 | .ref x, b => eqR x b
noncomputable def D.beqs : List D → List D → Bool
 | [], b => b.isEmpty
 | a :: r, b => match b with | b :: q => D.beq a b && D.beqs r q | [] => false
end
theorem bi_eq {α β : Type} {m : Option α} {a : α} {f : α → Option β} (e : m = some a) : m.bind f = f a := by rw [e]; rfl
theorem onRef_ref {α : Type} {i : Nat} {f : Nat → Option α} : onRef (.ref i) f = f i := rfl
theorem nof (p : Prop) (h : false = true) : p := nomatch h
mutual
theorem D.beq_of : ∀ a b : D, D.beq a b = true → a = b
 | .none, b, h => by cases b with | none => rfl | _ => exact nof _ h
 | .bool _, b, h => by cases b with | bool _ => exact congrArg _ (beq_iff_eq.mp h) | _ => exact nof _ h
 | .int _, b, h => by cases b with | int _ => exact congrArg _ (beq_iff_eq.mp h) | _ => exact nof _ h
 | .str _, b, h => by cases b with | str _ => exact congrArg _ (beq_iff_eq.mp h) | _ => exact nof _ h
 | .tup xs, b, h => by cases b with | tup ys => exact congrArg _ (D.beqs_of xs ys h) | _ => exact nof _ h
 | .ref _, b, h => by cases b with | ref _ => exact congrArg _ (beq_iff_eq.mp h) | _ => exact nof _ h
theorem D.beqs_of : ∀ a b : List D, D.beqs a b = true → a = b
 | [], b, h => (List.isEmpty_iff.mp h).symm
 | x :: r, b, h => by
  cases b with
  | nil => exact nof _ h
  | cons y q =>
   have h := Bool.and_eq_true_iff.mp h
   rw [D.beq_of x y h.1, D.beqs_of r q h.2]
end
mutual
theorem D.beq_rfl : ∀ a : D, D.beq a a = true
 | .none => rfl
 | .bool b => beq_self_eq_true b
 | .int b => beq_self_eq_true b
 | .str b => beq_self_eq_true b
 | .tup xs => D.beqs_rfl xs
 | .ref b => beq_self_eq_true b
theorem D.beqs_rfl : ∀ a : List D, D.beqs a a = true
 | [] => rfl
 | x :: r => Bool.and_eq_true_iff.mpr ⟨D.beq_rfl x, D.beqs_rfl r⟩
end
theorem D.beq_iff (a b : D) : D.beq a b = true ↔ a = b := ⟨D.beq_of a b, fun h => h ▸ D.beq_rfl a⟩
theorem D.beqs_iff (a b : List D) : D.beqs a b = true ↔ a = b := ⟨D.beqs_of a b, fun h => h ▸ D.beqs_rfl a⟩

noncomputable instance : DecidableEq D := fun a b => decidable_of_iff _ (D.beq_iff a b)
theorem D.beq_eq (a b : D) : D.beq a b = decide (a = b) := Bool.eq_iff_iff.mpr ((D.beq_iff a b).trans decide_eq_true_iff.symm)
theorem D.beqs_eq (a b : List D) : D.beqs a b = decide (a = b) := Bool.eq_iff_iff.mpr ((D.beqs_iff a b).trans decide_eq_true_iff.symm)

noncomputable def flat : Nat → D → Bool
 | 0, d => (match d with | .int _ => true | .str s => PyData.strOk s | _ => false)
 | n + 1, d => (match d with | .int _ => true | .str s => PyData.strOk s | .tup xs => xs.all (flat n) | _ => false)

set_option genCtorIdx true in
inductive Ob where
 | list (xs : List D)
 | dict (es : List (D × D))
 | inst (C : String) (fs : List (String × D))

noncomputable abbrev St := List Ob
noncomputable abbrev Loc := List (String × D)

noncomputable def bnd {α β : Type} (m : Option (α × St)) (f : α → St → Option (β × St)) : Option (β × St) :=
 match m with
 | some (a, σ) => f a σ
 | none => none
inductive BndP {α β : Type} (m : Option (α × St)) (f : α → St → Option (β × St)) (r : β × St) : Prop | mk (a : α) (σ : St) : m = some (a, σ) → f a σ = some r → BndP m f r
theorem bnd_eq {α β : Type} {m : Option (α × St)} {f : α → St → Option (β × St)} {r : β × St} (h : bnd m f = some r) : BndP m f r := by
 cases m with
 | none => exact nomatch h
 | some p => exact ⟨p.1, p.2, rfl, h⟩

noncomputable def Ob.lst : Ob → Option (List D) | .list xs => some xs | _ => none
noncomputable def Ob.dct : Ob → Option (List (D × D)) | .dict xs => some xs | _ => none
noncomputable def Ob.ins : Ob → Option (String × List (String × D)) | .inst C fs => some (C, fs) | _ => none
noncomputable def lst (σ : St) (i : Nat) : Option (List D) := (σ[i]?).bind Ob.lst
noncomputable def dct (σ : St) (i : Nat) : Option (List (D × D)) := (σ[i]?).bind Ob.dct
noncomputable def ins (σ : St) (i : Nat) : Option (String × List (String × D)) := (σ[i]?).bind Ob.ins
theorem lst_at {σ : St} {i : Nat} {xs : List D} (h : lst σ i = some xs) : σ[i]? = some (.list xs) := by
 obtain ⟨o, e, h⟩ := bi_of h
 cases o with | list ys => rw [e, s1 h] | _ => exact nomatch h
theorem dct_at {σ : St} {i : Nat} {xs : List (D × D)} (h : dct σ i = some xs) : σ[i]? = some (.dict xs) := by
 obtain ⟨o, e, h⟩ := bi_of h
 cases o with | dict ys => rw [e, s1 h] | _ => exact nomatch h
theorem ins_at {σ : St} {i : Nat} {p : String × List (String × D)} (h : ins σ i = some p) : σ[i]? = some (.inst p.1 p.2) := by
 obtain ⟨o, e, h⟩ := bi_of h
 cases o with | inst C fs => rw [e, ← s1 h] | _ => exact nomatch h
theorem at_lst {σ : St} {i : Nat} {xs : List D} (h : σ[i]? = some (.list xs)) : lst σ i = some xs := bi_eq h
theorem at_dct {σ : St} {i : Nat} {xs : List (D × D)} (h : σ[i]? = some (.dict xs)) : dct σ i = some xs := bi_eq h
theorem at_ins {σ : St} {i : Nat} {C : String} {fs : List (String × D)} (h : σ[i]? = some (.inst C fs)) : ins σ i = some (C, fs) := bi_eq h
noncomputable def onOb {α : Type} (o : Option Ob) (f : List D → Option α) (g : List (D × D) → Option α) : Option α := o.bind fun o => match o with | .list xs => f xs | .dict es => g es | .inst _ _ => none
inductive OnOb {α : Type} (f : List D → Option α) (g : List (D × D) → Option α) (r : α) (o : Option Ob) : Prop
 | list (xs : List D) : o = some (.list xs) → f xs = some r → OnOb f g r o
 | dict (es : List (D × D)) : o = some (.dict es) → g es = some r → OnOb f g r o
theorem o_of {α : Type} {o : Option Ob} {f : List D → Option α} {g : List (D × D) → Option α} {r : α} (h : onOb o f g = some r) : OnOb f g r o := by
 obtain ⟨o, e, h⟩ := bi_of h
 cases o with | list xs => exact .list xs e h | dict xs => exact .dict xs e h | _ => exact nomatch h
noncomputable def put (σ : St) (i : Nat) (o : Ob) : Option St := if i < 2 then none else some (σ.set i o)
noncomputable def alloc (o : Ob) (σ : St) : Option (D × St) := some (.ref σ.length, σ ++ [o])

noncomputable def big : Nat := 100000

set_option genCtorIdx true in
inductive BOp | add | sub | mul | fdiv | mod
set_option genCtorIdx true in
inductive COp | eq | ne | lt | gt | ge | isin | notin
set_option genCtorIdx true in
inductive Bi | len | any | all | sorted | tuple | str
 deriving DecidableEq

inductive Tgt | one (x : String) | two (x y : String)

inductive CE where
 | stuck
 | lit (d : D)
 | var (x : String)
 | bin (op : BOp) (l r : CE)
 | neg (e : CE)
 | cmp (op : COp) (l r : CE)
 | isNone (e : CE) (pos : Bool)
 | and (es : List CE)
 | or (es : List CE)
 | not (e : CE)
 | ite (t b o : CE)
 | tup (es : List CE)
 | list (es : List CE)
 | dict (ks : List Str) (es : List CE)
 | sub (e i : CE)
 | slice (e : CE) (lo hi : Option CE)
 | rev (e : CE)
 | attr (e : CE) (a : String)
 | call (f : String) (es : List CE)
 | new (C : String) (es : List CE)
 | meth (o : CE) (m : String) (ms : List (String × String)) (es : List CE)
 | bi (f : Bi) (e : CE)
 | max (a b : CE)
 | append (o e : CE)
 | extend (o e : CE)
 | dget (o k e : CE)
 | comp (elt : CE) (t : Tgt) (range : Bool) (it : CE) (cond : Option CE)

inductive CS where
 | stuck
 | expr (e : CE)
 | assign (x : String) (e : CE)
 | assign2 (x y : String) (e : CE)
 | setItem (o i e : CE)
 | setAttr (o : CE) (a : String) (e : CE)
 | ret (e : CE)
 | ite (t : CE) (b o : List CS)
 | loop (t : Tgt) (range : Bool) (it : CE) (body : List CS)
 | cont

noncomputable abbrev Callee := String → List D → St → Option (D × St)

noncomputable def binAdd (a b : D) (σ : St) : Option (D × St) := match a with
 | .int a => onInt b fun b => some (.int (a + b), σ)
 | .str a => onStr b fun b => gd (a.length + b.length ≤ big) (some (.str (a ++ b), σ))
 | .ref i => onRef b fun j => (lst σ i).bind fun xs => (lst σ j).bind fun ys => gd (xs.length + ys.length ≤ big) (alloc (.list (xs ++ ys)) σ)
 | _ => none
noncomputable def binI (a b : D) (σ : St) (f : Int → Int → Option D) : Option (D × St) := onInt a fun a => onInt b fun b => (f a b).map fun d => (d, σ)
noncomputable def bin (op : BOp) (a b : D) (σ : St) : Option (D × St) := match op with
 | .add => binAdd a b σ
 | .sub => binI a b σ fun a b => some (.int (a - b))
 | .mul => binI a b σ fun a b => gd (a.natAbs < 2 ^ 60 ∧ b.natAbs < 2 ^ 60) (some (.int (a * b)))
 | .fdiv => binI a b σ fun a b => gd (0 < b ∧ b < 1000000) (some (.int (a.fdiv b)))
 | .mod => binI a b σ fun a b => gd (0 < b ∧ b < 1000000) (some (.int (a.fmod b)))

noncomputable def flats (n : Nat) (xs : List D) : Bool := xs.all (flat n)
noncomputable def rows2 (σ : St) : List D → Option (List (List D))
 | [] => some []
 | d :: r => onRef d fun i => (lst σ i).bind fun xs => (rows2 σ r).bind fun rest => gd (flats 6 xs = true) (some (xs :: rest))
noncomputable def D.ofRows (l : List (List D)) : List D := l.map .tup

noncomputable def pyEqR (σ : St) (i j : Nat) : Option Bool := (lst σ i).bind fun xs => (lst σ j).bind fun ys => if (flats 6 xs && flats 6 ys) = true then some (D.beqs xs ys) else (rows2 σ xs).bind fun p => (rows2 σ ys).bind fun q => some (D.beqs (D.ofRows p) (D.ofRows q))
noncomputable def pyEq (σ : St) (a b : D) : Option Bool := match a with
 | .bool x => onBool b fun y => some (x == y)
 | .ref i => onRef b fun j => pyEqR σ i j
 | a => gd ((flat 6 a && flat 6 b) = true) (some (D.beq a b))

noncomputable def isInt : D → Bool | .int _ => true | _ => false
noncomputable def isStr : D → Bool | .str _ => true | _ => false
noncomputable def isTup : D → Bool | .tup xs => flat 6 (.tup xs) | _ => false
noncomputable def keysOk (es : List (D × D)) (k : D) : Bool :=
 (isInt k && es.all fun e => isInt e.1) || (isStr k && es.all fun e => isStr e.1) || (isTup k && es.all fun e => isTup e.1)
noncomputable def dfind (es : List (D × D)) (k : D) : Option D := match es with
 | [] => none
 | (k', v) :: r => if k'.beq k then some v else dfind r k
noncomputable def dput (es : List (D × D)) (k v : D) : List (D × D) := match es with
 | [] => [(k, v)]
 | (k', v') :: r => if k'.beq k then (k', v) :: r else (k', v') :: dput r k v

noncomputable def pyIn (σ : St) (x d : D) : Option Bool := match d with
 | .tup ys => gd ((flat 6 x && flats 6 ys) = true) (some (ys.any fun y => D.beq y x))
 | .ref i => onOb σ[i]? (fun ys => gd ((flat 6 x && flats 6 ys) = true) (some (ys.any fun y => D.beq y x))) fun es => gd (keysOk es x = true) (some (dfind es x).isSome)
 | _ => none

noncomputable def isDict (σ : St) : D → Bool
 | .ref i => (dct σ i).isSome
 | _ => false

noncomputable def cmpI (a b : D) (f : Int → Int → Bool) : Option Bool := onInt a fun a => onInt b fun b => some (f a b)
noncomputable def cmp (op : COp) (a b : D) (σ : St) : Option Bool := match op with
 | .eq => pyEq σ a b
 | .ne => (pyEq σ a b).map (!·)
 | .lt => cmpI a b fun a b => decide (a < b)
 | .gt => cmpI a b fun a b => decide (a > b)
 | .ge => cmpI a b fun a b => decide (a ≥ b)
 | .isin => pyIn σ a b
 | .notin => gd ((isTup a && isDict σ b) = false) ((pyIn σ a b).map (!·))

noncomputable def truth (σ : St) : D → Option Bool
 | .none => some false
 | .bool b => some b
 | .int i => some (i != 0)
 | .str s => gd (s.length ≤ big) (some (s.length != 0))
 | .tup xs => gd (xs.length ≤ big) (some (!xs.isEmpty))
 | .ref i => (lst σ i).bind fun xs => gd (xs.length ≤ big) (some (!xs.isEmpty))

noncomputable def nth (xs : List D) (i : Int) : Option D :=
 if 0 ≤ i then xs[i.toNat]? else gd (0 ≤ i + xs.length) xs[(i + xs.length).toNat]?
noncomputable def item (σ : St) (a k : D) : Option D := match a with
 | .tup xs => onInt k fun i => gd (xs.length ≤ big) (nth xs i)
 | .ref j => onOb σ[j]? (fun xs => onInt k fun i => gd (0 ≤ i ∧ xs.length ≤ big) xs[i.toNat]?) fun es => gd (keysOk es k = true) (dfind es k)
 | _ => none

noncomputable def sliceL (xs : List D) (l h : D) : Option (List D) := match l with
 | .none => onInt h fun h => gd (0 ≤ h) (some (xs.take h.toNat))
 | .int l => (match h with
  | .none => gd (0 ≤ l) (some (xs.drop l.toNat))
  | .int h => gd (0 ≤ l ∧ l ≤ h ∧ h ≤ xs.length) (some ((xs.drop l.toNat).take (h.toNat - l.toNat)))
  | _ => none)
 | _ => none
noncomputable def slice (σ : St) (d x y : D) : Option (D × St) := match d with
 | .ref i => (lst σ i).bind fun xs => gd (xs.length ≤ big) ((sliceL xs x y).bind fun ys => alloc (.list ys) σ)
 | .tup xs => onInt x fun l => onInt y fun h => gd (l = 1 ∧ h = -1 ∧ 2 ≤ xs.length ∧ xs.length ≤ big) (some (.tup ((xs.take (xs.length - 1)).drop 1), σ))
 | _ => none

noncomputable def boolsOf : List D → Option (List Bool)
 | [] => some []
 | d :: r => onBool d fun b => (boolsOf r).map (b :: ·)
noncomputable def intsOf : List D → Option (List Int)
 | [] => some []
 | d :: r => onInt d fun i => (intsOf r).map (i :: ·)

noncomputable def seqOf (σ : St) : D → Option (List D)
 | .tup xs => some xs
 | .ref i => lst σ i
 | _ => none

noncomputable def still (σ : St) (xs : List D) : D → Bool
 | .ref i => (lst σ i).any fun ys => D.beqs ys xs
 | _ => true

noncomputable def srt (ns : List Int) : List D := (ns.mergeSort (fun a b => decide (a ≤ b))).map .int
noncomputable def onSeq {α : Type} (d : D) (f : List D → Option α) (g : Nat → Option α) : Option α := match d with | .tup xs => f xs | .ref i => g i | _ => none
noncomputable def bi (f : Bi) (d : D) (σ : St) : Option (D × St) := match f with
 | .len => onSeq d (fun xs => gd (xs.length ≤ big) (some (.int xs.length, σ))) fun i => (lst σ i).bind fun xs => gd (xs.length ≤ big) (some (.int xs.length, σ))
 | .any => onRef d fun i => (lst σ i).bind fun xs => gd (xs.length ≤ big) ((boolsOf xs).map fun bs => (.bool (bs.any id), σ))
 | .all => onRef d fun i => (lst σ i).bind fun xs => gd (xs.length ≤ big) ((boolsOf xs).map fun bs => (.bool (bs.all id), σ))
 | .sorted => onRef d fun i => onOb σ[i]? (fun xs => (intsOf xs).bind fun ns => gd (ns.length < 64) (alloc (.list (srt ns)) σ)) fun es => (intsOf (es.map (·.1))).bind fun ns => gd (ns.length < 64) (alloc (.list (srt ns)) σ)
 | .tuple => onSeq d (fun xs => some (.tup xs, σ)) fun i => (lst σ i).bind fun xs => gd (xs.length ≤ big) (some (.tup xs, σ))
 | .str => onInt d fun i => gd (0 ≤ i ∧ i < 1000) (some (.str (Str.ofString (toString i)), σ))

noncomputable def bindT (t : Tgt) (d : D) (L : Loc) : Option Loc := match t with
 | .one x => some ((x, d) :: L)
 | .two x y => onTwo d fun a b => some ((y, b) :: (x, a) :: L)

noncomputable def setL (x : String) (d : D) : Loc → Loc
 | [] => [(x, d)]
 | (y, e) :: r => if x = y then (x, d) :: r else (y, e) :: setL x d r
noncomputable def setT (t : Tgt) (d : D) (L : Loc) : Option Loc := match t with
 | .one x => some (setL x d L)
 | .two x y => onTwo d fun a b => some (setL y b (setL x a L))

noncomputable def rangeOf (d : D) : Option (List D) := onInt d fun n => gd (-10000 ≤ n ∧ n ≤ 10000) (some ((List.range n.toNat).map fun (i : Nat) => D.int (i : Int)))
noncomputable def itemsOf (range : Bool) (d : D) (σ : St) : Option (List D) := match range with | true => rangeOf d | false => (seqOf σ d).bind fun xs => gd (xs.length ≤ big) (some xs)
noncomputable def stillR (range : Bool) (σ : St) (xs : List D) (d : D) : Bool := match range with | true => true | false => still σ xs d

noncomputable def compGo (ok : St → Bool) (turn : D → St → Option (Option D × St)) : List D → List D → St → Option (List D × St)
 | [], acc, σ => gd (ok σ = true) (some (acc, σ))
 | d :: ds, acc, σ => gd (ok σ = true) (bnd (turn d σ) fun r σ' => compGo ok turn ds (acc ++ r.toList) σ')

mutual
noncomputable def ev (c : Callee) (L : Loc) : CE → St → Option (D × St)
 | .stuck, _ => none
 | .lit d, σ => some (d, σ)
 | .var x, σ => (L.lookup x).map fun d => (d, σ)
 | .bin op l r, σ => bnd (ev c L l σ) fun a σ => bnd (ev c L r σ) fun b σ => bin op a b σ
 | .neg e, σ => bnd (ev c L e σ) fun a σ => onInt a fun i => some (.int (-i), σ)
 | .cmp op l r, σ => bnd (ev c L l σ) fun a σ => bnd (ev c L r σ) fun b σ => (cmp op a b σ).map fun t => (.bool t, σ)
 | .isNone e p, σ => bnd (ev c L e σ) fun a σ => some (.bool (decide (a = .none) == p), σ)
 | .and es, σ => evAnd c L es σ
 | .or es, σ => evOr c L es σ
 | .not e, σ => bnd (ev c L e σ) fun a σ => (truth σ a).map fun t => (.bool (!t), σ)
 | .ite t b o, σ => bnd (ev c L t σ) fun a σ => (truth σ a).bind fun v => cond v (ev c L b σ) (ev c L o σ)
 | .tup es, σ => bnd (evs c L es σ) fun ds σ => some (.tup ds, σ)
 | .list es, σ => bnd (evs c L es σ) fun ds σ => alloc (.list ds) σ
 | .dict ks es, σ => bnd (evs c L es σ) fun ds σ => gd (ks.length = ds.length ∧ ks.Nodup) (alloc (.dict ((ks.map .str).zip ds)) σ)
 | .sub e i, σ => bnd (ev c L e σ) fun a σ => bnd (ev c L i σ) fun k σ => (item σ a k).map fun d => (d, σ)
 | .slice e lo hi, σ => bnd (ev c L e σ) fun a σ => bnd (evO c L lo σ) fun x σ => bnd (evO c L hi σ) fun y σ =>
  slice σ a x y
 | .rev e, σ => bnd (ev c L e σ) fun a σ => onRef a fun i => (lst σ i).bind fun xs => gd (xs.length ≤ big) (alloc (.list xs.reverse) σ)
 | .attr e a, σ => bnd (ev c L e σ) fun d σ => onRef d fun i => (ins σ i).bind fun p => (p.2.lookup a).map fun d => (d, σ)
 | .call f es, σ => bnd (evs c L es σ) fun ds σ => c f ds σ
 | .new C es, σ => bnd (evs c L es σ) fun ds σ => bnd (alloc (.inst C []) σ) fun o σ => bnd (c (C ++ ".__init__") (o :: ds) σ) fun r σ => gd (r = .none) (some (o, σ))
 | .meth o m ms es, σ => bnd (ev c L o σ) fun d σ => onRef d fun i => (ins σ i).bind fun p => gd (p.2.lookup m = none) ((ms.lookup p.1).bind fun f => bnd (evs c L es σ) fun ds σ => c f (d :: ds) σ)
 | .bi f e, σ => bnd (ev c L e σ) fun d σ => bi f d σ
 | .max a b, σ => bnd (ev c L a σ) fun x σ => bnd (ev c L b σ) fun y σ => onInt x fun i => onInt y fun j => some (.int (max i j), σ)
 | .append o e, σ => bnd (ev c L o σ) fun d σ => onRef d fun i => gd (2 ≤ i ∧ (lst σ i).isSome = true) (bnd (ev c L e σ) fun x σ => (lst σ i).bind fun xs => gd (xs.length ≤ big) ((put σ i (.list (xs ++ [x]))).map fun σ => (.none, σ)))
 | .extend o e, σ => bnd (ev c L o σ) fun d σ => onRef d fun i => gd (2 ≤ i ∧ (lst σ i).isSome = true) (bnd (ev c L e σ) fun x σ => (lst σ i).bind fun xs => (seqOf σ x).bind fun ys =>
   gd (xs.length + ys.length ≤ big ∧ x ≠ .ref i ∧ x ≠ .ref 0 ∧ x ≠ .ref 1) ((put σ i (.list (xs ++ ys))).map fun σ => (.none, σ)))
 | .dget o k e, σ => bnd (ev c L o σ) fun d σ => onRef d fun i => gd ((dct σ i).isSome = true) (bnd (ev c L k σ) fun x σ => bnd (ev c L e σ) fun y σ => (dct σ i).bind fun es =>
   gd ((isInt x && es.all (fun e => isInt e.1)) = true) (some ((dfind es x).getD y, σ)))
 | .comp elt t range it cond, σ => bnd (ev c L it σ) fun d σ => (itemsOf range d σ).bind fun xs => bnd (compGo (fun σ => stillR range σ xs d) (fun x σ => (bindT t x L).bind fun L' =>
    bnd (evC c L' cond σ) fun b σ => match b with | true => bnd (ev c L' elt σ) fun y σ => some (some y, σ) | false => some (none, σ)) xs [] σ) fun ys σ => alloc (.list ys) σ
noncomputable def evO (c : Callee) (L : Loc) : Option CE → St → Option (D × St)
 | none, σ => some (.none, σ)
 | some e, σ => ev c L e σ
noncomputable def evC (c : Callee) (L : Loc) : Option CE → St → Option (Bool × St)
 | none, σ => some (true, σ)
 | some e, σ => bnd (ev c L e σ) fun a σ => (truth σ a).map fun t => (t, σ)
noncomputable def evs (c : Callee) (L : Loc) : List CE → St → Option (List D × St)
 | [], σ => some ([], σ)
 | e :: r, σ => bnd (ev c L e σ) fun d σ => bnd (evs c L r σ) fun ds σ => some (d :: ds, σ)
noncomputable def evAnd (c : Callee) (L : Loc) : List CE → St → Option (D × St)
 | [], _ => none
 | e :: r, σ => match r with
  | [] => ev c L e σ
  | _ :: _ => bnd (ev c L e σ) fun d σ => (truth σ d).bind fun v => cond v (evAnd c L r σ) (some (d, σ))
noncomputable def evOr (c : Callee) (L : Loc) : List CE → St → Option (D × St)
 | [], _ => none
 | e :: r, σ => match r with
  | [] => ev c L e σ
  | _ :: _ => bnd (ev c L e σ) fun d σ => (truth σ d).bind fun v => cond v (some (d, σ)) (evOr c L r σ)
end

set_option genCtorIdx true in
inductive Fl where
 | next (L : Loc) | cont (L : Loc) | ret (d : D)

noncomputable def forGo (ok : St → Bool) (turn : D → Loc → St → Option (Fl × St)) : List D → Loc → St → Option (Fl × St)
 | [], L, σ => gd (ok σ = true) (some (.next L, σ))
 | d :: ds, L, σ => gd (ok σ = true) (bnd (turn d L σ) fun f σ' => match f with
  | .next L' => forGo ok turn ds L' σ'
  | .cont L' => forGo ok turn ds L' σ'
  | .ret r => some (.ret r, σ'))

noncomputable def idle : D → Bool | .none => true | .int _ => true | .bool _ => true | _ => false
noncomputable def Fl.out (f : Fl) (σ : St) : Option (D × St) := match f with | .ret d => some (d, σ) | .next _ => some (.none, σ) | .cont _ => none
mutual
noncomputable def ex (c : Callee) : CS → Loc → St → Option (Fl × St)
 | .stuck, _, _ => none
 | .expr e, L, σ => bnd (ev c L e σ) fun d σ => gd (idle d = true) (some (.next L, σ))
 | .assign x e, L, σ => bnd (ev c L e σ) fun d σ => some (.next (setL x d L), σ)
 | .assign2 x y e, L, σ => bnd (ev c L e σ) fun d σ => onTwo d fun a b => some (.next (setL y b (setL x a L)), σ)
 | .setItem o i e, L, σ => bnd (ev c L e σ) fun v σ => bnd (ev c L o σ) fun d σ => bnd (ev c L i σ) fun k σ => onRef d fun j =>
   onOb σ[j]? (fun xs => onInt k fun n => gd (0 ≤ n ∧ n.toNat < xs.length ∧ xs.length ≤ big) ((put σ j (.list (xs.set n.toNat v))).map fun σ => (.next L, σ)))
    fun es => gd (keysOk es k = true ∧ es.length ≤ big) ((put σ j (.dict (dput es k v))).map fun σ => (.next L, σ))
 | .setAttr o a e, L, σ => bnd (ev c L e σ) fun v σ => bnd (ev c L o σ) fun d σ => onRef d fun j => (ins σ j).bind fun p => gd (p.2.length ≤ 100) ((put σ j (.inst p.1 (setL a v p.2))).map fun σ => (.next L, σ))
 | .ret e, L, σ => bnd (ev c L e σ) fun d σ => some (.ret d, σ)
 | .ite t b o, L, σ => bnd (ev c L t σ) fun d σ => (truth σ d).bind fun v => cond v (exs c b L σ) (exs c o L σ)
 | .loop t range it body, L, σ => bnd (ev c L it σ) fun d σ => (itemsOf range d σ).bind fun xs => forGo (fun σ => stillR range σ xs d) (fun x L σ => (setT t x L).bind fun L' => exs c body L' σ) xs L σ
 | .cont, L, σ => some (.cont L, σ)
noncomputable def exs (c : Callee) : List CS → Loc → St → Option (Fl × St)
 | [], L, σ => some (.next L, σ)
 | s :: r, L, σ => bnd (ex c s L σ) fun f σ => match f with
  | .next L => exs c r L σ
  | .cont L => some (.cont L, σ)
  | .ret d => some (.ret d, σ)
end

structure Fn where
 params : List String
 extra : List D
 body : List CS

noncomputable def callF (fns : String → Option Fn) : Nat → Callee
 | 0 => fun _ _ _ => none
 | n + 1 => fun f args σ => (fns f).bind fun fn => gd ((args ++ fn.extra).length = fn.params.length) (bnd (exs (callF fns n) fn.body (fn.params.zip (args ++ fn.extra)) σ) Fl.out)

theorem evs_c {c : Callee} {L : Loc} {e : CE} {r : List CE} {σ : St} : evs c L (e :: r) σ = bnd (ev c L e σ) fun d σ => bnd (evs c L r σ) fun ds σ => some (d :: ds, σ) := rfl
theorem dfind_n {x : D} : dfind [] x = none := rfl
theorem dfind_c {k d x : D} {r : List (D × D)} : dfind ((k, d) :: r) x = if k.beq x then some d else dfind r x := rfl
theorem dput_c {k d x v : D} {r : List (D × D)} : dput ((k, d) :: r) x v = if k.beq x then (k, v) :: r else (k, d) :: dput r x v := rfl
theorem setL_n {x : String} {d : D} : setL x d [] = [(x, d)] := rfl
theorem setL_c {x y : String} {d e : D} {r : Loc} : setL x d ((y, e) :: r) = if x = y then (x, d) :: r else (y, e) :: setL x d r := rfl
end Mine
end

section
namespace Mine
theorem w0 {prog : Program} {w : World} {A : Around} {α : Type} {m m' : Sem α} {Q : α → Shared → Prop} {E : Value → Shared → Prop} {s : Shared} (e : m = m') (h : wpAny (model prog w) A m' Q E s) : wpAny (model prog w) A m Q E s := e ▸ h
theorem cps_ofString (s : String) : (Str.ofString s).cps = (s.toList.map Char.toNat).toArray := by rw [Str.ofString_eq_toList]
theorem ofString_inj {a b : String} (h : Str.ofString a = Str.ofString b) : a = b := by
 have h1 : (Str.ofString a).cps = (Str.ofString b).cps := by rw [h]
 rw [cps_ofString, cps_ofString] at h1
 have h2 : a.toList.map Char.toNat = b.toList.map Char.toNat := by simpa using h1
 have inj : Function.Injective Char.toNat := fun x y e => by
  apply Char.ext
  exact UInt32.toNat_inj.mp e
 exact String.toList_inj.mp ((List.map_inj_right fun x y e => inj e).mp h2)
theorem ofString_eq_iff {a b : String} : Str.ofString a = Str.ofString b ↔ a = b := ⟨ofString_inj, fun h => by rw [h]⟩
theorem ofString_beq (a b : String) : (Str.ofString a == Str.ofString b) = (a == b) := by
 by_cases h : a = b
 ·subst h; simp
 ·rw [beq_eq_false_iff_ne.mpr h, beq_eq_false_iff_ne.mpr fun e => h (ofString_inj e)]
theorem strOk_ofString (s : String) : PyData.strOk (Str.ofString s) = true := by
 unfold PyData.strOk
 rw [cps_ofString]
 simp only [List.all_toArray, List.all_map, List.all_eq_true]
 intro c _
 have : c.toNat < 0x110000 := by
  have := c.valid
  rcases this with h | h
  ·have : c.toNat < 0xd800 := h
   lia
  ·exact h.2
 simpa using this

noncomputable abbrev Rho := List (Addr × Addr)

mutual
noncomputable def hashD (w : World) : D → Int
 | .int i => hashInt i
 | .str s => hashStr w s
 | .tup xs => reduceHash (Builtin.Tuple.tupleHashOf (hashDs w xs))
 | _ => 0
noncomputable def hashDs (w : World) : List D → List Int
 | [] => []
 | d :: r => hashD w d :: hashDs w r
end
mutual
noncomputable def drawsD : D → Nat
 | .tup xs => drawsDs xs + 1
 | _ => 1
noncomputable def drawsDs : List D → Nat
 | [] => 0
 | d :: r => drawsD d + drawsDs r
end

theorem hashD_tup {w : World} {xs : List D} : hashD w (.tup xs) = reduceHash (Builtin.Tuple.tupleHashOf (hashDs w xs)) := rfl
theorem drawsD_tup {xs : List D} : drawsD (.tup xs) = drawsDs xs + 1 := rfl
noncomputable def TupAt (h : Heap) (a : Addr) (items : Array Value) : Prop := ∃ n, h.get? a = some { cls := .type "tuple", data := .seq items n }
theorem TupAt.typeIs {s : Shared} {a : Addr} {items : Array Value} (t : TupAt s.heap a items) : s.TypeIs (.ref a) "tuple" := by obtain ⟨n, e⟩ := t; exact ⟨_, e, rfl⟩
theorem TupAt.isTup {h : Heap} {a : Addr} {items : Array Value} (t : TupAt h a items) : IsTup h a items := by obtain ⟨n, e⟩ := t; exact ⟨_, e, rfl, n, rfl⟩

inductive IntV (i : Int) : Value → Prop | mk (t : Tok) : IntV i (.int i t)
inductive StrV (s : Str) : Value → Prop | mk (t : Tok) : StrV s (.str s t)
inductive TupV (h : Heap) (P : List Value → Prop) : Value → Prop | mk (a : Addr) (items : Array Value) : TupAt h a items → P items.toList → TupV h P (.ref a)
inductive RefV (ρ : Rho) (i : Nat) : Value → Prop | mk (p : Addr × Addr) : ρ[i]? = some p → RefV ρ i (.ref p.1)
inductive ConsV (P : Value → Prop) (Q : List Value → Prop) : List Value → Prop | mk (v : Value) (r : List Value) : P v → Q r → ConsV P Q (v :: r)
theorem IntV.inv {i j : Int} {t : Tok} {v : Value} (x : IntV i v) (e : v = .int j t) : i = j := by obtain ⟨t⟩ := x; exact (Value.int.inj e).1
theorem StrV.inv {i j : Str} {t : Tok} {v : Value} (x : StrV i v) (e : v = .str j t) : i = j := by obtain ⟨t⟩ := x; exact (Value.str.inj e).1
inductive Has (α : Type) (P Q : α → Prop) : Prop | mk (a : α) : P a → Q a → Has α P Q
mutual
noncomputable def VR (h : Heap) (ρ : Rho) : D → Value → Prop
 | .none, v => v = .none
 | .bool b, v => v = .bool b
 | .int i, v => IntV i v
 | .str s, v => StrV s v
 | .tup xs, v => TupV h (VRs h ρ xs) v
 | .ref i, v => RefV ρ i v
noncomputable def VRs (h : Heap) (ρ : Rho) : List D → List Value → Prop
 | [], vs => vs = []
 | d :: ds, vs => ConsV (VR h ρ d) (VRs h ρ ds) vs
end
theorem VRs.nil {h : Heap} {ρ : Rho} : VRs h ρ [] [] := by exact rfl
theorem VRs.cons {h : Heap} {ρ : Rho} {d : D} {v : Value} {ds : List D} {vs : List Value} (a : VR h ρ d v) (b : VRs h ρ ds vs) : VRs h ρ (d :: ds) (v :: vs) := by exact ⟨v, vs, a, b⟩
theorem VRs.inv {h : Heap} {ρ : Rho} {d : D} {ds : List D} {vs : List Value} (x : VRs h ρ (d :: ds) vs) : ConsV (VR h ρ d) (VRs h ρ ds) vs := by exact x
theorem VRs.inv0 {h : Heap} {ρ : Rho} {vs : List Value} (x : VRs h ρ [] vs) : vs = [] := by exact x
theorem TupV.inv {h : Heap} {P : List Value → Prop} {a : Addr} {v : Value} (x : TupV h P v) (e : v = .ref a) : Has (Array Value) (TupAt h a) (fun items => P items.toList) := by
 cases x with
 | mk b items t r => rw [Value.ref.inj e] at t; exact ⟨items, t, r⟩
theorem TupAt.same {h : Heap} {a : Addr} {i j : Array Value} (x : TupAt h a i) (y : TupAt h a j) : i = j := by
 obtain ⟨n, e⟩ := x
 obtain ⟨m, e'⟩ := y
 have := e.symm.trans e'
 injection this with this
 injection this with _ _ this
 injection this

mutual
theorem VR.mono {h h' : Heap} {ρ ρ' : Rho} (hp : ∀ (i : Nat) (p : Addr × Addr), ρ[i]? = some p → ρ'[i]? = some p) (ht : ∀ a items, TupAt h a items → TupAt h' a items) : ∀ (d : D) (v : Value), VR h ρ d v → VR h' ρ' d v
 | .none, _, x => x
 | .bool _, _, x => x
 | .int _, _, x => x
 | .str _, _, x => x
 | .tup xs, _, ⟨a, items, t, r⟩ => ⟨a, items, ht _ _ t, VRs.mono hp ht xs _ r⟩
 | .ref _, _, ⟨p, e⟩ => ⟨p, hp _ _ e⟩
theorem VRs.mono {h h' : Heap} {ρ ρ' : Rho} (hp : ∀ (i : Nat) (p : Addr × Addr), ρ[i]? = some p → ρ'[i]? = some p) (ht : ∀ a items, TupAt h a items → TupAt h' a items) : ∀ (ds : List D) (vs : List Value), VRs h ρ ds vs → VRs h' ρ' ds vs
 | [], _, x => x
 | d :: ds, _, ⟨v, r, a, b⟩ => ⟨v, r, VR.mono hp ht d v a, VRs.mono hp ht ds r b⟩
end

theorem VRs.length {h : Heap} {ρ : Rho} {ds : List D} : ∀ {vs : List Value}, VRs h ρ ds vs → ds.length = vs.length := by
 induction ds with
 | nil => intro vs x; rw [x.inv0]; rfl
 | cons d ds ih => rintro vs ⟨v, r, a, b⟩; exact congrArg Nat.succ (ih (vs := r) b)
theorem VRs.get {h : Heap} {ρ : Rho} {d : D} {ds : List D} : ∀ {vs : List Value} {i : Nat}, VRs h ρ ds vs → ds[i]? = some d → Has Value (fun v => vs[i]? = some v) (VR h ρ d) := by
 induction ds with
 | nil => intro _ _ _ e; cases e
 | cons d' ds ih =>
  rintro vs i ⟨v, r, a, b⟩ e
  cases i with
  | zero => exact ⟨v, rfl, Option.some.inj e ▸ a⟩
  | succ i => exact ih (vs := r) b e
theorem VRs.append {h : Heap} {ρ : Rho} {ds ds' : List D} {vs' : List Value} (y : VRs h ρ ds' vs') : ∀ {vs : List Value}, VRs h ρ ds vs → VRs h ρ (ds ++ ds') (vs ++ vs') := by
 induction ds with
 | nil => intro vs x; rw [x.inv0]; exact y
 | cons d ds ih => rintro vs ⟨v, r, a, b⟩; exact VRs.cons a (ih (vs := r) b)
theorem VRs.take {h : Heap} {ρ : Rho} {ds : List D} : ∀ {vs : List Value} (n : Nat), VRs h ρ ds vs → VRs h ρ (ds.take n) (vs.take n) := by
 induction ds with
 | nil => intro vs n x; rw [x.inv0, List.take_nil]; cases n <;> exact .nil
 | cons d ds ih =>
  rintro vs n ⟨v, r, a, b⟩
  cases n with
  | zero => exact .nil
  | succ n => exact .cons a (ih n b)
theorem VRs.drop {h : Heap} {ρ : Rho} {ds : List D} : ∀ {vs : List Value} (n : Nat), VRs h ρ ds vs → VRs h ρ (ds.drop n) (vs.drop n) := by
 induction ds with
 | nil => intro vs n x; rw [x.inv0, List.drop_nil]; cases n <;> exact .nil
 | cons d ds ih =>
  intro vs n x
  cases n with
  | zero => exact x
  | succ n => obtain ⟨v, r, a, b⟩ := x; exact ih n b
theorem VRs.reverse {h : Heap} {ρ : Rho} {ds : List D} : ∀ {vs : List Value}, VRs h ρ ds vs → VRs h ρ ds.reverse vs.reverse := by
 induction ds with
 | nil => intro vs x; rw [x.inv0]; exact .nil
 | cons d ds ih => rintro vs ⟨v, r, a, b⟩; rw [List.reverse_cons, List.reverse_cons]; exact VRs.append (.cons a .nil) (ih b)

mutual
noncomputable def toP : D → PyData
 | .int i => .int i
 | .str s => .str s
 | .tup xs => .tuple (toPs xs)
 | _ => .none
noncomputable def toPs : List D → List PyData
 | [] => []
 | d :: r => toP d :: toPs r
end

inductive Flat : Nat → D → Prop
 | int (n : Nat) (i : Int) : Flat n (.int i)
 | str (n : Nat) (s : Str) : PyData.strOk s = true → Flat n (.str s)
 | tup (n : Nat) (xs : List D) : (∀ d ∈ xs, Flat n d) → Flat (n + 1) (.tup xs)
theorem Flat.of {n : Nat} : ∀ {d : D}, flat n d = true → Flat n d := by
 induction n with
 | zero =>
  intro d f
  cases d with
  | int i => exact .int _ i
  | str s => exact .str _ s f
  | _ => exact (Bool.false_ne_true f).elim
 | succ n ih =>
  intro d f
  cases d with
  | int i => exact .int _ i
  | str s => exact .str _ s f
  | tup xs => exact .tup _ xs fun d hd => ih (List.all_eq_true.mp f d hd)
  | _ => exact (Bool.false_ne_true f).elim

noncomputable def Rd (h : Heap) (ρ : Rho) (d : D) : Prop := ∀ v, VR h ρ d v → ∃ as, Reads h v (toP d) as
theorem readsAll {h : Heap} {ρ : Rho} {ds : List D} (f : ∀ d ∈ ds, Rd h ρ d) : ∀ {vs : List Value}, VRs h ρ ds vs → ∃ as, ReadsAll h vs (toPs ds) as := by
 induction ds with
 | nil => intro vs x; rw [x.inv0]; exact ⟨_, .nil⟩
 | cons d ds ih =>
  rintro vs ⟨v, r, a, b⟩
  obtain ⟨as, q⟩ := f d (.head _) v a
  obtain ⟨bs, p⟩ := ih (fun d hd => f d (.tail _ hd)) b
  exact ⟨_, .cons q p⟩
theorem Rd.of {h : Heap} {ρ : Rho} {n : Nat} {d : D} (f : Flat n d) : Rd h ρ d := by
 induction f with
 | int n i => rintro v ⟨t⟩; exact ⟨_, .int i t⟩
 | str n s => rintro v ⟨t⟩; exact ⟨_, .str s t⟩
 | tup n xs _ ih =>
  rintro v ⟨a, items, t, r⟩
  obtain ⟨o, ho, hc, k, hd⟩ := t.isTup
  obtain ⟨as, q⟩ := readsAll ih r
  exact ⟨as, .tuple ho hc hd q⟩
theorem reads_of {h : Heap} {ρ : Rho} (n : Nat) (d : D) (v : Value) (f : flat n d = true) (x : VR h ρ d v) : ∃ as, Reads h v (toP d) as := Rd.of (.of f) v x
theorem readsAll_of {h : Heap} {ρ : Rho} (n : Nat) (ds : List D) (vs : List Value) (f : ∀ d ∈ ds, flat n d = true) (x : VRs h ρ ds vs) : ∃ as, ReadsAll h vs (toPs ds) as := readsAll (fun d hd => Rd.of (.of (f d hd))) x

structure Lay (n : Nat) (d : PyData) : Prop where
 can : d.canLay0 = true
 dep : d.depth ≤ n
structure Lays (n : Nat) (d : List PyData) : Prop where
 can : PyData.canLayAll0 d = true
 dep : PyData.depthAll d ≤ n
theorem Lays.cons {n : Nat} {d : PyData} {ds : List PyData} (a : Lay n d) (b : Lays n ds) : Lays n (d :: ds) := ⟨congr (congrArg and a.can) b.can, Nat.max_le.mpr ⟨a.dep, b.dep⟩⟩
theorem layAll {n : Nat} {ds : List D} (f : ∀ d ∈ ds, Lay n (toP d)) : Lays n (toPs ds) := by
 induction ds with
 | nil => exact ⟨rfl, Nat.zero_le _⟩
 | cons d ds ih => exact .cons (f d (.head _)) (ih fun d hd => f d (.tail _ hd))
theorem Flat.lay {n : Nat} {d : D} (f : Flat n d) : Lay n (toP d) := by
 induction f with
 | int n i => exact ⟨rfl, Nat.zero_le _⟩
 | str n s h => exact ⟨h, Nat.zero_le _⟩
 | tup n xs _ ih => exact ⟨(layAll ih).can, Nat.succ_le_succ (layAll ih).dep⟩
theorem lay_of (n : Nat) (d : D) (f : flat n d = true) : Lay n (toP d) := (Flat.of f).lay
theorem layAll_of (n : Nat) (ds : List D) (f : ∀ d ∈ ds, flat n d = true) : Lays n (toPs ds) := layAll fun d hd => lay_of n d (f d hd)

theorem eqvAll {n : Nat} {as : List D} (f : ∀ a ∈ as, ∀ b, Flat n b → PyData.eqv (toP a) (toP b) = D.beq a b) : ∀ {bs : List D}, (∀ b ∈ bs, Flat n b) → PyData.eqvAll (toPs as) (toPs bs) = D.beqs as bs := by
 induction as with
 | nil => intro bs _; cases bs <;> rfl
 | cons a as ih =>
  intro bs g
  cases bs with
  | nil => rfl
  | cons b bs => exact congr (congrArg and (f a (.head _) b (g b (.head _)))) (ih (fun a ha => f a (.tail _ ha)) fun b hb => g b (.tail _ hb))
theorem Flat.eqv {n : Nat} {a : D} (f : Flat n a) : ∀ b, Flat n b → PyData.eqv (toP a) (toP b) = D.beq a b := by
 induction f with
 | int n i => intro b g; cases g <;> rfl
 | str n s h => intro b g; cases g <;> rfl
 | tup n xs _ ih =>
  intro b g
  cases g with
  | tup _ ys g => exact eqvAll ih g
  | int => rfl
  | str => rfl
theorem eqv_of (n : Nat) (a b : D) (f : flat n a = true) (g : flat n b = true) : PyData.eqv (toP a) (toP b) = D.beq a b := (Flat.of f).eqv b (.of g)
theorem eqvAll_of (n : Nat) (as bs : List D) (f : ∀ d ∈ as, flat n d = true) (g : ∀ d ∈ bs, flat n d = true) : PyData.eqvAll (toPs as) (toPs bs) = D.beqs as bs := eqvAll (fun a ha => (Flat.of (f a ha)).eqv) fun b hb => .of (g b hb)

theorem VRs.flat' {h : Heap} {ρ ρ' : Rho} {ds : List D} (f : ∀ d ∈ ds, ∀ v, VR h ρ d v → VR h ρ' d v) : ∀ {vs : List Value}, VRs h ρ ds vs → VRs h ρ' ds vs := by
 induction ds with
 | nil => exact fun x => x
 | cons d ds ih => rintro vs ⟨v, r, a, b⟩; exact ⟨v, r, f d (.head _) v a, ih (fun d hd => f d (.tail _ hd)) b⟩
theorem Flat.vr {h : Heap} {ρ ρ' : Rho} {n : Nat} {d : D} (f : Flat n d) : ∀ v, VR h ρ d v → VR h ρ' d v := by
 induction f with
 | int => exact fun _ x => x
 | str => exact fun _ x => x
 | tup n xs _ ih => rintro v ⟨a, items, t, r⟩; exact ⟨a, items, t, VRs.flat' ih r⟩
theorem VR.flat {h : Heap} {ρ ρ' : Rho} (n : Nat) (d : D) (v : Value) (f : Mine.flat n d = true) (x : VR h ρ d v) : VR h ρ' d v := (Flat.of f).vr v x

theorem VRs.inj' {h : Heap} {ρ : Rho} {n : Nat} {as : List D} (f : ∀ a ∈ as, ∀ b v, Flat n b → VR h ρ a v → VR h ρ b v → a = b) : ∀ {bs : List D} {vs : List Value}, (∀ b ∈ bs, Flat n b) → VRs h ρ as vs → VRs h ρ bs vs → as = bs := by
 induction as with
 | nil =>
  intro bs vs _ x y
  have := x.inv0
  subst this
  exact (List.eq_nil_of_length_eq_zero y.length).symm
 | cons a as ih =>
  rintro bs vs g ⟨v, r, xa, xb⟩ y
  cases bs with
  | nil => cases y.inv0
  | cons b bs =>
   cases y with
   | mk v r ya yb => rw [f a (.head _) b v (g b (.head _)) xa ya, ih (fun a ha => f a (.tail _ ha)) (fun b hb => g b (.tail _ hb)) xb yb]
theorem Flat.inj {h : Heap} {ρ : Rho} {n : Nat} {a : D} (f : Flat n a) : ∀ b v, Flat n b → VR h ρ a v → VR h ρ b v → a = b := by
 induction f with
 | int n i =>
  rintro b v g ⟨t⟩ y
  cases g with
  | int => rw [IntV.inv y rfl]
  | _ => exact nomatch y
 | str n s _ =>
  rintro b v g ⟨t⟩ y
  cases g with
  | str => rw [StrV.inv y rfl]
  | _ => exact nomatch y
 | tup n xs _ ih =>
  rintro b v g ⟨a, items, t, r⟩ y
  cases g with
  | tup _ ys g =>
   obtain ⟨items', t', r'⟩ := TupV.inv y rfl
   rw [t'.same t] at r'
   rw [VRs.inj' ih g r r']
  | _ => exact nomatch y
theorem VR.inj {h : Heap} {ρ : Rho} (n : Nat) (a b : D) (v : Value) (f : Mine.flat n a = true) (g : Mine.flat n b = true) (x : VR h ρ a v) (y : VR h ρ b v) : a = b := (Flat.of f).inj b v (.of g) x y

section
variable {prog : Program} {w : World} {E : Value → Shared → Prop}

theorem eqBool_flat {A : Around} {s : Shared} {ρ : Rho} {n : Nat} {a b : D} {u v : Value} {Q : Bool → Shared → Prop} (hu : A.units + n < cLine) (fa : flat n a = true) (fb : flat n b = true) (x : VR s.heap ρ a u) (y : VR s.heap ρ b v)
  (h : Q (decide (a = b)) s) : wpAny (model prog w) A (eqBool u v) Q E s := by
 obtain ⟨as, ra⟩ := reads_of n a u fa x
 obtain ⟨bs, rb⟩ := reads_of n b v fb y
 have la := lay_of n a fa
 have lb := lay_of n b fb
 refine SeqAt.eqAt_reads _ _ A s u v as bs ra rb la.1 lb.1 ?_ prog w E Q ?_
 ·have : min (toP a).depth (toP b).depth ≤ n := Nat.le_trans (Nat.min_le_left _ _) la.2
  lia
 ·rw [eqv_of n a b fa fb, D.beq_eq]; exact h

noncomputable def HashP (prog : Program) (w : World) (E : Value → Shared → Prop) (ρ : Rho) (n : Nat) (d : D) : Prop := ∀ {A : Around} {s : Shared} {v : Value} {Q : Int → Shared → Prop}, A.units + n < cLine → VR s.heap ρ d v → Q (hashD w d) { s with toks := s.toks + drawsD d } → wpAny (model prog w) A (pyHash v) Q E s
theorem hashes_flat {ρ : Rho} {n : Nat} {ds : List D} (f : ∀ d ∈ ds, HashP prog w E ρ n d) : ∀ {A : Around} {s : Shared} {vs : List Value} {b : Array Int}, A.units + n < cLine → VRs s.heap ρ ds vs →
  wpAny (model prog w) A (forIn vs b fun v r => do let y ← pyHash v; pure (ForInStep.yield (r.push y))) (fun r s' => r.toList = b.toList ++ hashDs w ds ∧ s' = { s with toks := s.toks + drawsDs ds }) E s := by
 induction ds with
 | nil =>
  intro A s vs b hu x
  rw [x.inv0, List.forIn_nil]
  exact wpAny_pure ⟨(List.append_nil _).symm, rfl⟩
 | cons d ds ih =>
  rintro A s vs b hu ⟨v, r, xa, xb⟩
  rw [List.forIn_cons]
  refine wpAny_bind (wpAny_bind (f d (.head _) hu xa (wpAny_pure ?_)))
  refine wpAny_mono (ih (fun d hd => f d (.tail _ hd)) (s := { s with toks := s.toks + drawsD d }) hu xb) (fun q s' hq => ?_) fun _ _ e => e
  rw [hq.1, hq.2]
  exact ⟨by rw [Array.toList_push, List.append_assoc]; rfl, by rw [drawsDs, Nat.add_assoc]⟩
theorem Flat.hash {ρ : Rho} {n : Nat} {d : D} (f : Flat n d) : HashP prog w E ρ n d := by
 induction f with
 | int n i => rintro A s v Q hu ⟨t⟩ h; exact wpAny_pyHash_int h
 | str n i => rintro A s v Q hu ⟨t⟩ h; exact wpAny_pyHash_str h
 | tup n xs _ ih =>
  rintro A s v Q hu ⟨a, items, t, r⟩ h
  have hT : s.TypeIs (.ref a) "tuple" := t.typeIs
  unfold pyHash
  first | unfold pyHashByItsType | skip
  refine wpAny_bind (wpAny_cRoomFor_or (.inr (by lia)) ?_)
  refine wpAny_bind (wpAny_specialOf hT F.slot_tuple_hash.lookup ?_)
  refine (?_ : wpAny _ _ (if (some (Value.builtin "tuple.__hash__") == some Value.none) = true then _ else _) Q E s)
  rw [if_neg (by rw [beq_builtin_none]; exact Bool.false_ne_true)]
  refine wpAny_bind (wpAny_specialOf hT F.slot_tuple_hash.lookup ?_)
  refine (?_ : wpAny _ _ (callSpecialIfBoundUnlessNone? (.ref a) "__hash__" _ >>= _) Q E s)
  refine wpAny_bind (wpAny_callSpecialIfBoundUnlessNone?_slot hT F.slot_tuple_hash (wpAny_call_entry F.slot_tuple_hash hT F.entry_tuple_hash ?_ (F.args_tuple_hash_1 _)))
  refine (?_ : wpAny _ _ (Builtin.Tuple.tupleItemsOf (.ref a) >>= _) _ _ s)
  refine wpAny_bind (tupleItemsOf_ t.isTup ?_)
  refine wpAny_bind ?_
  rw [← Array.forIn_toList]
  refine wpAny_mono (hashes_flat ih (A := A.in1) (by show A.units + 1 + n < cLine; lia) r (b := #[])) (fun b s' hb => ?_) fun _ _ e => e
  rw [hb.2]
  refine (?_ : wpAny _ _ (retInt (Builtin.Tuple.tupleHashOf b.toList)) _ _ _)
  rw [hb.1]
  refine wpAny_ret_mkInt ?_
  refine (?_ : wpAny _ _ (if (decide (-(2 : Int) ^ 63 ≤ Builtin.Tuple.tupleHashOf (hashDs w xs)) && decide (Builtin.Tuple.tupleHashOf (hashDs w xs) < 2 ^ 63)) = true then _ else _) Q E _)
  have e1 : reduceHash (Builtin.Tuple.tupleHashOf (hashDs w xs)) = if (decide (-(2 : Int) ^ 63 ≤ Builtin.Tuple.tupleHashOf (hashDs w xs)) && decide (Builtin.Tuple.tupleHashOf (hashDs w xs) < 2 ^ 63)) = true then (if Builtin.Tuple.tupleHashOf (hashDs w xs) == -1 then -2 else Builtin.Tuple.tupleHashOf (hashDs w xs)) else _ := rfl
  rw [hashD_tup, drawsD_tup] at h
  by_cases hr : (decide (-(2 : Int) ^ 63 ≤ Builtin.Tuple.tupleHashOf (hashDs w xs)) && decide (Builtin.Tuple.tupleHashOf (hashDs w xs) < 2 ^ 63)) = true
  ·rw [if_pos hr]
   rw [e1, if_pos hr] at h
   exact wpAny_pure h
  ·rw [if_neg hr]
   rw [e1, if_neg hr] at h
   exact wpAny_bind (wpAny_rule (wpAny_pure h))
theorem pyHash_flat {ρ : Rho} (n : Nat) (d : D) {A : Around} {s : Shared} {v : Value} {Q : Int → Shared → Prop} (f : flat n d = true) (hu : A.units + n < cLine) (x : VR s.heap ρ d v) (h : Q (hashD w d) { s with toks := s.toks + drawsD d }) :
  wpAny (model prog w) A (pyHash v) Q E s := (Flat.of f).hash hu x h
end
end Mine
end

section
namespace Mine
theorem isSub_tt : isSubtype (.type "tuple") (.type "tuple") = pure true := by rw [isSubtype_type]; kernel_rfl

noncomputable def QuietP (prog : Program) (w : World) (E : Value → Shared → Prop) (ρ : Rho) (n : Nat) (d : D) : Prop := ∀ {A : Around} {m : Nat} {s : Shared} {v : Value} {Q : Bool → Shared → Prop}, n ≤ m → VR s.heap ρ d v → Q true s → wpAny (model prog w) A (eqIsQuiet m v) Q E s
theorem Flat.quiet {prog : Program} {w : World} {E : Value → Shared → Prop} {ρ : Rho} {n : Nat} {d : D} (f : Flat n d) : QuietP prog w E ρ n d := by
 induction f with
 | int n i => rintro A m s v Q - ⟨t⟩ h; rw [eqIsQuiet_byValue _ rfl]; exact wpAny_pure h
 | str n i => rintro A m s v Q - ⟨t⟩ h; rw [eqIsQuiet_byValue _ rfl]; exact wpAny_pure h
 | tup n xs _ ih =>
  rintro A m s v Q hm ⟨a, items, t, r⟩ h
  obtain ⟨m, rfl⟩ : ∃ k, m = k + 1 := ⟨m - 1, by lia⟩
  have hT : s.TypeIs (.ref a) "tuple" := t.typeIs
  obtain ⟨k, ho⟩ := t
  unfold eqIsQuiet
  refine wpAny_bind (wpAny_specialOf hT F.slot_tuple_eq.lookup ?_)
  refine wpAny_bind (m := isInstance (.ref a) (.type "tuple")) (wpAny_isInstance hT isSub_tt ?_)
  refine wpAny_bind (wpAny_seqItems ho rfl ?_)
  refine wpAny_bind ?_
  refine (?_ : wpAny _ _ (forIn items _ _) _ _ s)
  rw [← Array.forIn_toList]
  refine wpAny_forIn_list _ (fun rest r s' => E1C4 (fun (ds : List D) => r.1 = none) (fun _ => s' = s) (fun ds => ∀ d ∈ ds, QuietP prog w E ρ n d) (fun ds => VRs s.heap ρ ds rest)) _ ?_ ?_ _ _ ⟨xs, rfl, rfl, ih, r⟩
  ·rintro v rest r s' ⟨ds, hr, rfl, hf, hv⟩
   cases ds with
   | nil => cases hv.inv0
   | cons d ds =>
    obtain ⟨_, _, xa, xb⟩ := hv.inv
    exact wpAny_bind (hf d (.head _) (Nat.le_of_succ_le_succ hm) xa (wpAny_pure ⟨ds, rfl, rfl, fun e he => hf e (.tail _ he), xb⟩))
  ·rintro ⟨_, r2⟩ s' ⟨_, rfl, rfl, _, _⟩
   exact wpAny_pure h
theorem eqIsQuiet_flat {prog : Program} {w : World} {A : Around} {E : Value → Shared → Prop} {ρ : Rho} (n : Nat) (d : D) {m : Nat} {s : Shared} {v : Value} {Q : Bool → Shared → Prop} (f : flat n d = true) (hm : n ≤ m) (x : VR s.heap ρ d v) (h : Q true s) :
  wpAny (model prog w) A (eqIsQuiet m v) Q E s := (Flat.of f).quiet hm x h

noncomputable def TupKey (h : Heap) (ds : List D) (a : Addr) : Prop := flat 6 (.tup ds) = true ∧ VR h [] (.tup ds) (.ref a)

noncomputable def tupKind (prog : Program) (w : World) : HeapKind prog w (List D) where
 is := TupKey
 hash := fun ds => hashD w (.tup ds)
 draws := fun ds => drawsD (.tup ds)
 room := fun A => A.units + 8 < cLine
 inj := fun hx hy => D.tup.inj (VR.inj 6 _ _ _ hx.1 hy.1 hx.2 hy.2)
 keeps := fun {h h' k a d o es ep} hx ho hd hs => ⟨hx.1, VR.mono (fun _ _ e => e) (fun b items ⟨n, e'⟩ => by
  refine ⟨n, (hs.2 b fun q => ?_).trans e'⟩
  subst q
  rw [ho] at e'; cases e'; cases hd) _ _ hx.2⟩
 pyHash := fun hu hk h => pyHash_flat 6 _ hk.1 (by lia) hk.2 h
 eqBool := fun {A E s x y a b Q} hu hx hy h => eqBool_flat (n := 6) (by lia) hx.1 hy.1 hx.2 hy.2 (by simpa [D.tup.injEq] using h)
 quiet := fun hk h => eqIsQuiet_flat 6 _ hk.1 (by lia) hk.2 h

structure Cx where
 prog : Program
 w : World
 K : Frag
 B : Heap
 cl : String → Addr
 consts : String → Option D
 fa : String → Option Addr
 fns : String → Option Fn

inductive FRc (k : Str) (P : Value → Prop) (Q : List DictEntry → Prop) : List DictEntry → Prop | mk (e : DictEntry) (q : List DictEntry) (t : Tok) : e.key = .str k t → P e.val → Q q → FRc k P Q (e :: q)
noncomputable def FRs (h : Heap) (ρ : Rho) : List (String × D) → List DictEntry → Prop
 | [], es => es = []
 | x :: r, es => FRc (Str.ofString x.1) (VR h ρ x.2) (FRs h ρ r) es

inductive KVc {K : Type} (enc : K → D) (d : D) (P : Value → Prop) (Q : List (K × Value) → Prop) : List (K × Value) → Prop | mk (k : K) (v : Value) (q : List (K × Value)) : d = enc k → P v → Q q → KVc enc d P Q ((k, v) :: q)
noncomputable def KV {K : Type} (h : Heap) (ρ : Rho) (enc : K → D) : List (D × D) → List (K × Value) → Prop
 | [], l => l = []
 | x :: r, l => KVc enc x.1 (VR h ρ x.2) (KV h ρ enc r) l

inductive DictIs (X : Cx) (h : Heap) (ρ : Rho) (a : Addr) (es : List (D × D)) : Prop
 | int (kvs : List (Int × Value)) : h.DictOf (intKind X.prog X.w) a kvs → KV h ρ D.int es kvs → DictIs X h ρ a es
 | str (kvs : List (Str × Value)) : h.DictOf (strKind X.prog X.w) a kvs → KV h ρ D.str es kvs → DictIs X h ρ a es
 | tup (xs : List (List D × Addr × Value)) : h.DictOfH (tupKind X.prog X.w) a xs → KV h ρ D.tup es (xs.map fun x => (x.1, x.2.2)) → DictIs X h ρ a es

theorem KV.mono {K : Type} {enc : K → D} {h h' : Heap} {ρ ρ' : Rho} (hp : ∀ (i : Nat) (p : Addr × Addr), ρ[i]? = some p → ρ'[i]? = some p) (ht : ∀ a items, TupAt h a items → TupAt h' a items) (ds : List (D × D)) : ∀ (es : List (K × Value)), KV h ρ enc ds es → KV h' ρ' enc ds es := by
 induction ds with
 | nil => exact fun _ x => x
 | cons x r ih => rintro _ ⟨k, v, q, a, b, d⟩; exact ⟨k, v, q, a, VR.mono hp ht _ _ b, ih q d⟩
theorem DictOf.mono {prog : Program} {w : World} {K : Type} [DecidableEq K] {knd : KeyKind prog w K} {h h' : Heap} {a : Addr} {kvs : List (K × Value)} (k : ∀ o, h.get? a = some o → h'.get? a = some o) (x : h.DictOf knd a kvs) : h'.DictOf knd a kvs := by
 obtain ⟨o, b, c, e, r⟩ := x; exact ⟨o, b, c, k _ e, r⟩
theorem DictIs.mono {X : Cx} {h h' : Heap} {ρ ρ' : Rho} {a : Addr} {es : List (D × D)} (hp : ∀ (i : Nat) (p : Addr × Addr), ρ[i]? = some p → ρ'[i]? = some p) (ht : ∀ a items, TupAt h a items → TupAt h' a items)
  (k : ∀ o, h.get? a = some o → h'.get? a = some o) (x : DictIs X h ρ a es) : DictIs X h' ρ' a es := by
 cases x with
 | int kvs d q => exact .int kvs (DictOf.mono k d) (KV.mono hp ht _ _ q)
 | str kvs d q => exact .str kvs (DictOf.mono k d) (KV.mono hp ht _ _ q)
 | tup xs d q =>
  obtain ⟨o, b, c, e, r1, r2, r3, r4, r5⟩ := d
  exact .tup xs ⟨o, b, c, k _ e, r1, r2, r3, fun y hy => ⟨(r4 y hy).1, VR.mono (fun _ _ e => e) ht _ _ (r4 y hy).2⟩, r5⟩ (KV.mono hp ht _ _ q)
inductive DAt (h : Heap) (a : Addr) : Prop | mk (o : Obj) (arr : Array DictEntry) (n : Nat) : h.get? a = some o → o.ExactDict → o.data = .dict arr n → DAt h a
theorem DictIs.at_ {X : Cx} {h : Heap} {ρ : Rho} {a : Addr} {es : List (D × D)} (x : DictIs X h ρ a es) : DAt h a := by
 cases x with
 | int kvs d => obtain ⟨o, b, c, e, r1, r2, _⟩ := d; exact ⟨o, b, c, e, r1, r2⟩
 | str kvs d => obtain ⟨o, b, c, e, r1, r2, _⟩ := d; exact ⟨o, b, c, e, r1, r2⟩
 | tup kvs d => obtain ⟨o, b, c, e, r1, r2, _⟩ := d; exact ⟨o, b, c, e, r1, r2⟩
inductive LstIs (X : Cx) (h : Heap) (ρ : Rho) (p : Addr × Addr) (xs : List D) : Prop | mk (items : Array Value) : p.2 = p.1 → (X.B.get? p.1 = none → ∀ o, h.get? p.1 = some o → o.dict = none ∧ o.slots = #[]) → h.IsList p.1 items → VRs h ρ xs items.toList → LstIs X h ρ p xs
structure DctIs (X : Cx) (h : Heap) (ρ : Rho) (p : Addr × Addr) (es : List (D × D)) : Prop where
 one : p.2 = p.1
 low : (p.1 == sysModules) = false
 is : DictIs X h ρ p.1 es
inductive InsIs (X : Cx) (h : Heap) (ρ : Rho) (p : Addr × Addr) (C : String) (fs : List (String × D)) : Prop | mk (ds : List DictEntry) (n : Nat) : p.1 ≠ p.2 → h.get? p.1 = some (instObj (X.cl C) p.2) → h.get? p.2 = some (dictOf ds n) → FRs h ρ fs ds → InsIs X h ρ p C fs
noncomputable def ObIs (X : Cx) (h : Heap) (ρ : Rho) (p : Addr × Addr) : Ob → Prop
 | .list xs => LstIs X h ρ p xs
 | .dict es => DctIs X h ρ p es
 | .inst C fs => InsIs X h ρ p C fs

noncomputable def NotOwn (ρ : Rho) (a : Addr) : Prop := ∀ p ∈ ρ, a ≠ p.1 ∧ a ≠ p.2

structure Inv (X : Cx) (ρ : Rho) (σ : St) (h : Heap) : Prop where
 keepB : ∀ a o, X.B.get? a = some o → h.get? a = some o
 len : ρ.length = σ.length
 obj : ∀ (i : Nat) (p : Addr × Addr) (ob : Ob), ρ[i]? = some p → σ[i]? = some ob → ObIs X h ρ p ob
 sep : ∀ (i j : Nat) (p q : Addr × Addr), ρ[i]? = some p → ρ[j]? = some q → i ≠ j → p.1 ≠ q.1 ∧ p.1 ≠ q.2 ∧ p.2 ≠ q.1 ∧ p.2 ≠ q.2
 new : ∀ (i : Nat) (p : Addr × Addr), ρ[i]? = some p → 2 ≤ i → X.B.get? p.1 = none ∧ X.B.get? p.2 = none

structure Step (F : List Addr) (ρ : Rho) (h : Heap) (ρ' : Rho) (h' : Heap) : Prop where
 pre : ρ <+: ρ'
 keep : ∀ a o, h.get? a = some o → a ∉ F → NotOwn ρ a → h'.get? a = some o
 fresh : ∀ p ∈ ρ', p ∈ ρ ∨ (h.get? p.1 = none ∧ h.get? p.2 = none)
 live : ∀ a o, h.get? a = some o → ∃ o', h'.get? a = some o'

theorem get2 {h : Heap} {a : Addr} {o o' : Obj} (e : h.get? a = some o) (e' : h.get? a = some o') : o = o' := Option.some.inj (e.symm.trans e')
theorem getNone {h : Heap} {a b : Addr} {o : Obj} (e : h.get? a = some o) (n : h.get? b = none) : a ≠ b := by rintro rfl; exact nomatch e.symm.trans n
theorem notSome {h : Heap} {a : Addr} (n : ∀ o, h.get? a ≠ some o) : h.get? a = none := by
 cases e : h.get? a with
 | none => rfl
 | some o => exact (n o e).elim
theorem Step.refl (F : List Addr) (ρ : Rho) (h : Heap) : Step F ρ h ρ h := ⟨List.prefix_refl _, fun _ _ e _ _ => e, fun _ hp => .inl hp, fun _ o e => ⟨o, e⟩⟩
theorem Step.notOwn {F : List Addr} {ρ ρ' : Rho} {h h' : Heap} (x : Step F ρ h ρ' h') {a : Addr} {o : Obj} (e : h.get? a = some o) (n : NotOwn ρ a) : NotOwn ρ' a := fun p hp =>
 (x.fresh p hp).elim (n p) fun m => ⟨getNone e m.1, getNone e m.2⟩
theorem Step.absent {F : List Addr} {ρ ρ' : Rho} {h h' : Heap} (x : Step F ρ h ρ' h') {a : Addr} (n : h'.get? a = none) : h.get? a = none := notSome fun o e => by
 obtain ⟨o', e'⟩ := x.live _ o e
 exact nomatch n.symm.trans e'

theorem Step.trans {F : List Addr} {ρ ρ₁ ρ₂ : Rho} {h h₁ h₂ : Heap} (x : Step F ρ h ρ₁ h₁) (y : Step F ρ₁ h₁ ρ₂ h₂) : Step F ρ h ρ₂ h₂ where
 pre := x.pre.trans y.pre
 keep := fun a o e hF hn => y.keep a o (x.keep a o e hF hn) hF (x.notOwn e hn)
 fresh := fun p hp => (y.fresh p hp).elim (x.fresh p) fun m => .inr ⟨x.absent m.1, x.absent m.2⟩
 live := fun a o e => (x.live a o e).elim fun o₁ e₁ => y.live a o₁ e₁

theorem Step.mono {F F' : List Addr} {ρ ρ' : Rho} {h h' : Heap} (x : Step F ρ h ρ' h') (hF : ∀ a ∈ F, a ∈ F') : Step F' ρ h ρ' h' :=
 ⟨x.pre, fun a o e n => x.keep a o e fun m => n (hF a m), x.fresh, x.live⟩

theorem Step.get {F : List Addr} {ρ ρ' : Rho} {h h' : Heap} (x : Step F ρ h ρ' h') {i : Nat} {p : Addr × Addr} (e : ρ[i]? = some p) : ρ'[i]? = some p := by
 obtain ⟨t, rfl⟩ := x.pre
 rw [List.getElem?_append_left (List.getElem?_eq_some_iff.mp e).1]; exact e

noncomputable def NoTup (h : Heap) (a : Addr) : Prop := ∀ items, ¬ IsTup h a items

theorem noTup_of {h : Heap} {a : Addr} {o : Obj} (e : h.get? a = some o) (n : o.cls ≠ .type "tuple") : NoTup h a := by
 rintro its ⟨o', ho', hc', _⟩
 rw [get2 e ho'] at n
 exact n hc'
theorem tl : ("list" : String) ≠ "tuple" := by decide
theorem ObIs.noTup {X : Cx} {h : Heap} {ρ : Rho} {p : Addr × Addr} {ob : Ob} (x : ObIs X h ρ p ob) : NoTup h p.1 ∧ NoTup h p.2 := by
 cases ob with
 | list xs =>
  obtain ⟨items, e, _, ⟨o, ho, hc, _⟩, _⟩ := x
  have := noTup_of ho (by rw [hc]; simp)
  exact ⟨this, e ▸ this⟩
 | dict es =>
  obtain ⟨e, _, dx⟩ := x
  obtain ⟨o, arr, n, ho, hx, _⟩ := dx.at_
  have := noTup_of ho (by rw [hx.1]; simp)
  exact ⟨this, e ▸ this⟩
 | inst C fs =>
  obtain ⟨ds, n, _, ho, hd, _⟩ := x
  exact ⟨noTup_of ho (by simp), noTup_of hd (by simp)⟩

theorem Inv.idx {X : Cx} {ρ : Rho} {σ : St} {h : Heap} (I : Inv X ρ σ h) {i : Nat} {p : Addr × Addr} (e : ρ[i]? = some p) : ∃ ob, σ[i]? = some ob := by
 have := (List.getElem?_eq_some_iff.mp e).1
 rw [I.len] at this
 exact ⟨σ[i], List.getElem?_eq_getElem this⟩
theorem Inv.idx' {X : Cx} {ρ : Rho} {σ : St} {h : Heap} (I : Inv X ρ σ h) {i : Nat} {ob : Ob} (e : σ[i]? = some ob) : ∃ p, ρ[i]? = some p := by
 have := (List.getElem?_eq_some_iff.mp e).1
 rw [← I.len] at this
 exact ⟨ρ[i], List.getElem?_eq_getElem this⟩

theorem Inv.tupKeep {X : Cx} {ρ : Rho} {σ : St} {h : Heap} (I : Inv X ρ σ h) {a : Addr} {items : Array Value} (t : IsTup h a items) : NotOwn ρ a := fun p hp => by
 obtain ⟨i, hi⟩ := List.mem_iff_getElem?.mp hp
 obtain ⟨ob, ho⟩ := I.idx hi
 have := (I.obj i p ob hi ho).noTup
 exact ⟨fun q => this.1 items (q ▸ t), fun q => this.2 items (q ▸ t)⟩

theorem Step.tup {X : Cx} {F : List Addr} {ρ ρ' : Rho} {σ : St} {h h' : Heap} (x : Step F ρ h ρ' h') (I : Inv X ρ σ h) (hF : ∀ a ∈ F, NoTup h a) {a : Addr} {items : Array Value} (t : TupAt h a items) : TupAt h' a items := by
 have hn := I.tupKeep t.isTup
 have hf : a ∉ F := fun m => hF a m items t.isTup
 obtain ⟨n, ho⟩ := t
 exact ⟨n, x.keep a _ ho hf hn⟩

theorem FRs.mono {h h' : Heap} {ρ ρ' : Rho} (hp : ∀ (i : Nat) (p : Addr × Addr), ρ[i]? = some p → ρ'[i]? = some p) (ht : ∀ a items, TupAt h a items → TupAt h' a items) (ds : List (String × D)) : ∀ (es : List DictEntry), FRs h ρ ds es → FRs h' ρ' ds es := by
 induction ds with
 | nil => exact fun _ x => x
 | cons x r ih => rintro _ ⟨e, q, t, a, c, d⟩; exact ⟨e, q, t, a, VR.mono hp ht _ _ c, ih q d⟩

theorem Step.vr {X : Cx} {F : List Addr} {ρ ρ' : Rho} {σ : St} {h h' : Heap} (x : Step F ρ h ρ' h') (I : Inv X ρ σ h) (hF : ∀ a ∈ F, NoTup h a) {d : D} {v : Value} (r : VR h ρ d v) : VR h' ρ' d v :=
 VR.mono (fun _ _ e => x.get e) (fun _ _ t => x.tup I hF t) d v r
theorem Step.vrs {X : Cx} {F : List Addr} {ρ ρ' : Rho} {σ : St} {h h' : Heap} (x : Step F ρ h ρ' h') (I : Inv X ρ σ h) (hF : ∀ a ∈ F, NoTup h a) {d : List D} {v : List Value} (r : VRs h ρ d v) : VRs h' ρ' d v :=
 VRs.mono (fun _ _ e => x.get e) (fun _ _ t => x.tup I hF t) d v r
theorem Step.vr0 {X : Cx} {ρ ρ' : Rho} {σ : St} {h h' : Heap} (x : Step [] ρ h ρ' h') (I : Inv X ρ σ h) {d : D} {v : Value} (r : VR h ρ d v) : VR h' ρ' d v := x.vr I (fun _ m => nomatch m) r
theorem Step.vrs0 {X : Cx} {ρ ρ' : Rho} {σ : St} {h h' : Heap} (x : Step [] ρ h ρ' h') (I : Inv X ρ σ h) {d : List D} {v : List Value} (r : VRs h ρ d v) : VRs h' ρ' d v := x.vrs I (fun _ m => nomatch m) r

theorem ObIs.mono {X : Cx} {h h' : Heap} {ρ ρ' : Rho} {p : Addr × Addr} {ob : Ob} (hp : ∀ (i : Nat) (p : Addr × Addr), ρ[i]? = some p → ρ'[i]? = some p) (ht : ∀ a items, TupAt h a items → TupAt h' a items)
  (k1 : ∀ o, h.get? p.1 = some o → h'.get? p.1 = some o) (k2 : ∀ o, h.get? p.2 = some o → h'.get? p.2 = some o) (x : ObIs X h ρ p ob) : ObIs X h' ρ' p ob := by
 cases ob with
 | list xs =>
  obtain ⟨items, e, ex, ⟨o, ho, r⟩, b⟩ := x
  exact ⟨items, e, fun hb o' ho' => get2 (k1 _ ho) ho' ▸ ex hb o ho, ⟨o, k1 _ ho, r⟩, VRs.mono hp ht _ _ b⟩
 | dict es => exact ⟨x.one, x.low, x.is.mono hp ht k1⟩
 | inst C fs =>
  obtain ⟨ds, n, e, ho, hd, b⟩ := x
  exact ⟨ds, n, e, k1 _ ho, k2 _ hd, FRs.mono hp ht _ _ b⟩
end Mine
end

section
namespace Mine

theorem Step.own {F : List Addr} {ρ : Rho} {h h' : Heap} (hk : ∀ a o, h.get? a = some o → a ∉ F → NotOwn ρ a → h'.get? a = some o) (hl : ∀ a o, h.get? a = some o → ∃ o', h'.get? a = some o') : Step F ρ h ρ h' :=
 ⟨List.prefix_refl _, hk, fun _ hp => .inl hp, hl⟩

theorem mem_of_get {ρ : Rho} {i : Nat} {p : Addr × Addr} (e : ρ[i]? = some p) : p ∈ ρ := List.mem_of_getElem? e

theorem Inv.off {X : Cx} {ρ : Rho} {σ : St} {h h' : Heap} {F : List Addr} (I : Inv X ρ σ h) (hk : ∀ a o, h.get? a = some o → a ∉ F → h'.get? a = some o)
  (hF : ∀ a ∈ F, NotOwn ρ a ∧ X.B.get? a = none ∧ NoTup h a) : Inv X ρ σ h' where
 keepB := fun a o e => hk a o (I.keepB a o e) fun m => by have := (hF a m).2.1; rw [e] at this; cases this
 len := I.len
 obj := fun i p ob hp ho => by
  have x := I.obj i p ob hp ho
  refine x.mono (fun _ _ e => e) (fun a items t => let ⟨n, e⟩ := t; ⟨n, hk a _ e fun m => (hF a m).2.2 items t.isTup⟩) (fun o e => hk _ _ e fun m => ((hF _ m).1 p (mem_of_get hp)).1 rfl) (fun o e => hk _ _ e fun m => ((hF _ m).1 p (mem_of_get hp)).2 rfl)
 sep := I.sep
 new := I.new

theorem Inv.kept {X : Cx} {ρ : Rho} {σ : St} {h h' : Heap} (I : Inv X ρ σ h) (hk : ∀ a o, h.get? a = some o → h'.get? a = some o) : Inv X ρ σ h' :=
 I.off (F := []) (fun a o e _ => hk a o e) (fun _ m => nomatch m)
theorem Step.kept {F : List Addr} {ρ : Rho} {h h' : Heap} (hk : ∀ a o, h.get? a = some o → h'.get? a = some o) : Step F ρ h ρ h' :=
 Step.own (fun a o e _ _ => hk a o e) fun a o e => ⟨o, hk a o e⟩

theorem Inv.live {X : Cx} {ρ : Rho} {σ : St} {h : Heap} {i : Nat} {q : Addr × Addr} (I : Inv X ρ σ h) (hq : ρ[i]? = some q) : (∃ o, h.get? q.1 = some o) ∧ ∃ o, h.get? q.2 = some o := by
 obtain ⟨ob', hob'⟩ := I.idx hq
 have x := I.obj i q ob' hq hob'
 cases ob' with
 | list xs => obtain ⟨_, e, _, ⟨o, ho, _⟩, _⟩ := x; exact ⟨⟨o, ho⟩, o, e ▸ ho⟩
 | dict es => obtain ⟨o, _, _, ho, _⟩ := x.is.at_; exact ⟨⟨o, ho⟩, o, x.one ▸ ho⟩
 | inst C fs => obtain ⟨_, _, _, ho, hd, _⟩ := x; exact ⟨⟨_, ho⟩, _, hd⟩
theorem Inv.noneB {X : Cx} {ρ : Rho} {σ : St} {h : Heap} {a : Addr} (I : Inv X ρ σ h) (n : h.get? a = none) : X.B.get? a = none := notSome fun o e => nomatch n.symm.trans (I.keepB _ _ e)
theorem snoc_get {α : Type} {l : List α} {p q : α} {i : Nat} (e : (l ++ [p])[i]? = some q) : l[i]? = some q ∨ (i = l.length ∧ q = p) := by
 rcases Nat.lt_trichotomy i l.length with hl | hl | hl
 ·rw [List.getElem?_append_left hl] at e; exact .inl e
 ·subst hl; rw [List.getElem?_concat_length] at e; exact .inr ⟨rfl, (Option.some.inj e).symm⟩
 ·rw [List.getElem?_eq_none (by simp; lia)] at e; cases e
theorem snoc_old {α : Type} {l : List α} {p q : α} {i : Nat} (e : l[i]? = some q) : (l ++ [p])[i]? = some q := by rw [List.getElem?_append_left (List.getElem?_eq_some_iff.mp e).1]; exact e
theorem Inv.alloc {X : Cx} {ρ : Rho} {σ : St} {h h' : Heap} {p : Addr × Addr} {ob : Ob} (I : Inv X ρ σ h) (hk : ∀ a o, h.get? a = some o → h'.get? a = some o)
  (h1 : h.get? p.1 = none) (h2 : h.get? p.2 = none) (ho : ObIs X h' (ρ ++ [p]) p ob) : Inv X (ρ ++ [p]) (σ ++ [ob]) h' ∧ Step [] ρ h (ρ ++ [p]) h' := by
 have live := fun (i : Nat) (q : Addr × Addr) (hq : ρ[i]? = some q) => I.live hq
 have tup : ∀ a items, TupAt h a items → TupAt h' a items := by rintro a items ⟨o, e⟩; exact ⟨o, hk _ _ e⟩
 have ne : ∀ {a b : Addr}, (∃ o, h.get? a = some o) → h.get? b = none → a ≠ b := fun l n => l.elim fun o e => getNone e n
 refine ⟨⟨fun a o e => hk _ _ (I.keepB a o e), by rw [List.length_append, List.length_append, I.len]; rfl, fun i q ob' hq ho' => ?_, fun i j q r hi hj hne => ?_, fun i q hq h2' => ?_⟩, ⟨List.prefix_append _ _, fun a o e _ _ => hk a o e, fun q hq => ?_, fun a o e => ⟨o, hk a o e⟩⟩⟩
 ·rcases snoc_get hq with e | ⟨rfl, rfl⟩
  ·have hl := (List.getElem?_eq_some_iff.mp e).1
   rw [List.getElem?_append_left (I.len ▸ hl)] at ho'
   exact (I.obj i q ob' e ho').mono (fun _ _ => snoc_old) tup (fun o e => hk _ _ e) fun o e => hk _ _ e
  ·rw [I.len, List.getElem?_concat_length] at ho'
   exact Option.some.inj ho' ▸ ho
 ·rcases snoc_get hi with e | ⟨rfl, rfl⟩ <;> rcases snoc_get hj with e' | ⟨rfl, rfl⟩
  ·exact I.sep i j q r e e' hne
  ·have L := live i q e
   exact ⟨ne L.1 h1, ne L.1 h2, ne L.2 h1, ne L.2 h2⟩
  ·have L := live j r e'
   exact ⟨(ne L.1 h1).symm, (ne L.2 h1).symm, (ne L.1 h2).symm, (ne L.2 h2).symm⟩
  ·exact absurd rfl hne
 ·rcases snoc_get hq with e | ⟨rfl, rfl⟩
  ·exact I.new i q e h2'
  ·exact ⟨I.noneB h1, I.noneB h2⟩
 ·rcases List.mem_append.mp hq with hq | hq
  ·exact .inl hq
  ·rw [List.mem_singleton.mp hq]; exact .inr ⟨h1, h2⟩

theorem Inv.upd {X : Cx} {ρ : Rho} {σ : St} {h h' : Heap} {i : Nat} {p : Addr × Addr} {ob : Ob} (I : Inv X ρ σ h) (hi : ρ[i]? = some p) (h2 : 2 ≤ i)
  (hk : ∀ a o, h.get? a = some o → a ≠ p.1 ∨ (∃ o', h'.get? p.1 = some o' ∧ h.get? p.1 = some o') → a ≠ p.2 → h'.get? a = some o) (hl : ∀ a o, h.get? a = some o → ∃ o', h'.get? a = some o') (ho : ObIs X h' ρ p ob) :
  Inv X ρ (σ.set i ob) h' ∧ Step [] ρ h ρ h' := by
 obtain ⟨ob₀, hob₀⟩ := I.idx hi
 have nt := (I.obj i p ob₀ hi hob₀).noTup
 have off : ∀ a o, h.get? a = some o → a ≠ p.1 → a ≠ p.2 → h'.get? a = some o := fun a o e n1 n2 => hk a o e (.inl n1) n2
 have tup : ∀ a items, TupAt h a items → TupAt h' a items := fun a items t => let ⟨o, e⟩ := t; ⟨o, off _ _ e (fun q => nt.1 items (q ▸ t.isTup)) (fun q => nt.2 items (q ▸ t.isTup))⟩
 refine ⟨⟨fun a o e => ?_, by rw [List.length_set]; exact I.len, fun j q ob' hq ho' => ?_, I.sep, I.new⟩, Step.own (fun a o e _ hn => off a o e (hn p (mem_of_get hi)).1 (hn p (mem_of_get hi)).2) hl⟩
 ·have nb := I.new i p hi h2
  exact off a o (I.keepB a o e) (getNone e nb.1) (getNone e nb.2)
 ·by_cases hj : i = j
  ·subst hj
   rw [List.getElem?_set_self (by rw [← I.len]; exact (List.getElem?_eq_some_iff.mp hi).1)] at ho'
   exact Option.some.inj (hi.symm.trans hq) ▸ Option.some.inj ho' ▸ ho
  ·rw [List.getElem?_set_ne hj] at ho'
   have s := I.sep j i q p hq hi (Ne.symm hj)
   exact (I.obj j q ob' hq ho').mono (fun _ _ e => e) tup (fun o e => off _ _ e s.1 s.2.1) fun o e => off _ _ e s.2.2.1 s.2.2.2

noncomputable def LocsR (h : Heap) (ρ : Rho) (env : Env) (L : Loc) (m : Str → Option Value) : Prop := ∀ x d, L.lookup x = some d → env.kindOf (Str.ofString x) = some .local → x ≠ ".0" → Has Value (fun v => m (Str.ofString x) = some v) (VR h ρ d)
inductive CellV (h : Heap) (ρ : Rho) (env : Env) (x : String) (d : D) : Prop | mk (c : Addr) (v : Value) : env.cells.lookup (Str.ofString x) = some c → h.IsCell c (some v) → VR h ρ d v → CellV h ρ env x d
structure CellOk (X : Cx) (h : Heap) (ρ : Rho) (c : Addr) : Prop where
 live : ∃ v, h.IsCell c v
 own : NotOwn ρ c
 fresh : X.B.get? c = none
structure FrR (X : Cx) (h : Heap) (ρ : Rho) (env : Env) (L : Loc) : Prop where
 glob : env.globals = mainGlobals
 blt : env.builtins = builtinsNs
 kind : env.scope.kind = .function
 ns : Has (Str → Option Value) (h.Ns env.locals) (LocsR h ρ env L)
 cell : ∀ x d, L.lookup x = some d → (env.kindOf (Str.ofString x) = some .cell ∨ env.kindOf (Str.ofString x) = some .free) → CellV h ρ env x d
 cells : ∀ n c, (n, c) ∈ env.cells → CellOk X h ρ c
 apart : ∀ n n' c, (n, c) ∈ env.cells → (n', c) ∈ env.cells → n = n'
 loc : NotOwn ρ env.locals ∧ X.B.get? env.locals = none
 has : ∀ n, (env.kindOf n = some .cell ∨ env.kindOf n = some .free) → ∃ c, env.cells.lookup n = some c

noncomputable def frame (env : Env) : List Addr := env.locals :: env.cells.map (·.2)

theorem noTup_data {h : Heap} {a : Addr} {o : Obj} (e : h.get? a = some o) (n : ∀ its k, o.data ≠ .seq its k) : NoTup h a := by
 rintro items ⟨o', e', _, k, hd⟩
 rw [get2 e e'] at n
 exact n _ _ hd
theorem noTup_ns {h : Heap} {a : Addr} {m : Str → Option Value} (n : h.Ns a m) : NoTup h a := by
 obtain ⟨o, es, ep, e, hd, _⟩ := n
 exact noTup_data e fun _ _ q => nomatch hd.symm.trans q
theorem noTup_cell {h : Heap} {a : Addr} {v : Option Value} (n : h.IsCell a v) : NoTup h a := by
 obtain ⟨o, e, hd⟩ := n
 exact noTup_data e fun _ _ q => nomatch hd.symm.trans q
theorem ns_live {h : Heap} {a : Addr} {m : Str → Option Value} (n : h.Ns a m) : ∃ o, h.get? a = some o := by obtain ⟨o, es, ep, e, _⟩ := n; exact ⟨o, e⟩
theorem ns_keep {h h' : Heap} {a : Addr} {m : Str → Option Value} (k : ∀ o, h.get? a = some o → h'.get? a = some o) (n : h.Ns a m) : h'.Ns a m := by obtain ⟨o, es, ep, e, r⟩ := n; exact ⟨o, es, ep, k o e, r⟩
theorem cell_live {h : Heap} {a : Addr} {m : Option Value} (n : h.IsCell a m) : ∃ o, h.get? a = some o := by obtain ⟨o, e, _⟩ := n; exact ⟨o, e⟩
theorem cell_keep {h h' : Heap} {a : Addr} {m : Option Value} (k : ∀ o, h.get? a = some o → h'.get? a = some o) (n : h.IsCell a m) : h'.IsCell a m := by obtain ⟨o, e, r⟩ := n; exact ⟨o, k o e, r⟩
theorem ns_cell {h : Heap} {a c : Addr} {m : Str → Option Value} {v : Option Value} (n : h.Ns a m) (k : h.IsCell c v) : a ≠ c := by
 rintro rfl
 obtain ⟨o, es, ep, e, hd, _⟩ := n
 obtain ⟨o', e', hd'⟩ := k
 rw [get2 e e'] at hd
 exact nomatch hd.symm.trans hd'

theorem FrR.frameOk {X : Cx} {h : Heap} {ρ : Rho} {env : Env} {L : Loc} (F : FrR X h ρ env L) : ∀ a ∈ frame env, NotOwn ρ a ∧ X.B.get? a = none ∧ NoTup h a := fun a ha => by
 rcases List.mem_cons.mp ha with rfl | ha
 ·obtain ⟨m, hn, _⟩ := F.ns
  exact ⟨F.loc.1, F.loc.2, noTup_ns hn⟩
 ·obtain ⟨⟨n, c⟩, hm, rfl⟩ := List.mem_map.mp ha
  have k := F.cells n c hm
  exact ⟨k.own, k.fresh, k.live.elim fun _ => noTup_cell⟩

theorem FrR.stepF {X : Cx} {h h' : Heap} {ρ ρ' : Rho} {σ : St} {env : Env} {L : Loc} {G : List Addr} (F : FrR X h ρ env L) (I : Inv X ρ σ h) (S : Step G ρ h ρ' h') (hG : ∀ a ∈ G, NoTup h a ∧ a ∉ frame env) : FrR X h' ρ' env L := by
 have hT : ∀ a ∈ G, NoTup h a := fun a m => (hG a m).1
 have keep : ∀ a ∈ frame env, ∀ o, h.get? a = some o → h'.get? a = some o := fun a ha o e => S.keep a o e (fun m => (hG a m).2 ha) (F.frameOk a ha).1
 have kc : ∀ n c, (n, c) ∈ env.cells → ∀ v, h.IsCell c v → h'.IsCell c v := fun n c hm v => cell_keep (keep c (List.mem_cons_of_mem _ (List.mem_map.mpr ⟨_, hm, rfl⟩)))
 obtain ⟨m, hn, hm⟩ := F.ns
 refine ⟨F.glob, F.blt, F.kind, ⟨m, ns_keep (keep _ (List.mem_cons_self ..)) hn, fun x d hx hk h0 => ?_⟩, fun x d hx hk => ?_, fun n c hm => ?_, F.apart, ⟨(ns_live hn).elim fun o e => S.notOwn e F.loc.1, F.loc.2⟩, F.has⟩
 ·obtain ⟨v, hv, hr⟩ := hm x d hx hk h0
  exact ⟨v, hv, S.vr I hT hr⟩
 ·obtain ⟨c, v, hc, hv, hr⟩ := F.cell x d hx hk
  exact ⟨c, v, hc, kc _ _ (mem_of_lookup hc) _ hv, S.vr I hT hr⟩
 ·obtain ⟨⟨v, hv⟩, a, b⟩ := F.cells n c hm
  exact ⟨⟨v, kc n c hm v hv⟩, (cell_live hv).elim fun o e => S.notOwn e a, b⟩

theorem FrR.step {X : Cx} {h h' : Heap} {ρ ρ' : Rho} {σ : St} {env : Env} {L : Loc} (F : FrR X h ρ env L) (I : Inv X ρ σ h) (S : Step [] ρ h ρ' h') : FrR X h' ρ' env L :=
 F.stepF I S (fun _ m => nomatch m)

theorem lookup_setL (x : String) (d : D) : ∀ (L : Loc) (y : String), (setL x d L).lookup y = if y = x then some d else L.lookup y
 | [], y => by
  by_cases h : y = x
  ·subst h; simp [setL_n, List.lookup]
  ·simp [setL_n, List.lookup, beq_eq_false_iff_ne.mpr h, h]
 | (z, e) :: r, y => by
  rw [setL_c]
  by_cases hz : x = z
  ·subst hz
   rw [if_pos rfl]
   by_cases h : y = x
   ·subst h; simp [List.lookup]
   ·simp [List.lookup, beq_eq_false_iff_ne.mpr h, h]
  ·rw [if_neg hz]
   by_cases h : y = z
   ·subst h
    simp [List.lookup, Ne.symm hz]
   ·simp only [List.lookup, beq_eq_false_iff_ne.mpr h]; exact lookup_setL x d r y

theorem tup_off {h h' : Heap} {c : Addr} (off : ∀ a o, h.get? a = some o → a ∉ [c] → h'.get? a = some o) (nt : NoTup h c) : ∀ a items, TupAt h a items → TupAt h' a items := by
 rintro a items t
 have n : a ∉ [c] := fun q => nt items (List.mem_singleton.mp q ▸ t.isTup)
 obtain ⟨o, e⟩ := t
 exact ⟨o, off a _ e n⟩
theorem FrR.setLocal {X : Cx} {h h' : Heap} {ρ : Rho} {σ : St} {env : Env} {L L' : Loc} {x : String} {d : D} {v : Value} {m : Str → Option Value} (F : FrR X h ρ env L) (I : Inv X ρ σ h) (hk : env.kindOf (Str.ofString x) = some .local)
  (hm0 : h.Ns env.locals m) (hm : LocsR h ρ env L m) (hv : VR h ρ d v)
  (hL : ∀ y, L'.lookup y = if y = x then some d else L.lookup y) (hn : h'.Ns env.locals fun y => if y = Str.ofString x then some v else m y) (hs : Heap.SameBut env.locals h h') :
  FrR X h' ρ env L' ∧ Inv X ρ σ h' ∧ Step [env.locals] ρ h ρ h' := by
 have off : ∀ a o, h.get? a = some o → a ∉ [env.locals] → h'.get? a = some o := fun a o e n => (hs.2 a fun q => n (by simp [q])).trans e
 have nt : NoTup h env.locals := noTup_ns hm0
 have I' : Inv X ρ σ h' := I.off off fun a ha => List.mem_singleton.mp ha ▸ ⟨F.loc.1, F.loc.2, nt⟩
 have tup := tup_off off nt
 have vr : ∀ d v, VR h ρ d v → VR h' ρ d v := fun d v => VR.mono (fun _ _ e => e) tup d v
 have kc : ∀ c v, h.IsCell c v → h'.IsCell c v := fun c v k => cell_keep (fun o e => off c o e fun q => ns_cell hm0 k (List.mem_singleton.mp q).symm) k
 refine ⟨⟨F.glob, F.blt, F.kind, ⟨_, hn, fun y e hy hky hy0 => ?_⟩, fun y e hy hky => ?_, fun n c hc => ?_, F.apart, F.loc, F.has⟩, I', Step.own (fun a o e n _ => off a o e n) fun a o e => ?_⟩
 ·rw [hL] at hy
  by_cases hyx : y = x
  ·rw [if_pos hyx] at hy
   exact ⟨v, by rw [hyx]; exact if_pos rfl, Option.some.inj hy ▸ vr _ _ hv⟩
  ·rw [if_neg hyx] at hy
   obtain ⟨u, hu, hr⟩ := hm y e hy hky hy0
   exact ⟨u, by rw [if_neg fun q => hyx (ofString_inj q)]; exact hu, vr _ _ hr⟩
 ·rw [hL] at hy
  by_cases hyx : y = x
  ·rw [hyx, hk] at hky; rcases hky with q | q <;> cases q
  ·rw [if_neg hyx] at hy
   obtain ⟨c, u, hc, hu, hr⟩ := F.cell y e hy hky
   exact ⟨c, u, hc, kc _ _ hu, vr _ _ hr⟩
 ·obtain ⟨⟨u, hu⟩, a, b⟩ := F.cells n c hc
  exact ⟨⟨u, kc _ _ hu⟩, a, b⟩
 ·by_cases q : a = env.locals
  ·exact q ▸ ns_live hn
  ·exact ⟨o, (hs.2 a q).trans e⟩

theorem FrR.setCell {X : Cx} {h h' : Heap} {ρ : Rho} {σ : St} {env : Env} {L L' : Loc} {x : String} {d : D} {v : Value} {c : Addr} (F : FrR X h ρ env L) (I : Inv X ρ σ h) (hk : env.kindOf (Str.ofString x) = some .cell)
  (hc : env.cells.lookup (Str.ofString x) = some c) (hv : VR h ρ d v)
  (hL : ∀ y, L'.lookup y = if y = x then some d else L.lookup y) (hn : h'.IsCell c (some v)) (hs : Heap.SameBut c h h') :
  FrR X h' ρ env L' ∧ Inv X ρ σ h' ∧ Step (frame env) ρ h ρ h' := by
 have off : ∀ a o, h.get? a = some o → a ∉ [c] → h'.get? a = some o := fun a o e n => (hs.2 a fun q => n (by simp [q])).trans e
 have hmem := mem_of_lookup hc
 obtain ⟨⟨v₀, hv₀⟩, no, nb⟩ := F.cells _ _ hmem
 have nt : NoTup h c := noTup_cell hv₀
 have I' : Inv X ρ σ h' := I.off off fun a ha => List.mem_singleton.mp ha ▸ ⟨no, nb, nt⟩
 have tup := tup_off off nt
 have vr : ∀ d v, VR h ρ d v → VR h' ρ d v := fun d v => VR.mono (fun _ _ e => e) tup d v
 have kc : ∀ c' v, c' ≠ c → h.IsCell c' v → h'.IsCell c' v := fun c' v hne => cell_keep fun o e => off c' o e fun q => hne (List.mem_singleton.mp q)
 obtain ⟨m, hns, hm⟩ := F.ns
 have hlc : env.locals ≠ c := ns_cell hns hv₀
 refine ⟨⟨F.glob, F.blt, F.kind, ⟨m, hns.sameBut hs hlc, fun y e hy hky hy0 => ?_⟩, fun y e hy hky => ?_, fun n c' hc' => ?_, F.apart, F.loc, F.has⟩, I', Step.own (fun a o e n _ => off a o e fun q => n (by rw [List.mem_singleton.mp q]; exact List.mem_cons_of_mem _ (List.mem_map.mpr ⟨_, hmem, rfl⟩))) fun a o e => ?_⟩
 ·rw [hL] at hy
  by_cases hyx : y = x
  ·rw [hyx, hk] at hky; cases hky
  ·rw [if_neg hyx] at hy
   obtain ⟨u, hu, hr⟩ := hm y e hy hky hy0
   exact ⟨u, hu, vr _ _ hr⟩
 ·rw [hL] at hy
  by_cases hyx : y = x
  ·rw [if_pos hyx] at hy
   exact ⟨c, v, by rw [hyx]; exact hc, hn, Option.some.inj hy ▸ vr _ _ hv⟩
  ·rw [if_neg hyx] at hy
   obtain ⟨c', u, hc', hu, hr⟩ := F.cell y e hy hky
   exact ⟨c', u, hc', kc _ _ (fun q => hyx (ofString_inj (F.apart _ _ c (q ▸ mem_of_lookup hc') hmem))) hu, vr _ _ hr⟩
 ·obtain ⟨⟨u, hu⟩, a, b⟩ := F.cells n c' hc'
  refine ⟨?_, a, b⟩
  by_cases q : c' = c
  ·exact ⟨_, q ▸ hn⟩
  ·exact ⟨u, kc _ _ q hu⟩
 ·by_cases q : a = c
  ·exact q ▸ cell_live hn
  ·exact ⟨o, (hs.2 a q).trans e⟩
end Mine
end

section
namespace Mine
noncomputable abbrev noE : Value → Shared → Prop := fun _ _ => False

noncomputable def EvP (X : Cx) (ρ : Rho) (s : Shared) (d : D) (σ' : St) (Q : Value → Shared → Prop) : Prop :=
 ∀ v ρ' h' t', Inv X ρ' σ' h' → Step [] ρ s.heap ρ' h' → VR h' ρ' d v → Q v { s with heap := h', toks := t' }

theorem tupMono {h h' : Heap} (hk : ∀ b o, h.get? b = some o → h'.get? b = some o) : ∀ a items, TupAt h a items → TupAt h' a items := by rintro _ _ ⟨o, e⟩; exact ⟨o, hk _ _ e⟩
theorem EvP.same {X : Cx} {ρ : Rho} {s : Shared} {d : D} {σ : St} {Q : Value → Shared → Prop} (I : Inv X ρ σ s.heap) (hQ : EvP X ρ s d σ Q) {v : Value} (t : Nat) (x : VR s.heap ρ d v) : Q v { s with toks := t } :=
 hQ v ρ s.heap t I (Step.refl ..) x
theorem EvP.same0 {X : Cx} {ρ : Rho} {s : Shared} {d : D} {σ : St} {Q : Value → Shared → Prop} (I : Inv X ρ σ s.heap) (hQ : EvP X ρ s d σ Q) {v : Value} (x : VR s.heap ρ d v) : Q v s :=
 hQ v ρ s.heap s.toks I (Step.refl ..) x
theorem EvP.after {X : Cx} {ρ ρ₁ : Rho} {s : Shared} {h₁ : Heap} {t₁ : Nat} {d : D} {σ' : St} {Q : Value → Shared → Prop} (hQ : EvP X ρ s d σ' Q) (S : Step [] ρ s.heap ρ₁ h₁) : EvP X ρ₁ { s with heap := h₁, toks := t₁ } d σ' Q :=
 fun v ρ' h' t' I' S' x => hQ v ρ' h' t' I' (S.trans S') x

@[simp] theorem VR_int {h : Heap} {ρ : Rho} {i : Int} {t : Tok} : VR h ρ (.int i) (.int i t) := ⟨_⟩
@[simp] theorem VR_bool {h : Heap} {ρ : Rho} {b : Bool} : VR h ρ (.bool b) (.bool b) := rfl
@[simp] theorem VR_str {h : Heap} {ρ : Rho} {x : Str} {t : Tok} : VR h ρ (.str x) (.str x t) := ⟨_⟩
@[simp] theorem VR_none {h : Heap} {ρ : Rho} : VR h ρ .none .none := rfl

inductive LstInv (X : Cx) (ρ : Rho) (σ : St) (h : Heap) (i : Nat) (xs : List D) : Value → Prop | mk (p : Addr × Addr) (items : Array Value) : ρ[i]? = some p → p.2 = p.1 → σ[i]? = some (.list xs) → h.IsList p.1 items → VRs h ρ xs items.toList → items.size = xs.length → LstInv X ρ σ h i xs (.ref p.1)
theorem VRs.size {h : Heap} {ρ : Rho} {xs : List D} {items : Array Value} (x : VRs h ρ xs items.toList) : items.size = xs.length := x.length.symm
theorem Inv.lst {X : Cx} {ρ : Rho} {σ : St} {h : Heap} (I : Inv X ρ σ h) {i : Nat} {v : Value} {xs : List D} (x : VR h ρ (.ref i) v) (e : lst σ i = some xs) : LstInv X ρ σ h i xs v := by
 obtain ⟨p, hp⟩ := x
 have hs := lst_at e
 obtain ⟨items, e2, _, hl, hv⟩ := I.obj i p _ hp hs
 exact ⟨p, items, hp, e2, hs, hl, hv, hv.size⟩

theorem sizeLine_big : big ≤ sizeLine := by decide
theorem big63 : (big : Int) < 2 ^ 63 := by decide

theorem VRs.grow {h h' : Heap} {ρ : Rho} {ds : List D} {vs : List Value} (hk : ∀ b o, h.get? b = some o → h'.get? b = some o) (x : VRs h ρ ds vs) : VRs h' ρ ds vs := VRs.mono (fun _ _ e => e) (tupMono hk) _ _ x
theorem VR.grow {h h' : Heap} {ρ : Rho} {d : D} {v : Value} (hk : ∀ b o, h.get? b = some o → h'.get? b = some o) (x : VR h ρ d v) : VR h' ρ d v := VR.mono (fun _ _ e => e) (tupMono hk) _ _ x
theorem fresh_size (h : Heap) (k : Nat) : h.get? (h.objs.size + k) = none := notSome fun _ e => absurd (Heap.lt_size e) (Nat.not_lt.mpr (Nat.le_add_right _ _))
theorem mk_list_at {X : Cx} {ρ : Rho} {σ σ' : St} {s : Shared} {h' : Heap} {a : Addr} {t : Nat} {d : D} {xs : List D} {vs : Array Value} {n : Nat} {Q : Value → Shared → Prop} (I : Inv X ρ σ s.heap)
  (hk : ∀ b o, s.heap.get? b = some o → h'.get? b = some o) (hn : s.heap.get? a = none) (ho : h'.get? a = some { cls := .type "list", data := .seq vs n }) (x : VRs h' ρ xs vs.toList) (e : alloc (.list xs) σ = some (d, σ')) (hQ : EvP X ρ s d σ' Q) :
  Q (.ref a) { s with heap := h', toks := t } := by
 replace e := sp e; obtain ⟨rfl, rfl⟩ := e
 obtain ⟨I', S'⟩ := I.alloc (p := (a, a)) (ob := .list xs) hk hn hn ⟨vs, rfl, fun _ o e => get2 ho e ▸ ⟨rfl, rfl⟩, ⟨_, ho, rfl, n, rfl⟩, VRs.mono (fun i p => snoc_old) (fun _ _ t => t) _ _ x⟩
 exact hQ _ _ _ t I' S' ⟨(a, a), by rw [← I.len]; exact List.getElem?_concat_length⟩
theorem mk_list {X : Cx} {ρ : Rho} {σ σ' : St} {s : Shared} {t : Nat} {d : D} {xs : List D} {vs : Array Value} {n : Nat} {Q : Value → Shared → Prop} (I : Inv X ρ σ s.heap) (x : VRs s.heap ρ xs vs.toList) (e : alloc (.list xs) σ = some (d, σ')) (hQ : EvP X ρ s d σ' Q) :
  Q (.ref s.heap.objs.size) { s with heap := s.heap.push { cls := .type "list", data := .seq vs n }, toks := t } :=
 mk_list_at I (fun _ _ => Heap.get?_push_of_some _) (fresh_size _ 0) (Heap.get?_push_size _ rfl) (x.grow fun _ _ => Heap.get?_push_of_some _) e hQ

theorem mk_listK {X : Cx} {ρ : Rho} {σ σ' : St} {s : Shared} {h₁ : Heap} {t : Nat} {d : D} {xs : List D} {vs : Array Value} {n : Nat} {Q : Value → Shared → Prop} (I : Inv X ρ σ s.heap) (hk : ∀ a o, s.heap.get? a = some o → h₁.get? a = some o) (x : VRs s.heap ρ xs vs.toList) (e : alloc (.list xs) σ = some (d, σ')) (hQ : EvP X ρ s d σ' Q) :
  Q (.ref h₁.objs.size) { s with heap := h₁.push { cls := .type "list", data := .seq vs n }, toks := t } :=
 mk_list (s := { s with heap := h₁, toks := t }) (I.kept hk) (x.grow hk) e (hQ.after (Step.kept hk))

theorem mk_tup {X : Cx} {ρ : Rho} {σ : St} {s : Shared} {t : Nat} {xs : List D} {vs : Array Value} {n : Nat} {Q : Value → Shared → Prop} (I : Inv X ρ σ s.heap) (x : VRs s.heap ρ xs vs.toList) (hQ : EvP X ρ s (.tup xs) σ Q) :
  Q (.ref s.heap.objs.size) { s with heap := s.heap.push { cls := .type "tuple", data := .seq vs n }, toks := t } := by
 have hk : ∀ a o, s.heap.get? a = some o → (s.heap.push { cls := .type "tuple", data := .seq vs n }).get? a = some o := fun a o => Heap.get?_push_of_some _
 exact hQ _ _ _ t (I.kept hk) (Step.kept hk) ⟨_, vs, ⟨n, Heap.get?_push_size _ rfl⟩, x.grow hk⟩
theorem mk_tupK {X : Cx} {ρ : Rho} {σ : St} {s : Shared} {h₁ : Heap} {t : Nat} {xs : List D} {vs : Array Value} {n : Nat} {Q : Value → Shared → Prop} (I : Inv X ρ σ s.heap) (hk : ∀ a o, s.heap.get? a = some o → h₁.get? a = some o) (x : VRs s.heap ρ xs vs.toList) (hQ : EvP X ρ s (.tup xs) σ Q) :
  Q (.ref h₁.objs.size) { s with heap := h₁.push { cls := .type "tuple", data := .seq vs n }, toks := t } :=
 mk_tup (s := { s with heap := h₁, toks := t }) (I.kept hk) (x.grow hk) (hQ.after (Step.kept hk))

noncomputable def opB : BOp → Operator
 | .add => .Add | .sub => .Sub | .mul => .Mult | .fdiv => .FloorDiv | .mod => .Mod

theorem intBits_small {a : Int} (h : a.natAbs < 2 ^ 60) : Builtin.Int.intBits a ≤ 64 := by
 unfold Builtin.Int.intBits
 split
 ·lia
 ·rename_i h0
  have : a.natAbs.log2 < 60 := (Nat.log2_lt (by simpa using h0)).mpr h
  lia

section
variable {X : Cx} {A : Around} {ρ : Rho} {σ σ' : St} {s : Shared} {a b d : D} {u v : Value} {Q : Value → Shared → Prop}
noncomputable def BinOk (op : Operator) (f : Int → Int → Option D) : Prop := ∀ X A ρ σ s i j d t t' Q, f i j = some d → Inv X ρ σ s.heap → EvP X ρ s d σ Q → wpAny (model X.prog X.w) A (binaryOp op (.int i t) (.int j t')) Q noE s
theorem P_binI {op : Operator} {f : Int → Int → Option D} (k : BinOk op f) (I : Inv X ρ σ s.heap) (x : VR s.heap ρ a u) (y : VR s.heap ρ b v) (e : binI a b σ f = some (d, σ')) (hQ : EvP X ρ s d σ' Q) : wpAny (model X.prog X.w) A (binaryOp op u v) Q noE s := by
 replace e := i_of e; obtain ⟨i, e⟩ := e
 replace e := i_of e; obtain ⟨j, e⟩ := e
 replace e := mp_of e; obtain ⟨d, e, e'⟩ := e
 obtain ⟨rfl, rfl⟩ := sp e'
 obtain ⟨t⟩ := x
 obtain ⟨t'⟩ := y
 exact k _ _ _ _ _ _ _ _ _ _ _ e I hQ
theorem P_cat (I : Inv X ρ σ s.heap) {i j : Nat} {xs ys : List D} (x : VR s.heap ρ (.ref i) u) (y : VR s.heap ρ (.ref j) v) (hx : lst σ i = some xs) (hy : lst σ j = some ys) (hb : xs.length + ys.length ≤ big) (e : alloc (.list (xs ++ ys)) σ = some (d, σ')) (hQ : EvP X ρ s d σ' Q) :
  wpAny (model X.prog X.w) A (binaryOp .Add u v) Q noE s := by
 obtain ⟨p, items, hp, e2, hs, ⟨⟨_, dd, _, sl⟩, ho, rfl, n, rfl⟩, hv, hz⟩ := I.lst x hx
 obtain ⟨q, items', hq, e2', hs', ⟨⟨_, dd2, _, sl2⟩, ho2, rfl, n2, rfl⟩, hv', hz'⟩ := I.lst y hy
 have hsz : items.size + items'.size ≤ sizeLine := by
  rw [hz, hz']; exact Nat.le_trans hb sizeLine_big
 exact concat_meets ⟨_, ho, rfl⟩ ⟨_, ho2, rfl⟩ noFill_list_add seq_list_add PySem.F.slot_list_add PySem.F.entry_list_add (PySem.F.args_list_add_2 _ _) (list_addW p.1 q.1 items items' n n2 dd dd2 sl sl2 hsz) ⟨ho, ho2, mk_list (t := s.toks) I (by rw [Array.toList_append]; exact hv'.append hv) e hQ⟩
theorem P_add (I : Inv X ρ σ s.heap) (x : VR s.heap ρ a u) (y : VR s.heap ρ b v) (e : binAdd a b σ = some (d, σ')) (hQ : EvP X ρ s d σ' Q) : wpAny (model X.prog X.w) A (binaryOp .Add u v) Q noE s := by
 cases a with
 | int i =>
  replace e := i_of e; obtain ⟨j, e⟩ := e
  replace e := sp e; obtain ⟨rfl, rfl⟩ := e
  obtain ⟨t⟩ := x
  obtain ⟨t'⟩ := y
  exact PyProof.Rows.add_int (hQ.same I _ VR_int)
 | str i =>
  replace e := s_of e; obtain ⟨j, e⟩ := e
  replace e := gd_of e; obtain ⟨hb, e⟩ := e
  replace e := sp e; obtain ⟨rfl, rfl⟩ := e
  obtain ⟨t⟩ := x
  obtain ⟨t'⟩ := y
  exact PyProof.Rows.add_str (fun t' tk => hQ.same I _ VR_str) (Nat.le_trans hb sizeLine_big)
 | ref i =>
  replace e := r_of e; obtain ⟨j, e⟩ := e
  replace e := bi_of e; obtain ⟨xs, hx, e⟩ := e
  replace e := bi_of e; obtain ⟨ys, hy, e⟩ := e
  replace e := gd_of e; obtain ⟨hb, e⟩ := e
  exact P_cat I x y hx hy hb e hQ
 | _ => exact nomatch e
theorem P_bin {op : BOp} (I : Inv X ρ σ s.heap) (x : VR s.heap ρ a u) (y : VR s.heap ρ b v) (e : bin op a b σ = some (d, σ')) (hQ : EvP X ρ s d σ' Q) :
  wpAny (model X.prog X.w) A (binaryOp (opB op) u v) Q noE s := by
 cases op with
 | add => exact P_add I x y e hQ
 | sub => exact P_binI (fun _ _ _ _ _ _ _ _ _ _ _ e I hQ => by obtain rfl := s1 e; exact PyProof.Rows.sub_int (hQ.same I _ VR_int)) I x y e hQ
 | mul => exact P_binI (fun _ _ _ _ _ _ _ _ _ _ _ e I hQ => by obtain ⟨hb, e⟩ := gd_of e; replace e := s1 e; obtain rfl := e; exact PyProof.Rows.mul_int (hQ.same I _ VR_int) (IntMulOk.of_left (intBits_small hb.1))) I x y e hQ
 | fdiv => exact P_binI (fun _ _ _ _ _ _ _ _ _ _ _ e I hQ => by obtain ⟨hb, e⟩ := gd_of e; replace e := s1 e; obtain rfl := e; exact PyProof.Rows.floordiv_int (by lia) (hQ.same I _ VR_int) (.inl (PyProof.noPylong_small (by lia)))) I x y e hQ
 | mod => exact P_binI (fun _ _ _ _ _ _ _ _ _ _ _ e I hQ => by obtain ⟨hb, e⟩ := gd_of e; replace e := s1 e; obtain rfl := e; exact PyProof.Rows.mod_int' (by lia) (hQ.same I _ VR_int)) I x y e hQ
end

noncomputable def opC : COp → CmpOp
 | .eq => .Eq | .ne => .NotEq | .lt => .Lt | .gt => .Gt | .ge => .GtE | .isin => .In | .notin => .NotIn

theorem shaped_of {n : Nat} {d : PyData} (hn : n ≤ 8) (l : Lay n d) : SeqAt.shaped d = true := by
 rw [SeqAt.shaped, l.can, decide_eq_true (Nat.le_trans l.dep (Nat.le_trans hn (by decide)))]; rfl
theorem shaped_flat {d : D} (f : flat 6 d = true) : SeqAt.shaped (toP d) = true := shaped_of (by decide) (lay_of 6 d f)
theorem flats_all {n : Nat} {xs : List D} (h : flats n xs = true) : ∀ d ∈ xs, flat n d = true := List.all_eq_true.mp h
theorem Lays.list {n : Nat} {d : List PyData} (l : Lays n d) : Lay (n + 1) (.list d) := ⟨l.can, Nat.succ_le_succ l.dep⟩
theorem reads_list {h : Heap} {ρ : Rho} {a : Addr} {items : Array Value} {xs : List D} (l : h.IsList a items) (v : VRs h ρ xs items.toList) (f : flats 6 xs = true) : ∃ as, Reads h (.ref a) (.list (toPs xs)) as := by
 obtain ⟨o, ho, hc, n, hd⟩ := l
 exact (readsAll_of 6 xs _ (flats_all f) v).elim fun as q => ⟨_, Reads.list ho hc hd q⟩
theorem shaped_list {xs : List D} (f : flats 6 xs = true) : SeqAt.shaped (.list (toPs xs)) = true := shaped_of (by decide) (layAll_of 6 xs (flats_all f)).list

noncomputable def rowP (l : List (List D)) : List PyData := l.map fun xs => .list (toPs xs)
structure RowsOk (h : Heap) (vs : List Value) (l : List (List D)) : Prop where
 rd : ∃ as, ReadsAll h vs (rowP l) as
 lay : Lays 7 (rowP l)
 fl : ∀ y ∈ l, flats 6 y = true
theorem reads_rows {X : Cx} {ρ : Rho} {σ : St} {h : Heap} (I : Inv X ρ σ h) (xs : List D) : ∀ (vs : List Value) (l : List (List D)), rows2 σ xs = some l → VRs h ρ xs vs → RowsOk h vs l := by
 induction xs with
 | nil => intro vs l e x; replace e := s1 e; obtain rfl := e; rw [x.inv0]; exact ⟨⟨_, .nil⟩, ⟨rfl, Nat.zero_le _⟩, nofun⟩
 | cons d ds ih =>
  rintro _ l e ⟨v, r, a, b⟩
  replace e := r_of e; obtain ⟨i, e⟩ := e
  replace e := bi_of e; obtain ⟨xs, hx, e⟩ := e
  replace e := bi_of e; obtain ⟨rest, hr, e⟩ := e
  replace e := gd_of e; obtain ⟨hf, e⟩ := e
  replace e := s1 e; obtain rfl := e
  obtain ⟨p, items, hp, _, hs, hl, hv⟩ := I.lst a hx
  obtain ⟨as, q⟩ := reads_list hl hv hf
  obtain ⟨⟨bs, q2⟩, c2, f2⟩ := ih r rest hr b
  exact ⟨⟨_, ReadsAll.cons q q2⟩, .cons (layAll_of 6 xs (flats_all hf)).list c2, List.forall_mem_cons.mpr ⟨hf, f2⟩⟩

theorem eqv_rows (a : List (List D)) (f : ∀ y ∈ a, flats 6 y = true) : ∀ (b : List (List D)), (∀ y ∈ b, flats 6 y = true) → PyData.eqvAll (rowP a) (rowP b) = D.beqs (D.ofRows a) (D.ofRows b) := by
 induction a with
 | nil => intro b _; cases b <;> rfl
 | cons x a ih =>
  intro b g
  cases b with
  | nil => rfl
  | cons y b => exact congr (congrArg and (eqvAll_of 6 x y (flats_all (f x (.head _))) (flats_all (g y (.head _))))) (ih (fun z h => f z (.tail _ h)) b fun z h => g z (.tail _ h))

inductive EqR (h : Heap) (u v : Value) (r : Bool) : Prop | mk (da db : PyData) (as bs : List Addr) : Reads h u da as → Reads h v db bs → SeqAt.shaped da = true → SeqAt.shaped db = true → PyData.eqv da db = r → EqR h u v r
theorem pyEq_flatR {ρ : Rho} {h : Heap} {a b : D} {u v : Value} {r : Bool} (x : VR h ρ a u) (y : VR h ρ b v) (e : gd ((flat 6 a && flat 6 b) = true) (some (D.beq a b)) = some r) : EqR h u v r := by
 replace e := gd_of e; obtain ⟨hf, e⟩ := e
 replace e := s1 e; obtain rfl := e
 have ⟨f1, f2⟩ := Bool.and_eq_true_iff.mp hf
 obtain ⟨as, ra⟩ := reads_of 6 _ _ f1 x
 obtain ⟨bs, rb⟩ := reads_of 6 _ _ f2 y
 exact ⟨_, _, _, _, ra, rb, shaped_flat f1, shaped_flat f2, eqv_of 6 _ _ f1 f2⟩
theorem pyEq_reads {X : Cx} {ρ : Rho} {σ : St} {s : Shared} {a b : D} {u v : Value} {r : Bool} (I : Inv X ρ σ s.heap) (x : VR s.heap ρ a u) (y : VR s.heap ρ b v) (e : pyEq σ a b = some r) : EqR s.heap u v r := by
 cases a with
 | bool p =>
  replace e := b_of e; obtain ⟨q, e⟩ := e
  replace e := s1 e; obtain rfl := e
  obtain rfl := x
  obtain rfl := y
  exact ⟨_, _, _, _, Reads.bool _, Reads.bool _, rfl, rfl, rfl⟩
 | ref i =>
  replace e := r_of e; obtain ⟨j, e⟩ := e
  replace e := bi_of e; obtain ⟨xs, hx, e⟩ := e
  replace e := bi_of e; obtain ⟨ys, hy, e⟩ := e
  obtain ⟨p, items, hp, e2, hs, hl, hv⟩ := I.lst x hx
  obtain ⟨q, items', hq, e2', hs', hl', hv'⟩ := I.lst y hy
  by_cases hf : (flats 6 xs && flats 6 ys) = true
  ·obtain rfl := s1 ((if_pos hf).symm.trans e)
   have ⟨f1, f2⟩ := Bool.and_eq_true_iff.mp hf
   obtain ⟨as, ra⟩ := reads_list hl hv f1
   obtain ⟨bs, rb⟩ := reads_list hl' hv' f2
   exact ⟨_, _, _, _, ra, rb, shaped_list f1, shaped_list f2, eqvAll_of 6 xs ys (flats_all f1) (flats_all f2)⟩
  ·have e := (if_neg hf).symm.trans e
   replace e := bi_of e; obtain ⟨l1, h1, e⟩ := e
   replace e := bi_of e; obtain ⟨l2, h2, e⟩ := e
   replace e := s1 e; obtain rfl := e
   obtain ⟨⟨as, ra⟩, c1, f1⟩ := reads_rows I xs _ l1 h1 hv
   obtain ⟨⟨bs, rb⟩, c2, f2⟩ := reads_rows I ys _ l2 h2 hv'
   obtain ⟨o, ho, hc, n, hd⟩ := hl
   obtain ⟨o', ho', hc', n', hd'⟩ := hl'
   exact ⟨_, _, _, _, Reads.list ho hc hd ra, Reads.list ho' hc' hd' rb, shaped_of (by decide) c1.list, shaped_of (by decide) c2.list, eqv_rows l1 f1 l2 f2⟩
 | none => exact pyEq_flatR x y e
 | int => exact pyEq_flatR x y e
 | str => exact pyEq_flatR x y e
 | tup => exact pyEq_flatR x y e
end Mine
end

section
namespace Mine
noncomputable def DictEmpty (h : Heap) (a : Addr) : Prop := ∃ o ep, h.get? a = some o ∧ o.ExactDict ∧ o.data = .dict #[] ep
theorem dictOf_empty {prog : Program} {w : World} {K : Type} [DecidableEq K] {knd : KeyKind prog w K} {h : Heap} {a : Addr} : h.DictOf knd a [] ↔ DictEmpty h a := by
 constructor
 ·rintro ⟨o, es, ep, ho, hc, hd, hk, hp, hn⟩
  have : es.toList = [] := by
   cases e : es.toList with
   | nil => rfl
   | cons x r => rw [e] at hp; cases hp
  have : es = #[] := Array.toList_inj.mp (by simpa using this)
  subst this
  exact ⟨o, ep, ho, hc, hd⟩
 ·rintro ⟨o, ep, ho, hc, hd⟩
  exact ⟨o, #[], ep, ho, hc, hd, fun e he => by simp at he, .nil, List.nodup_nil⟩
theorem dictOfH_empty {prog : Program} {w : World} {K : Type} [DecidableEq K] {knd : HeapKind prog w K} {h : Heap} {a : Addr} : h.DictOfH knd a [] ↔ DictEmpty h a := by
 constructor
 ·rintro ⟨o, es, ep, ho, hc, hd, he, _, hn⟩
  have : es = #[] := Array.toList_inj.mp (by simpa using he)
  subst this
  exact ⟨o, ep, ho, hc, hd⟩
 ·rintro ⟨o, ep, ho, hc, hd⟩
  exact ⟨o, #[], ep, ho, hc, hd, rfl, fun e he => by simp at he, List.nodup_nil⟩

theorem KV.nil {K : Type} {h : Heap} {ρ : Rho} {enc : K → D} {l : List (K × Value)} (x : KV h ρ enc [] l) : l = [] := x
theorem KV.first {K : Type} {h : Heap} {ρ : Rho} {enc : K → D} {e : D × D} {r : List (D × D)} {l : List (K × Value)} (x : KV h ρ enc (e :: r) l) : ∃ k, e.1 = enc k := by obtain ⟨k, _, _, e, _⟩ := x; exact ⟨k, e⟩
theorem KV.nilMap {h : Heap} {ρ : Rho} {xs : List (List D × Addr × Value)} (x : KV h ρ D.tup [] (xs.map fun x => (x.1, x.2.2))) : xs = [] := List.map_eq_nil_iff.mp x

theorem DictIs.empty {X : Cx} {h : Heap} {ρ : Rho} {a : Addr} (x : DictIs X h ρ a []) : DictEmpty h a := by
 cases x with
 | int kvs d q => rw [KV.nil q] at d; exact dictOf_empty.mp d
 | str kvs d q => rw [KV.nil q] at d; exact dictOf_empty.mp d
 | tup xs d q => rw [KV.nilMap q] at d; exact dictOfH_empty.mp d

inductive IsOf (K : Type) (P : List K → Prop) (Q : List K → Prop) : Prop | mk (kvs : List K) : P kvs → Q kvs → IsOf K P Q
theorem KV.not {K : Type} {h : Heap} {ρ : Rho} {enc : K → D} {e : D × D} {r : List (D × D)} {l : List (K × Value)} {f : D → Bool} (x : KV h ρ enc (e :: r) l) (hf : ((e :: r).all fun e => f e.1) = true) (n : ∀ k, f (enc k) = false) {p : Prop} : p := by
 obtain ⟨k, hk⟩ := x.first
 have : f e.1 = true := (Bool.and_eq_true_iff.mp hf).1
 rw [hk] at this
 exact nomatch this.symm.trans (n k)
theorem DictIs.asInt {X : Cx} {h : Heap} {ρ : Rho} {a : Addr} {es : List (D × D)} (x : DictIs X h ρ a es) (f : (es.all fun e => isInt e.1) = true) : IsOf (Int × Value) (h.DictOf (intKind X.prog X.w) a) (KV h ρ D.int es) := by
 cases es with
 | nil => exact ⟨[], dictOf_empty.mpr x.empty, rfl⟩
 | cons e r =>
  cases x with
  | int kvs d q => exact ⟨kvs, d, q⟩
  | str kvs d q => exact q.not f fun _ => rfl
  | tup kvs d q => exact q.not f fun _ => rfl
theorem DictIs.asStr {X : Cx} {h : Heap} {ρ : Rho} {a : Addr} {es : List (D × D)} (x : DictIs X h ρ a es) (f : (es.all fun e => isStr e.1) = true) : IsOf (Str × Value) (h.DictOf (strKind X.prog X.w) a) (KV h ρ D.str es) := by
 cases es with
 | nil => exact ⟨[], dictOf_empty.mpr x.empty, rfl⟩
 | cons e r =>
  cases x with
  | int kvs d q => exact q.not f fun _ => rfl
  | str kvs d q => exact ⟨kvs, d, q⟩
  | tup kvs d q => exact q.not f fun _ => rfl
theorem DictIs.asTup {X : Cx} {h : Heap} {ρ : Rho} {a : Addr} {es : List (D × D)} (x : DictIs X h ρ a es) (f : (es.all fun e => isTup e.1) = true) : IsOf (List D × Addr × Value) (h.DictOfH (tupKind X.prog X.w) a) (fun xs => KV h ρ D.tup es (xs.map fun x => (x.1, x.2.2))) := by
 cases es with
 | nil => exact ⟨[], dictOfH_empty.mpr x.empty, rfl⟩
 | cons e r =>
  cases x with
  | int kvs d q => exact q.not f fun _ => rfl
  | str kvs d q => exact q.not f fun _ => rfl
  | tup kvs d q => exact ⟨kvs, d, q⟩

noncomputable def Opt2 (h : Heap) (ρ : Rho) : Option D → Option Value → Prop
 | some d, b => Has Value (fun v => b = some v) (VR h ρ d)
 | none, b => b = none
theorem Opt2.isSome {h : Heap} {ρ : Rho} {a : Option D} {b : Option Value} (x : Opt2 h ρ a b) : b.isSome = a.isSome := by
 cases a with
 | some => obtain ⟨v, e, _⟩ := x; rw [e]; rfl
 | none => rw [show b = none from x]; rfl
theorem Opt2.get {h : Heap} {ρ : Rho} {a : Option D} {b : Option Value} {d : D} (x : Opt2 h ρ a b) (e : a = some d) : Has Value (fun v => b = some v) (VR h ρ d) := by rw [e] at x; exact x
theorem dfind_hit {k d : D} {r : List (D × D)} : dfind ((k, d) :: r) k = some d := by rw [dfind_c, D.beq_rfl]; rfl
theorem dfind_miss {k k' d : D} {r : List (D × D)} (n : k' ≠ k) : dfind ((k', d) :: r) k = dfind r k := by rw [dfind_c, D.beq_eq, decide_eq_false n]; rfl

theorem KV.find {K : Type} [DecidableEq K] {h : Heap} {ρ : Rho} {enc : K → D} (hi : ∀ a b, enc a = enc b → a = b) (k : K) {es : List (D × D)} : ∀ {l : List (K × Value)}, KV h ρ enc es l → Opt2 h ρ (dfind es (enc k)) (valueAt l k) := by
 induction es with
 | nil => intro l x; rw [KV.nil x]; exact rfl
 | cons e r ih =>
  rintro _ ⟨k₂, v, q, e1, e2, e3⟩
  obtain ⟨k', d⟩ := e
  obtain rfl := e1
  have ih := ih e3
  by_cases hk : k₂ = k
  ·subst hk
   rw [dfind_hit]
   exact ⟨v, by rw [valueAt, List.find?_cons_of_pos (by simp)]; rfl, e2⟩
  ·rw [dfind_miss fun q => hk (hi _ _ q), valueAt, List.find?_cons_of_neg (by simpa using hk)]
   exact ih
theorem KV.findH {h : Heap} {ρ : Rho} (k : List D) {es : List (D × D)} : ∀ {l : List (List D × Addr × Value)}, KV h ρ D.tup es (l.map fun x => (x.1, x.2.2)) → Opt2 h ρ (dfind es (.tup k)) ((atKey l k).map (·.2)) := by
 induction es with
 | nil => intro l x; rw [KV.nilMap x]; exact rfl
 | cons e r ih =>
  intro l x
  cases l with
  | nil => exact nomatch x
  | cons y l =>
   obtain ⟨_, _, _, e1, e2, e3⟩ := x
   obtain ⟨k', d⟩ := e
   obtain rfl := e1
   have ih := ih e3
   by_cases hk : y.1 = k
   ·subst hk
    rw [dfind_hit]
    exact ⟨y.2.2, by rw [atKey, List.find?_cons_of_pos (by simp)]; rfl, e2⟩
   ·rw [dfind_miss fun q => hk (D.tup.inj q), atKey, List.find?_cons_of_neg (by simpa using hk)]
    exact ih

theorem int_inj : ∀ a b, D.int a = D.int b → a = b := fun _ _ => D.int.inj
theorem str_inj : ∀ a b, D.str a = D.str b → a = b := fun _ _ => D.str.inj

theorem isInt_of {d : D} (h : isInt d = true) : ∃ i, d = .int i := by cases d with | int i => exact ⟨i, rfl⟩ | _ => exact nomatch h
theorem isStr_of {d : D} (h : isStr d = true) : ∃ i, d = .str i := by cases d with | str i => exact ⟨i, rfl⟩ | _ => exact nomatch h
theorem isTup_of {d : D} (h : isTup d = true) : ∃ i, d = .tup i := by cases d with | tup i => exact ⟨i, rfl⟩ | _ => exact nomatch h
inductive Keys (es : List (D × D)) : D → Prop
 | int (i : Int) : (es.all fun e => isInt e.1) = true → Keys es (.int i)
 | str (i : Str) : (es.all fun e => isStr e.1) = true → Keys es (.str i)
 | tup (i : List D) : flat 6 (.tup i) = true → (es.all fun e => isTup e.1) = true → Keys es (.tup i)
theorem keysOk_cases {es : List (D × D)} {k : D} (h : keysOk es k = true) : Keys es k := by
 rcases (Bool.or_eq_true_iff.mp h).imp_left Bool.or_eq_true_iff.mp with (h | h) | h <;> have h := Bool.and_eq_true_iff.mp h
 ·obtain ⟨i, rfl⟩ := isInt_of h.1; exact .int i h.2
 ·obtain ⟨i, rfl⟩ := isStr_of h.1; exact .str i h.2
 ·obtain ⟨i, rfl⟩ := isTup_of h.1; exact .tup i h.1 h.2

inductive DctInv (X : Cx) (ρ : Rho) (h : Heap) (i : Nat) (es : List (D × D)) : Value → Prop | mk (p : Addr × Addr) : ρ[i]? = some p → p.2 = p.1 → (p.1 == sysModules) = false → DictIs X h ρ p.1 es → DctInv X ρ h i es (.ref p.1)
theorem Inv.dct {X : Cx} {ρ : Rho} {σ : St} {h : Heap} (I : Inv X ρ σ h) {i : Nat} {v : Value} {es : List (D × D)} (x : VR h ρ (.ref i) v) (e : σ[i]? = some (.dict es)) : DctInv X ρ h i es v := by
 obtain ⟨p, hp⟩ := x
 have k := I.obj i p _ hp e
 exact ⟨p, hp, k.one, k.low, k.is⟩

noncomputable def Room (n : Nat) (A : Around) : Prop := A.handled = none ∧ A.depth + 2 * n + 4 ≤ recursionLimit ∧ A.units + 40 * n + 200 ≤ cLine
theorem Room.units {n : Nat} {A : Around} (r : Room n A) : A.units + 200 ≤ cLine := by have := r.2.2; lia
theorem Room.in1 {n : Nat} {A : Around} (r : Room (n + 1) A) : Room n A.in1 := ⟨r.1, by have := r.2.1; show A.depth + 2 * n + 4 ≤ _; lia, by have := r.2.2; show A.units + 1 + 40 * n + 200 ≤ _; lia⟩

theorem any_eqv {a : D} (f1 : flat 6 a = true) {ys : List D} : (∀ d ∈ ys, flat 6 d = true) → ((toPs ys).any (fun y => PyData.eqv y (toP a)) = ys.any fun y => D.beq y a) := by
 induction ys with
 | nil => exact fun _ => rfl
 | cons z zs ih => intro f; exact congr (congrArg or (eqv_of 6 z a (f z (.head _)) f1)) (ih fun w hw => f w (.tail _ hw))

section
variable {X : Cx} {A : Around} {ρ : Rho} {σ : St} {s : Shared} {a b : D} {u v : Value} {r : Bool} {Q : Value → Shared → Prop}
inductive InSeq (h : Heap) (ys : List D) (u : Value) (r : Bool) : Prop | mk (d : PyData) (as : List Addr) : Reads h u d as → d.canLay0 = true → d.depth ≤ 6 → PyData.canLayAll0 (toPs ys) = true → PyData.depthAll (toPs ys) ≤ 6 → ((toPs ys).any (fun y => PyData.eqv y d)) = r → InSeq h ys u r
theorem inSeq {ys : List D} (x : VR s.heap ρ a u) (e : gd ((flat 6 a && flats 6 ys) = true) (some (ys.any fun y => D.beq y a)) = some r) : InSeq s.heap ys u r ∧ flats 6 ys = true := by
 replace e := gd_of e; obtain ⟨hf, e⟩ := e
 replace e := s1 e; obtain rfl := e
 have ⟨f1, f2⟩ := Bool.and_eq_true_iff.mp hf
 obtain ⟨as, ra⟩ := reads_of 6 _ _ f1 x
 have la := lay_of 6 _ f1
 have lb := layAll_of 6 ys (flats_all f2)
 exact ⟨⟨_, as, ra, la.1, la.2, lb.1, lb.2, any_eqv f1 (flats_all f2)⟩, f2⟩
inductive InOp : CmpOp → (Bool → Bool) → Prop | i : InOp .In id | n : InOp .NotIn (!·)
theorem in_tuple {op : CmpOp} {g : Bool → Bool} (o : InOp op g) {v u : Value} {ys : List PyData} {d : PyData} {bs as : List Addr} (rb : Reads s.heap v (.tuple ys) bs) (ra : Reads s.heap u d as) (l : PyData.canLayAll0 ys = true) (k : d.canLay0 = true) (hd : PyData.depthAll ys ≤ 6) (hd' : d.depth ≤ 6) (hu : A.units + 100 ≤ cLine)
  (h : Q (.bool (g (ys.any fun y => PyData.eqv y d))) s) : wpAny (model X.prog X.w) A (compareOp op u v) Q noE s := by
 cases o with
 | i => exact SeqAt.in_tuple_reads rb ra l k (by lia) h
 | n => exact SeqAt.notIn_tuple_reads rb ra l k (by lia) h
theorem in_list {op : CmpOp} {g : Bool → Bool} (o : InOp op g) {v u : Value} {ys : List PyData} {d : PyData} {bs as : List Addr} (rb : Reads s.heap v (.list ys) bs) (ra : Reads s.heap u d as) (l : PyData.canLayAll0 ys = true) (k : d.canLay0 = true) (hd : PyData.depthAll ys ≤ 6) (hd' : d.depth ≤ 6) (hu : A.units + 100 ≤ cLine)
  (h : Q (.bool (g (ys.any fun y => PyData.eqv y d))) s) : wpAny (model X.prog X.w) A (compareOp op u v) Q noE s := by
 cases o with
 | i => exact SeqAt.in_list_reads rb ra l k (by lia) h
 | n => exact SeqAt.notIn_list_reads rb ra l k (by lia) h
theorem in_of {op : CmpOp} {g : Bool → Bool} (o : InOp op g) {K : Type} [DecidableEq K] {knd : KeyKind X.prog X.w K} {k : K} {m : K → Option Value} {p : Addr} (hk : knd.is k u = true) (lo : (p == sysModules) = false) (hd : s.heap.MapOf knd p m)
  (h : ∀ t, Q (.bool (g (m k).isSome)) { s with toks := t }) : wpAny (model X.prog X.w) A (compareOp op u (.ref p)) Q noE s := by
 cases o with
 | i => exact wpAny_in_of hk lo hd (h _)
 | n => exact wpAny_notIn_of hk lo hd (h _)
theorem P_in {op : CmpOp} {g : Bool → Bool} (o : InOp op g) (hn : op = .NotIn → (isTup a && isDict σ b) = false) (hu : A.units + 100 ≤ cLine) (I : Inv X ρ σ s.heap) (x : VR s.heap ρ a u) (y : VR s.heap ρ b v) (e : pyIn σ a b = some r) (hQ : EvP X ρ s (.bool (g r)) σ Q) :
  wpAny (model X.prog X.w) A (compareOp op u v) Q noE s := by
 cases b with
 | tup ys =>
  obtain ⟨⟨d, as, ra, c1, d1, c2, d2, rfl⟩, f2⟩ := inSeq x e
  obtain ⟨bs, rb⟩ := reads_of 7 (.tup ys) _ f2 y
  exact in_tuple o rb ra c2 c1 d2 d1 hu (hQ.same0 I VR_bool)
 | ref i =>
  replace e := o_of e
  cases e with
  | list ys hs e =>
   obtain ⟨p, items, hp, e2, hs, hl, hv⟩ := I.lst y (at_lst hs)
   obtain ⟨⟨d, as, ra, c1, d1, c2, d2, rfl⟩, f2⟩ := inSeq x e
   obtain ⟨bs, rb⟩ := reads_list hl hv f2
   exact in_list o rb ra c2 c1 d2 d1 hu (hQ.same0 I VR_bool)
  | dict es hs e =>
   replace e := gd_of e; obtain ⟨hk, e⟩ := e
   replace e := s1 e; obtain rfl := e
   obtain ⟨p, hp, _, lo, hd⟩ := I.dct y hs
   cases keysOk_cases hk with
   | int i f =>
    obtain ⟨t⟩ := x
    obtain ⟨kvs, hd, q⟩ := hd.asInt f
    rw [← (KV.find int_inj i q).isSome] at hQ
    exact in_of o (knd := PySem.intKind X.prog X.w) (k := i) (by simp [PySem.intKind, Value.isInt]) lo hd.mapOf fun t => hQ.same I _ VR_bool
   | str i f =>
    obtain ⟨t⟩ := x
    obtain ⟨kvs, hd, q⟩ := hd.asStr f
    rw [← (KV.find str_inj i q).isSome] at hQ
    exact in_of o (knd := PySem.strKind X.prog X.w) (k := i) (by simp [PySem.strKind, Value.isStrOf]) lo hd.mapOf fun t => hQ.same I _ VR_bool
   | tup xs fx f =>
    cases o with
    | n =>
     have : (isTup (.tup xs) && isDict σ (.ref i)) = true := Bool.and_eq_true_iff.mpr ⟨fx, by show (dct σ i).isSome = true; rw [at_dct hs]; rfl⟩
     exact nomatch this.symm.trans (hn rfl)
    | i =>
     obtain ⟨kvs, hd, q⟩ := hd.asTup f
     rw [← (KV.findH xs q).isSome, Option.isSome_map] at hQ
     have x1 : VR s.heap [] (.tup xs) u := x.flat 6 _ _ fx
     obtain ⟨a, items, _, _⟩ := x
     exact wpAny_in_heap (knd := tupKind X.prog X.w) (k := xs) (by show A.units + 1 + 8 < cLine; lia) ⟨fx, x1⟩ lo hd (hQ.same I _ VR_bool)
 | _ => exact nomatch e

noncomputable def CmpIOk (op : CmpOp) (f : Int → Int → Bool) : Prop := ∀ X A ρ σ s i j t t' Q, Inv X ρ σ s.heap → EvP X ρ s (.bool (f i j)) σ Q → wpAny (model X.prog X.w) A (compareOp op (.int i t) (.int j t')) Q noE s
theorem P_cmpI {op : CmpOp} {f : Int → Int → Bool} (k : CmpIOk op f) (I : Inv X ρ σ s.heap) (x : VR s.heap ρ a u) (y : VR s.heap ρ b v) (e : cmpI a b f = some r) (hQ : EvP X ρ s (.bool r) σ Q) : wpAny (model X.prog X.w) A (compareOp op u v) Q noE s := by
 replace e := i_of e; obtain ⟨i, e⟩ := e
 replace e := i_of e; obtain ⟨j, e⟩ := e
 replace e := s1 e; obtain rfl := e
 obtain ⟨t⟩ := x
 obtain ⟨t'⟩ := y
 exact k _ _ _ _ _ _ _ _ _ _ I hQ
theorem P_cmp {op : COp} (hu : A.units + 100 ≤ cLine) (I : Inv X ρ σ s.heap) (x : VR s.heap ρ a u) (y : VR s.heap ρ b v) (e : cmp op a b σ = some r) (hQ : EvP X ρ s (.bool r) σ Q) :
  wpAny (model X.prog X.w) A (compareOp (opC op) u v) Q noE s := by
 cases op with
 | eq =>
  obtain ⟨da, db, as, bs, ra, rb, ha, hb, rfl⟩ := pyEq_reads I x y e
  exact eq_dataH ra rb ha hb (by lia) (hQ.same0 I VR_bool)
 | ne =>
  replace e := mp_of e; obtain ⟨r', e, e'⟩ := e
  obtain rfl := s1 e'
  obtain ⟨da, db, as, bs, ra, rb, ha, hb, rfl⟩ := pyEq_reads I x y e
  exact ne_dataH ra rb ha hb (by lia) (hQ.same0 I VR_bool)
 | lt => exact P_cmpI (fun _ _ _ _ _ _ _ _ _ _ I hQ => PyProof.Rows.lt_int (hQ.same0 I VR_bool)) I x y e hQ
 | gt => exact P_cmpI (fun _ _ _ _ _ _ _ _ _ _ I hQ => PyProof.Rows.gt_int (hQ.same0 I VR_bool)) I x y e hQ
 | ge => exact P_cmpI (fun _ _ _ _ _ _ _ _ _ _ I hQ => PyProof.Rows.ge_int (hQ.same0 I VR_bool)) I x y e hQ
 | isin => exact P_in .i nofun hu I x y e hQ
 | notin =>
  replace e := gd_of e; obtain ⟨hn, e⟩ := e
  replace e := mp_of e; obtain ⟨r', e, e'⟩ := e
  obtain rfl := s1 e'
  exact P_in .n (fun _ => hn) hu I x y e hQ
end

theorem isEmpty_eq {items : Array Value} {xs : List D} (h : items.size = xs.length) : items.isEmpty = xs.isEmpty := by
 rw [Array.isEmpty, h]
 cases xs <;> rfl

theorem P_truth {X : Cx} {A : Around} {ρ : Rho} {σ : St} {s : Shared} {a : D} {u : Value} {r : Bool} {Q : Bool → Shared → Prop} (I : Inv X ρ σ s.heap) (x : VR s.heap ρ a u) (e : truth σ a = some r) (hQ : ∀ t', Q r { s with toks := t' }) :
  wpAny (model X.prog X.w) A (truthy u) Q noE s := by
 have b63 := big63
 cases a with
 | none => obtain rfl := s1 e; obtain rfl := x; exact PyProof.Rows.truthy_none (hQ s.toks)
 | bool b => obtain rfl := s1 e; obtain rfl := x; exact wpAny_truthy_bool (hQ s.toks)
 | int i => obtain rfl := s1 e; obtain ⟨t⟩ := x; exact PyProof.Rows.truthy_int (hQ s.toks)
 | str y =>
  replace e := gd_of e; obtain ⟨hl, e⟩ := e
  replace e := s1 e; obtain rfl := e
  obtain ⟨t⟩ := x
  have : ((y.length : Int) != 0) = (y.length != 0) := by
   rw [Bool.eq_iff_iff]; simp
  exact PySem.P.truthy_str (by lia) (by rw [this]; exact hQ _)
 | tup xs =>
  replace e := gd_of e; obtain ⟨hl, e⟩ := e
  replace e := s1 e; obtain rfl := e
  obtain ⟨a, items, t, r⟩ := x
  have hz := r.size
  exact truthy_tuple t.isTup (by lia) (by rw [isEmpty_eq hz]; exact hQ _)
 | ref i =>
  replace e := bi_of e; obtain ⟨xs, hx, e⟩ := e
  replace e := gd_of e; obtain ⟨hl, e⟩ := e
  replace e := s1 e; obtain rfl := e
  obtain ⟨p, items, hp, e2, hs, hli, hv, hz⟩ := I.lst x hx
  exact wpAny_truthy_list hli (by lia) (by rw [isEmpty_eq hz]; exact hQ _)
end Mine
end

section
namespace Mine
set_option tactic.hygienic true in
theorem sub_ops (slice : Expr) (o i : Value) : ∃ ops, subscripted slice false o i = operate ops (getItem o i) := by
 cases slice <;> first | exact ⟨_, rfl⟩ | (rename_i l u st p; cases st <;> exact ⟨_, rfl⟩)

section
variable {X : Cx} {A : Around} {ρ : Rho} {σ σ' : St} {s : Shared} {value sl : Expr} {a k d : D} {u v : Value} {Q : Value → Shared → Prop}
theorem seqIdx {i : Int} {n : Nat} {k : Nat} (h : (if i < 0 then i + n else i) = (k : Int)) (hk : k < n) : seqIndex? i n = some k := by
 rw [seqIndex?, h]
 exact if_pos (Bool.and_eq_true_iff.mpr ⟨decide_eq_true (Int.natCast_nonneg k), decide_eq_true (Int.ofNat_lt.mpr hk)⟩)
inductive NthIs (xs : List D) (i : Int) (d : D) : Prop | mk (j : Nat) : seqIndex? i xs.length = some j → xs[j]? = some d → -(xs.length : Int) ≤ i → i < xs.length → NthIs xs i d
theorem nth_idx {xs : List D} {i : Int} (e : nth xs i = some d) : NthIs xs i d := by
 by_cases h0 : 0 ≤ i
 ·replace e := (if_pos h0).symm.trans e
  have h := (List.getElem?_eq_some_iff.mp e).1
  exact ⟨_, seqIdx ((if_neg (Int.not_lt.mpr h0)).trans (Int.toNat_of_nonneg h0).symm) h, e, by lia, by lia⟩
 ·replace e := (if_neg h0).symm.trans e
  replace e := gd_of e; obtain ⟨h1, e⟩ := e
  exact ⟨_, seqIdx ((if_pos (Int.not_le.mp h0)).trans (Int.toNat_of_nonneg h1).symm) (List.getElem?_eq_some_iff.mp e).1, e, by lia, by lia⟩
theorem P_item (hu : A.units + 100 ≤ cLine) (I : Inv X ρ σ s.heap) (x : VR s.heap ρ a u) (y : VR s.heap ρ k v) (e : item σ a k = some d) (hQ : EvP X ρ s d σ Q) :
  wpAny (model X.prog X.w) A (subscriptTail value sl u v) Q noE s := by
 obtain ⟨ops, hs⟩ := sub_ops sl u v
 cases a with
 | tup xs =>
  replace e := i_of e; obtain ⟨i, e⟩ := e
  replace e := gd_of e; obtain ⟨hl, e⟩ := e
  obtain ⟨b, items, t, r⟩ := x
  obtain ⟨tk⟩ := y
  obtain ⟨j, hj, e, lo, hi⟩ := nth_idx e
  have b63 := big63
  obtain ⟨w, hw, hr⟩ := r.get e
  exact tail_any (T := "tuple") t.typeIs slot_tuple_getitem.lookup (PyProof.Rows.getItem_tuple t.isTup (by lia) (by lia) (j := j) (by rw [r.size]; exact hj) (by rw [← Array.getElem?_toList]; exact hw) (hQ.same0 I hr)) hs
 | ref j =>
  replace e := o_of e
  cases e with
  | list xs hx e =>
   replace e := i_of e; obtain ⟨i, e⟩ := e
   replace e := gd_of e; obtain ⟨hb, e⟩ := e
   obtain ⟨p, items, hp, _, _, hl, hv, hz⟩ := I.lst x (at_lst hx)
   obtain ⟨tk⟩ := y
   obtain ⟨w, hw, hr⟩ := hv.get e
   have hj : i.toNat < xs.length := (List.getElem?_eq_some_iff.mp e).1
   have b63 := big63
   exact tail_any hl.typeIs slot_list_getitem.lookup (wpAny_getItem_list hl hb.1 (by lia) (by rw [← Array.getElem?_toList]; exact hw) (hQ.same0 I hr)) hs
  | dict es hx e =>
   replace e := gd_of e; obtain ⟨hk, e⟩ := e
   obtain ⟨p, hp, _, lo, hd⟩ := I.dct x hx
   cases keysOk_cases hk with
   | int i f =>
    obtain ⟨t⟩ := y
    obtain ⟨kvs, hd, q⟩ := hd.asInt f
    obtain ⟨w, hw, hf⟩ := (KV.find int_inj i q).get e
    exact tail_any hd.mapOf.typeIs slot_dict_getitem.lookup (wpAny_getItem_of (knd := PySem.intKind X.prog X.w) (k := i) (by simp [PySem.intKind, Value.isInt]) hd.mapOf hw (hQ.same I _ hf)) hs
   | str i f =>
    obtain ⟨t⟩ := y
    obtain ⟨kvs, hd, q⟩ := hd.asStr f
    obtain ⟨w, hw, hf⟩ := (KV.find str_inj i q).get e
    exact tail_any hd.mapOf.typeIs slot_dict_getitem.lookup (wpAny_getItem_of (knd := PySem.strKind X.prog X.w) (k := i) (by simp [PySem.strKind, Value.isStrOf]) hd.mapOf hw (hQ.same I _ hf)) hs
   | tup xs fx f =>
    have y0 : VR s.heap [] (.tup xs) v := y.flat 6 _ _ fx
    obtain ⟨b, items, _, _⟩ := y
    obtain ⟨kvs, hd, q⟩ := hd.asTup f
    obtain ⟨w, hw, hf⟩ := (KV.findH xs q).get e
    replace hw := mp_of hw; obtain ⟨w', hw, e'⟩ := hw
    obtain rfl := s1 e'
    exact tail_any hd.typeIs slot_dict_getitem.lookup (wpAny_getItem_heap (knd := tupKind X.prog X.w) (k := xs) (by show A.units + 1 + 8 < cLine; lia) ⟨fx, y0⟩ hd hw (hQ.same I _ hf)) hs
 | _ => exact nomatch e

inductive Cut (h : Heap) (ρ : Rho) (ys : List D) (items : Array Value) (vl vu : Value) : Prop | mk (lo hi : Option Int) : IsPart vl lo → IsPart vu hi → VRs h ρ ys (slicePick items lo hi none).toList → Cut h ρ ys items vl vu
theorem sliceL_spec {h : Heap} {xs ys : List D} {x y : D} {items : Array Value} (hv : VRs h ρ xs items.toList) (e : sliceL xs x y = some ys) {vl vu : Value} (hx : VR h ρ x vl) (hy : VR h ρ y vu) : Cut h ρ ys items vl vu := by
 have hz := hv.size
 cases x with
 | none =>
  replace e := i_of e; obtain ⟨b, e⟩ := e
  replace e := gd_of e; obtain ⟨h0, e⟩ := e
  replace e := s1 e; obtain rfl := e
  obtain rfl := hx
  obtain ⟨t⟩ := hy
  obtain ⟨n, rfl⟩ := Int.eq_ofNat_of_zero_le h0
  exact ⟨none, some n, .none, .int n t, by rw [slicePick_upto']; exact hv.take n⟩
 | int a =>
  cases y with
  | none =>
   replace e := gd_of e; obtain ⟨h0, e⟩ := e
   replace e := s1 e; obtain rfl := e
   obtain rfl := hy
   obtain ⟨t⟩ := hx
   obtain ⟨n, rfl⟩ := Int.eq_ofNat_of_zero_le h0
   exact ⟨some n, none, .int n t, .none, by rw [slicePick_from']; exact hv.drop n⟩
  | int b =>
   replace e := gd_of e; obtain ⟨h0, e⟩ := e
   replace e := s1 e; obtain rfl := e
   obtain ⟨t⟩ := hy
   obtain ⟨t'⟩ := hx
   obtain ⟨n, rfl⟩ := Int.eq_ofNat_of_zero_le h0.1
   obtain ⟨m, rfl⟩ := Int.eq_ofNat_of_zero_le (Int.le_trans h0.1 h0.2.1)
   exact ⟨some n, some m, .int n t', .int m t, by rw [slicePick_run items _ _ (by lia) (by lia)]; exact (hv.drop n).take (m - n)⟩
  | _ => exact nomatch e
 | _ => exact nomatch e
end

theorem slice_at (h : Heap) (a b c : Value) : (h.push { cls := .type "slice", data := .fields #[a, b, c] }).IsSliceOf h.objs.size a b c := Heap.IsSliceOf.new ..

theorem P_slice_list {X : Cx} {A : Around} {ρ : Rho} {σ σ' : St} {s : Shared} {value sl : Expr} {i : Nat} {xs ys : List D} {d x y : D} {u vl vu : Value} {Q : Value → Shared → Prop} (I : Inv X ρ σ s.heap) (ha : VR s.heap ρ (.ref i) u) (hx : VR s.heap ρ x vl) (hy : VR s.heap ρ y vu)
  (hl : lst σ i = some xs) (hb : xs.length ≤ big) (hs : sliceL xs x y = some ys) (e : alloc (.list ys) σ = some (d, σ')) (hQ : EvP X ρ s d σ' Q) :
  wpAny (model X.prog X.w) A (subscriptTail value sl u (.ref s.heap.objs.size)) Q noE { s with heap := s.heap.push { cls := .type "slice", data := .fields #[vl, vu, .none] } } := by
 obtain ⟨p, items, hp, _, _, hli, hv, hz⟩ := I.lst ha hl
 obtain ⟨lo, hi, pl, pu, r⟩ := sliceL_spec hv hs hx hy
 obtain ⟨ops, ho⟩ := sub_ops sl (.ref p.1) (.ref s.heap.objs.size)
 have sb := sizeLine_big
 have hk : ∀ b o, s.heap.get? b = some o → (s.heap.push { cls := .type "slice", data := .fields #[vl, vu, .none] }).get? b = some o := fun b o => Heap.get?_push_of_some _
 refine tail_any (Heap.IsList.typeIs (s := { s with heap := s.heap.push { cls := .type "slice", data := .fields #[vl, vu, .none] } }) (hli.push _)) slot_list_getitem.lookup
  (wpAny_getItem_list_slice (hli.push _) (slice_at ..) pl pu .none (by simp) ?_ (by lia)) ho
 exact mk_listK (s := s) (n := 0) (t := s.toks) I hk r e hQ

theorem P_rev {X : Cx} {A : Around} {ρ : Rho} {σ σ' : St} {s : Shared} {value sl : Expr} {i : Nat} {xs : List D} {d : D} {u : Value} {t : Tok} {Q : Value → Shared → Prop} (I : Inv X ρ σ s.heap) (ha : VR s.heap ρ (.ref i) u)
  (hl : lst σ i = some xs) (hb : xs.length ≤ big) (e : alloc (.list xs.reverse) σ = some (d, σ')) (hQ : EvP X ρ s d σ' Q) :
  wpAny (model X.prog X.w) A (subscriptTail value sl u (.ref s.heap.objs.size)) Q noE { s with heap := s.heap.push { cls := .type "slice", data := .fields #[.none, .none, .int (-1) t] } } := by
 obtain ⟨p, items, hp, _, _, hli, hv, hz⟩ := I.lst ha hl
 obtain ⟨ops, ho⟩ := sub_ops sl (.ref p.1) (.ref s.heap.objs.size)
 have sb := sizeLine_big
 have hk : ∀ b o, s.heap.get? b = some o → (s.heap.push { cls := .type "slice", data := .fields #[.none, .none, .int (-1) t] }).get? b = some o := fun b o => Heap.get?_push_of_some _
 refine tail_any (Heap.IsList.typeIs (s := { s with heap := s.heap.push { cls := .type "slice", data := .fields #[.none, .none, .int (-1) t] } }) (hli.push _)) slot_list_getitem.lookup
  (wpAny_getItem_list_slice (hli.push _) (slice_at ..) .none .none (.int (-1) t) (by decide) ?_ (by lia)) ho
 exact mk_listK (s := s) (n := 0) (t := s.toks) I hk (by rw [krv_pick]; exact hv.reverse) e hQ

theorem mid_adjust (n : Nat) (h : 2 ≤ n) : Builtin.Slice.sliceAdjust (some 1) (some (-1)) 1 (n : Int) = (1, (n : Int) - 1) := by
 unfold Builtin.Slice.sliceAdjust
 have h1 : ¬ ((1 : Int) < 0) := by lia
 have h2 : ((-1 : Int) < 0) := by lia
 simp only [h1, h2, if_false, if_true]
 congr 1 <;> lia
theorem mid_places (n : Nat) (h : 2 ≤ n) : Builtin.Slice.slicePlaces 1 ((n : Int) - 1) 1 = n - 2 := by
 unfold Builtin.Slice.slicePlaces
 have h1 : (1 : Int) > 0 := by lia
 simp only [h1, if_true, Int.ediv_one]
 split <;> lia
theorem mid_pick (xs : Array Value) (h : 2 ≤ xs.size) : ((List.range (xs.size - 2)).filterMap fun (k : Nat) => xs[((1 : Int) + (k : Int) * 1).toNat]?).toArray = ((xs.toList.take (xs.size - 1)).drop 1).toArray := by
 congr 1
 have e : (fun (k : Nat) => xs[((1 : Int) + (k : Int) * 1).toNat]?) = fun k => xs[1 + k]? := by
  funext k
  have : ((1 : Int) + (k : Int) * 1).toNat = 1 + k := by lia
  rw [this]
 rw [e]
 have := PySem.pick_run xs 1 (xs.size - 2)
 rw [List.filterMap_map] at this
 have e2 : ((fun x => xs[x]?) ∘ fun x => 1 + x) = fun k => xs[1 + k]? := rfl
 rw [e2] at this
 rw [this, List.drop_take]
 rfl

theorem P_slice_tup {X : Cx} {A : Around} {ρ : Rho} {σ : St} {s : Shared} {value sl : Expr} {xs : List D} {u : Value} {t t' : Tok} {Q : Value → Shared → Prop} (I : Inv X ρ σ s.heap) (ha : VR s.heap ρ (.tup xs) u)
  (h2 : 2 ≤ xs.length) (hb : xs.length ≤ big) (hQ : EvP X ρ s (.tup ((xs.take (xs.length - 1)).drop 1)) σ Q) :
  wpAny (model X.prog X.w) A (subscriptTail value sl u (.ref s.heap.objs.size)) Q noE { s with heap := s.heap.push { cls := .type "slice", data := .fields #[.int 1 t, .int (-1) t', .none] } } := by
 obtain ⟨b, items, tp, r⟩ := ha
 obtain ⟨ops, ho⟩ := sub_ops sl (.ref b) (.ref s.heap.objs.size)
 have hlen := r.size
 have sb := sizeLine_big
 have hk : ∀ b o, s.heap.get? b = some o → (s.heap.push { cls := .type "slice", data := .fields #[.int 1 t, .int (-1) t', .none] }).get? b = some o := fun b o => Heap.get?_push_of_some _
 have tp' := (tupMono hk _ _ tp).isTup
 have hS := slice_at s.heap (.int 1 t) (.int (-1) t') .none
 obtain ⟨os, hos, hcs, hds⟩ := id hS
 have tt : Shared.TypeIs { s with heap := s.heap.push { cls := .type "slice", data := .fields #[.int 1 t, .int (-1) t', .none] } } (.ref b) "tuple" := (tupMono hk _ _ tp).typeIs
 refine tail_any (T := "tuple") tt slot_tuple_getitem.lookup ?_ ho
 have hTs : Shared.TypeIs { s with heap := s.heap.push { cls := .type "slice", data := .fields #[.int 1 t, .int (-1) t', .none] } } (.ref s.heap.objs.size) "slice" := ⟨os, hos, hcs⟩
 unfold getItem
 try with_reducible refine wpAny_holding ?_
 first | refine wpAny_bind (wpAny_pure ?_) | skip
 refine wpAny_bind (wpAny_sequenceKey (T := "tuple") tt (by decide) ?_)
 refine wpAny_bind (wpAny_callSpecial?_slot (name := Str.ofString "__getitem__") (T := "tuple") tt slot_tuple_getitem
  (wpAny_call_entry slot_tuple_getitem tt entry_tuple_getitem ?_ (args_tuple_getitem _ _)))
 show wpAny _ _ (Builtin.Tuple.tupleItemsOf (.ref b) >>= _) _ _ _
 refine wpAny_bind (tupleItemsOf_ tp' ?_)
 refine wpAny_bind (wpAny_typeOf hTs ?_)
 rw [if_pos (by decide)]
 refine wpAny_bind (m := Builtin.Slice.sliceApplied (.ref s.heap.objs.size) (pure (items.size : Int))) ?_
 unfold Builtin.Slice.sliceApplied Builtin.Slice.sliceFields
 refine wpAny_bind (wpAny_bind (wpAny_field hos hds (x := .int 1 t) rfl (wpAny_bind (wpAny_field hos hds (x := .int (-1) t') rfl (wpAny_bind (wpAny_field hos hds (x := .none) rfl (wpAny_pure ?_)))))))
 refine wpAny_bind (slicePart_none ?_)
 show wpAny _ _ (if ((1 : Int) == 0) = true then _ else _) _ _ _
 rw [if_neg (by decide)]
 refine wpAny_bind (slicePart_int (wpAny_bind (slicePart_int (wpAny_bind (wpAny_pure ?_)))))
 show wpAny _ _ (match Builtin.Slice.sliceAdjust (some 1) (some (-1)) 1 (items.size : Int) with | (lo, hi) => pure (lo, (1 : Int), Builtin.Slice.slicePlaces lo hi 1)) _ _ _
 rw [mid_adjust items.size (by lia)]
 show wpAny _ _ (pure ((1 : Int), (1 : Int), Builtin.Slice.slicePlaces 1 ((items.size : Int) - 1) 1)) _ _ _
 rw [mid_places items.size (by lia)]
 refine wpAny_pure ?_
 show wpAny _ _ (if ((1 : Int) == 0 && (1 : Int) == 1 && (items.size - 2) == items.size) = true then _ else _) _ _ _
 rw [if_neg (by simp), mid_pick items (by lia)]
 have hsz : sizeOk (.seq ((items.toList.take (items.size - 1)).drop 1).toArray) := by
  show ((items.toList.take (items.size - 1)).drop 1).toArray.size ≤ sizeLine
  simp only [List.size_toArray, List.length_drop, List.length_take, Array.length_toList]
  lia
 have fin := mk_tupK (s := s) (n := 0) (t := s.toks) (vs := ((items.toList.take (items.size - 1)).drop 1).toArray) I hk (by rw [hlen]; exact (r.take (xs.length - 1)).drop 1) hQ
 first
  | exact wpAny_bind (m := Builtin.Tuple.tupleExact _) (wpAny_newObj_type (wpAny_pure ⟨_, rfl, wpAny_pure fin⟩) hsz)
  | exact wpAny_bind (m := Builtin.Tuple.tupleExact _) (wpAny_newObj_type (wpAny_bind (wpAny_pure (wpAny_pure ⟨_, rfl, wpAny_pure fin⟩))) hsz)
  | exact wpAny_bind (wpAny_bind (m := Builtin.Tuple.tupleExact _) (wpAny_newObj_type (wpAny_pure (wpAny_pure ⟨_, rfl, wpAny_pure fin⟩)) hsz))
  | exact wpAny_bind (wpAny_bind (m := Builtin.Tuple.tupleExact _) (wpAny_newObj_type (wpAny_pure ⟨_, rfl, wpAny_pure fin⟩) hsz))
end Mine
end

section
namespace Mine
theorem boolsOf_get {xs : List D} : ∀ {bs : List Bool}, boolsOf xs = some bs → xs = bs.map D.bool := by
 induction xs with
 | nil => intro bs e; replace e := s1 e; obtain rfl := e; rfl
 | cons d ds ih =>
  intro bs e
  replace e := b_of e; obtain ⟨b, e⟩ := e
  replace e := mp_of e; obtain ⟨r, e, e'⟩ := e
  obtain rfl := s1 e'
  rw [ih e]; rfl
theorem intsOf_get {xs : List D} : ∀ {ns : List Int}, intsOf xs = some ns → xs = ns.map D.int := by
 induction xs with
 | nil => intro bs e; replace e := s1 e; obtain rfl := e; rfl
 | cons d ds ih =>
  intro bs e
  replace e := i_of e; obtain ⟨b, e⟩ := e
  replace e := mp_of e; obtain ⟨r, e, e'⟩ := e
  obtain rfl := s1 e'
  rw [ih e]; rfl
theorem intsAre_of {h : Heap} {ρ : Rho} {ns : List Int} : ∀ {vs : List Value}, VRs h ρ (ns.map D.int) vs → IntsAre vs ns := by
 induction ns with
 | nil => intro vs x; rw [x.inv0]; exact .nil
 | cons n ns ih => rintro vs ⟨v, r, ⟨t⟩, b⟩; exact .cons n t (ih b)
theorem of_intsAre {h : Heap} {ρ : Rho} {ns : List Int} {vs : List Value} (x : IntsAre vs ns) : VRs h ρ (ns.map D.int) vs := by
 induction x with
 | nil => exact VRs.nil
 | cons n t _ ih => exact VRs.cons VR_int ih

theorem sort_eq {a b : List Int} (p : a.Perm b) (o : a.Pairwise (· ≤ ·)) : a = b.mergeSort (fun a b => decide (a ≤ b)) := by
 refine List.Perm.eq_of_pairwise (le := (· ≤ ·)) (fun x y _ _ h1 h2 => Int.le_antisymm h1 h2) o ?_ (p.trans (List.mergeSort_perm b _).symm)
 have := List.pairwise_mergeSort (le := fun (a b : Int) => decide (a ≤ b)) (fun a b c h1 h2 => by simp at *; lia) (fun a b => by simp; lia) b
 exact this.imp fun h => by simpa using h

theorem getD_at {bs : List Bool} {i : Nat} (h : i < bs.length) : bs.getD i false = bs[i] := by rw [List.getD_eq_getElem?_getD, List.getElem?_eq_getElem h]; rfl
theorem range_getD (bs : List Bool) : (List.range bs.length).map (fun i => bs.getD i false) = bs := by
 refine List.ext_getElem (by rw [List.length_map, List.length_range]) fun i h1 h2 => ?_
 rw [List.getElem_map, List.getElem_range, getD_at h2]
theorem range_any (bs : List Bool) : (List.range bs.length).any (fun i => bs.getD i false) = bs.any id := by
 conv => rhs; rw [← range_getD bs, List.any_map]
 rfl
theorem range_all (bs : List Bool) : (List.range bs.length).all (fun i => bs.getD i false) = bs.all id := by
 conv => rhs; rw [← range_getD bs, List.all_map]
 rfl

section
variable {X : Cx} {A : Around} {ρ : Rho} {σ σ' : St} {s : Shared} {a d : D} {u v : Value} {Q : Value → Shared → Prop}
theorem truthy_at {prog : Program} {w : World} {A : Around} {E : Value → Shared → Prop} {items : Array Value} {bs : List Bool} {s' : Shared} {i : Nat} {v : Value} {Q' : Bool → Shared → Prop} (hv : VRs s.heap ρ (bs.map D.bool) items.toList) (hP : items[i]? = some v) (hQ' : Q' (bs.getD i false) s') : wpAny (model prog w) A (truthy v) Q' E s' := by
 have hi : i < bs.length := by
  have := (Array.getElem?_eq_some_iff.mp hP).1
  have hz := hv.size
  rw [List.length_map] at hz
  lia
 obtain ⟨w, hw, hr⟩ := hv.get (i := i) (by rw [List.getElem?_map, List.getElem?_eq_getElem hi]; rfl)
 rw [Array.getElem?_toList, hP] at hw
 rw [getD_at hi] at hQ'
 replace hw := s1 hw; obtain rfl := hw
 obtain rfl := hr
 exact wpAny_truthy_bool hQ'
theorem P_any {i : Nat} {xs : List D} {bs : List Bool} (hh : A.handled = none) (I : Inv X ρ σ s.heap) (x : VR s.heap ρ (.ref i) u) (hx : lst σ i = some xs) (e : boolsOf xs = some bs) (hQ : EvP X ρ s (.bool (bs.any id)) σ Q) :
  wpAny (model X.prog X.w) A (call (.builtin "any") [u]) Q noE s := by
 obtain rfl := boolsOf_get e
 obtain ⟨p, items, hp, _, _, hl, hv, hz⟩ := I.lst x hx
 rw [List.length_map] at hz
 refine PySem.call_any_walk (wpAny_pyIter_list hl ?_)
 have hne : p.1 ≠ s.heap.objs.size := by obtain ⟨_, ho, _⟩ := hl; exact getNone ho (fresh_size _ 0)
 refine ⟨_, _, _, items.size, _, _, fun i => bs.getD i false, rfl, Walks.list (A := A.in1) hh s.heap.objs.size p.1 hne items, ⟨⟨_, Heap.get?_push_size _ rfl, rfl, rfl⟩, hl.push _⟩, fun i v s' Q' E' hP hQ' => truthy_at hv hP hQ', fun h' tk hk => ?_⟩
 rw [hz, range_any]
 have hk' : ∀ b o, s.heap.get? b = some o → h'.get? b = some o := fun b o e => hk b o (fun m => getNone e (fresh_size _ 0) (List.mem_singleton.mp m)) (Heap.get?_push_of_some _ e)
 exact hQ _ _ h' tk (I.kept hk') (Step.kept hk') VR_bool
theorem P_all {i : Nat} {xs : List D} {bs : List Bool} (hh : A.handled = none) (I : Inv X ρ σ s.heap) (x : VR s.heap ρ (.ref i) u) (hx : lst σ i = some xs) (e : boolsOf xs = some bs) (hQ : EvP X ρ s (.bool (bs.all id)) σ Q) :
  wpAny (model X.prog X.w) A (call (.builtin "all") [u]) Q noE s := by
 obtain rfl := boolsOf_get e
 obtain ⟨p, items, hp, _, _, hl, hv, hz⟩ := I.lst x hx
 rw [List.length_map] at hz
 refine PySem.call_all_walk (wpAny_pyIter_list hl ?_)
 have hne : p.1 ≠ s.heap.objs.size := by obtain ⟨_, ho, _⟩ := hl; exact getNone ho (fresh_size _ 0)
 refine ⟨_, _, _, items.size, _, _, fun i => bs.getD i false, rfl, Walks.list (A := A.in1) hh s.heap.objs.size p.1 hne items, ⟨⟨_, Heap.get?_push_size _ rfl, rfl, rfl⟩, hl.push _⟩, fun i v s' Q' E' hP hQ' => truthy_at hv hP hQ', fun h' tk hk => ?_⟩
 rw [hz, range_all]
 have hk' : ∀ b o, s.heap.get? b = some o → h'.get? b = some o := fun b o e => hk b o (fun m => getNone e (fresh_size _ 0) (List.mem_singleton.mp m)) (Heap.get?_push_of_some _ e)
 exact hQ _ _ h' tk (I.kept hk') (Step.kept hk') VR_bool
end

theorem KV.keys {K : Type} {h : Heap} {ρ : Rho} {enc : K → D} {es : List (D × D)} : ∀ {l : List (K × Value)}, KV h ρ enc es l → es.map (·.1) = l.map fun x => enc x.1 := by
 induction es with
 | nil => intro l x; rw [KV.nil x]; rfl
 | cons e r ih => rintro _ ⟨k, v, q, e1, _, e3⟩; rw [List.map_cons, List.map_cons, e1, ih e3]

theorem P_sort_tail {X : Cx} {A : Around} {ρ : Rho} {σ σ' : St} {s : Shared} {h₁ : Heap} {t₁ : Nat} {vs : List Value} {ns : List Int} {d : D} {Q : Value → Shared → Prop} (I : Inv X ρ σ s.heap) (hk : ∀ b o, s.heap.get? b = some o → h₁.get? b = some o)
  (hI : IntsAre vs ns) (h64 : ns.length < 64) (e : alloc (.list ((ns.mergeSort (fun a b => decide (a ≤ b))).map .int)) σ = some (d, σ')) (hQ : EvP X ρ s d σ' Q) :
  wpAny (model X.prog X.w) A (call (.builtin "list.sort") [.ref h₁.objs.size]) (fun _ s' => Q (.ref h₁.objs.size) s') noE { s with heap := h₁.push { cls := .type "list", data := .seq vs.toArray }, toks := t₁ } := by
 have hoL : (h₁.push { cls := .type "list", data := .seq vs.toArray }).get? h₁.objs.size = some (seqObj "list" vs.toArray 0) := Heap.get?_push_size _ rfl
 have hlv := hI.length
 refine wpAny_call_entry slot_list_sort ⟨_, hoL, rfl⟩ entry_list_sort (list_sort_tree hoL hI (by lia) fun out ns' a1 a2 a3 => ⟨_, rfl, ?_⟩) (args_list_sort _)
 obtain ⟨c, hc⟩ := sortedHeap_at (out := out) hoL
 have hold : ∀ b o, s.heap.get? b = some o → (sortedHeap (h₁.push { cls := .type "list", data := .seq vs.toArray }) h₁.objs.size vs out).get? b = some o := fun b o e => by
  have e1 := hk b o e
  have hlt := Heap.lt_size e1
  rw [sortedHeap_old (Nat.ne_of_lt hlt) (by rw [Heap.size_push]; exact Nat.lt_succ_of_lt hlt)]
  exact Heap.get?_push_of_some _ e1
 have hn : s.heap.get? h₁.objs.size = none := notSome fun _ e => absurd (Heap.lt_size (hk _ _ e)) (Nat.lt_irrefl _)
 have := sort_eq a2 a3
 exact mk_list_at (s := s) (t := t₁) I hold hn hc (of_intsAre (this ▸ a1)) e hQ

theorem ints_keys {w : World} {prog : Program} {h : Heap} {ρ : Rho} {l : List (Int × Value)} : ∀ {vs : List Value}, vs.length = l.length → (∀ (j : Nat) (v : Value), vs[j]? = some v → ∃ (k : Int) (x : Value), l[j]? = some (k, x) ∧ (PySem.intKind prog w).is k v = true) → VRs h ρ ((l.map (·.1)).map D.int) vs := by
 induction l with
 | nil => intro vs h _; rw [List.eq_nil_of_length_eq_zero h]; exact VRs.nil
 | cons y l ih =>
  intro vs h hp
  cases vs with
  | nil => exact nomatch h
  | cons v vs =>
   obtain ⟨k, x', e1, e2⟩ := hp 0 v rfl
   replace e1 := s1 e1; obtain rfl := e1
   obtain ⟨t, rfl⟩ := Value.isInt_shape e2
   exact VRs.cons VR_int (ih (Nat.succ.inj h) fun j w hw => hp (j + 1) w hw)
theorem P_sortedL {X : Cx} {A : Around} {ρ : Rho} {σ σ' : St} {s : Shared} {i : Nat} {xs : List D} {ns : List Int} {d : D} {u : Value} {Q : Value → Shared → Prop} (I : Inv X ρ σ s.heap) (x : VR s.heap ρ (.ref i) u) (hx : σ[i]? = some (.list xs)) (hn : intsOf xs = some ns) (h64 : ns.length < 64) (e : alloc (.list (srt ns)) σ = some (d, σ')) (hQ : EvP X ρ s d σ' Q) :
  wpAny (model X.prog X.w) A (call (.builtin "sorted") [u]) Q noE s := by
 obtain rfl := intsOf_get hn
 obtain ⟨p, items, hp, _, _, hl, hv⟩ := I.lst x (at_lst hx)
 have hI := intsAre_of hv
 have hlv := hI.length
 refine sorted_ints (vs := items.toList) (by rw [Array.toArray_toList]; exact hl) hI (by lia) fun out ns' a1 a2 a3 => ?_
 obtain ⟨c, hc⟩ := sortedAll_at s.heap items.toList out
 exact mk_list_at (s := s) (t := s.toks) I (fun _ _ => sortedAll_old) (fresh_size _ 1) hc (of_intsAre (sort_eq a2 a3 ▸ a1)) e hQ
theorem P_sortedD {X : Cx} {A : Around} {ρ : Rho} {σ σ' : St} {s : Shared} {i : Nat} {es : List (D × D)} {ns : List Int} {d : D} {u : Value} {Q : Value → Shared → Prop} (hh : A.handled = none) (I : Inv X ρ σ s.heap) (x : VR s.heap ρ (.ref i) u) (hx : σ[i]? = some (.dict es)) (hn : intsOf (es.map (·.1)) = some ns) (h64 : ns.length < 64) (e : alloc (.list (srt ns)) σ = some (d, σ')) (hQ : EvP X ρ s d σ' Q) :
  wpAny (model X.prog X.w) A (call (.builtin "sorted") [u]) Q noE s := by
 obtain ⟨p, hp, _, lo, hd⟩ := I.dct x hx
 have hkeys := intsOf_get hn
 have f : (es.all fun e => isInt e.1) = true := by
  have : (es.map (·.1)).all isInt = true := by rw [hkeys, List.all_map]; exact List.all_eq_true.mpr fun _ _ => rfl
  rw [List.all_map] at this; exact this
 obtain ⟨kvs, hD, q⟩ := hd.asInt f
 obtain ⟨ep, hat⟩ := hD.dictAt
 have hkk : kvs.map (·.1) = ns := by
  have h1 := hkeys.symm.trans q.keys
  have h1 := h1.trans (List.map_map (f := fun x : Int × Value => x.1) (g := D.int)).symm
  exact ((List.map_inj_right fun a b h => int_inj a b h).mp h1).symm
 subst hkk
 rw [List.length_map] at h64
 have sb := sizeLine_big
 refine Calls.call_function_entry kind_sorted plain_sorted entry_sorted (args_sorted1 _) ?_
 unfold Builtin.«sorted»
 refine wpAny_bind (m := checkCount "sorted" 1 1 _) (wpAny_pure ?_)
 have hb : (64 : Nat) ≤ big := by decide
 refine wpAny_bind (kdu_collect (A := A.in1) (kdl_dict (knd := PySem.intKind X.prog X.w) (kvs := kvs) (ep := ep) lo) hh hat (by lia) fun h' tk acc hk hacc => ?_)
 have hl : acc.toList.length = kvs.length := by rw [Array.length_toList]; exact hacc.1
 have hI : IntsAre acc.toList (kvs.map (·.1)) := intsAre_of (h := h') (ρ := ρ) (ints_keys hl fun j v e => hacc.2 j v (by rw [← Array.getElem?_toList]; exact e))
 refine wpAny_bind (wpAny_newList ?_ (by lia))
 refine wpAny_bind (wpAny_holding (wpAny_mono (P_sort_tail (s := s) (A := A.in1) I hk hI (by rw [List.length_map]; exact h64) e hQ) (fun _ s' z => ?_) fun _ _ e => e))
 exact wpAny_pure ⟨_, rfl, z⟩
theorem P_sorted {X : Cx} {A : Around} {ρ : Rho} {σ σ' : St} {s : Shared} {a d : D} {u : Value} {Q : Value → Shared → Prop} (hh : A.handled = none) (I : Inv X ρ σ s.heap) (x : VR s.heap ρ a u) (e : bi .sorted a σ = some (d, σ')) (hQ : EvP X ρ s d σ' Q) :
  wpAny (model X.prog X.w) A (call (.builtin "sorted") [u]) Q noE s := by
 replace e := r_of e; obtain ⟨i, e⟩ := e
 replace e := o_of e
 cases e with
 | list xs hx e =>
  replace e := bi_of e; obtain ⟨ns, hn, e⟩ := e
  replace e := gd_of e; obtain ⟨hb, e⟩ := e
  exact P_sortedL I x hx hn hb e hQ
 | dict xs hx e =>
  replace e := bi_of e; obtain ⟨ns, hn, e⟩ := e
  replace e := gd_of e; obtain ⟨hb, e⟩ := e
  exact P_sortedD hh I x hx hn hb e hQ

noncomputable def biVal : Bi → Value
 | .len => .builtin "len" | .any => .builtin "any" | .all => .builtin "all" | .sorted => .builtin "sorted" | .tuple => .type "tuple" | .str => .type "str"

theorem bits_small {i : Int} (hb : 0 ≤ i ∧ i < 1000) : i.natAbs.log2 < 1920 := by
 by_cases h0 : i.natAbs = 0
 ·rw [h0]; decide
 ·exact (Nat.log2_lt h0).mpr (Nat.lt_of_lt_of_le (show i.natAbs < 2 ^ 10 by lia) (Nat.pow_le_pow_right (by decide) (by decide)))
theorem P_bi {X : Cx} {A : Around} {ρ : Rho} {σ σ' : St} {s : Shared} {f : Bi} {a d : D} {u : Value} {Q : Value → Shared → Prop} (hh : A.handled = none) (I : Inv X ρ σ s.heap) (x : VR s.heap ρ a u) (e : bi f a σ = some (d, σ')) (hQ : EvP X ρ s d σ' Q) :
  wpAny (model X.prog X.w) A (call (biVal f) [u]) Q noE s := by
 cases f with
 | len =>
  cases a with
  | tup xs =>
   replace e := gd_of e; obtain ⟨hb, e⟩ := e
   replace e := sp e; obtain ⟨rfl, rfl⟩ := e
   obtain ⟨b, items, t, r⟩ := x
   have b63 := big63
   have hz := r.size
   exact PyProof.Rows.len_tuple t.isTup (by lia) (by rw [hz]; exact hQ.same I _ VR_int)
  | ref i =>
   replace e := bi_of e; obtain ⟨xs, hx, e⟩ := e
   replace e := gd_of e; obtain ⟨hb, e⟩ := e
   replace e := sp e; obtain ⟨rfl, rfl⟩ := e
   obtain ⟨p, items, hp, _, _, hl, hv, hz⟩ := I.lst x hx
   have b63 := big63
   exact Calls.call_len_list hl (by lia) (by rw [hz]; exact hQ.same I _ VR_int)
  | _ => exact nomatch e
 | any =>
  replace e := r_of e; obtain ⟨i, e⟩ := e
  replace e := bi_of e; obtain ⟨xs, hx, e⟩ := e
  replace e := gd_of e; obtain ⟨hb, e⟩ := e
  replace e := mp_of e; obtain ⟨bs, e1, e⟩ := e
  replace e := sp e; obtain ⟨rfl, rfl⟩ := e
  exact P_any hh I x hx e1 hQ
 | all =>
  replace e := r_of e; obtain ⟨i, e⟩ := e
  replace e := bi_of e; obtain ⟨xs, hx, e⟩ := e
  replace e := gd_of e; obtain ⟨hb, e⟩ := e
  replace e := mp_of e; obtain ⟨bs, e1, e⟩ := e
  replace e := sp e; obtain ⟨rfl, rfl⟩ := e
  exact P_all hh I x hx e1 hQ
 | sorted => exact P_sorted hh I x e hQ
 | tuple =>
  cases a with
  | ref i =>
   replace e := bi_of e; obtain ⟨xs, hx, e⟩ := e
   replace e := gd_of e; obtain ⟨hb, e⟩ := e
   replace e := sp e; obtain ⟨rfl, rfl⟩ := e
   obtain ⟨p, items, hp, _, _, hl, hv, hz⟩ := I.lst x hx
   have sb := sizeLine_big
   exact call_tuple_list hl (fun h' hk => mk_tupK (s := s) (n := 0) (t := s.toks) I hk hv hQ) (by lia)
  | tup xs =>
   replace e := sp e; obtain ⟨rfl, rfl⟩ := e
   have x0 := hQ.same0 I x
   obtain ⟨b, items, t, r⟩ := x
   exact call_tuple_tup t.isTup x0
  | _ => exact nomatch e
 | str =>
  replace e := i_of e; obtain ⟨i, e⟩ := e
  replace e := gd_of e; obtain ⟨hb, e⟩ := e
  replace e := sp e; obtain ⟨rfl, rfl⟩ := e
  obtain ⟨t⟩ := x
  exact PySem.P.str_of_int (bits_small hb) (hQ.same I _ VR_str)

theorem P_max {X : Cx} {A : Around} {ρ : Rho} {σ : St} {s : Shared} {i j : Int} {u v : Value} {Q : Value → Shared → Prop} (hh : A.handled = none) (I : Inv X ρ σ s.heap) (x : VR s.heap ρ (.int i) u) (y : VR s.heap ρ (.int j) v) (hQ : EvP X ρ s (.int (max i j)) σ Q) :
  wpAny (model X.prog X.w) A (call (.builtin "max") [u, v]) Q noE s := by
 obtain ⟨t⟩ := x
 obtain ⟨t'⟩ := y
 refine max_two_ints hh fun h' tk hk => ?_
 by_cases c : j > i
 ·rw [if_pos c]; rw [Int.max_eq_right (Int.le_of_lt c)] at hQ; exact hQ _ _ h' tk (I.kept hk) (Step.kept hk) VR_int
 ·rw [if_neg c]; rw [Int.max_eq_left (Int.not_lt.mp c)] at hQ; exact hQ _ _ h' tk (I.kept hk) (Step.kept hk) VR_int

theorem put_eq {σ σ' : St} {i : Nat} {o : Ob} (e : put σ i o = some σ') : 2 ≤ i ∧ σ' = σ.set i o := by
 by_cases h : i < 2
 ·exact nomatch (if_pos h).symm.trans e
 ·exact ⟨Nat.not_lt.mp h, (s1 ((if_neg h).symm.trans e)).symm⟩
theorem samebut_live {h h' : Heap} {a b : Addr} {o o' : Obj} (hb : Heap.SameBut b h h') (hl : h'.get? b = some o') (e : h.get? a = some o) : ∃ o, h'.get? a = some o := by
 by_cases q : a = b
 ·exact ⟨o', q ▸ hl⟩
 ·exact ⟨o, (hb.2 a q).trans e⟩
theorem samebut_tup {h h' : Heap} {b : Addr} (hb : Heap.SameBut b h h') (nt : NoTup h b) : ∀ a items, TupAt h a items → TupAt h' a items := by
 intro a items t
 have n : a ≠ b := fun q => nt items (q ▸ t.isTup)
 obtain ⟨n', ho⟩ := t
 exact ⟨n', (hb.2 a n).trans ho⟩

theorem upd_list {X : Cx} {ρ : Rho} {σ σ' : St} {s : Shared} {h' : Heap} {i : Nat} {p : Addr × Addr} {xs ys : List D} {vs' : Array Value} {n : Nat} (I : Inv X ρ σ s.heap) (hp : ρ[i]? = some p) (hs : σ[i]? = some (.list xs)) (e : put σ i (.list ys) = some σ')
  (hb : Heap.SameBut p.1 s.heap h') (hl : h'.get? p.1 = some { cls := .type "list", data := .seq vs' n }) (hv : VRs s.heap ρ ys vs'.toList) : Inv X ρ σ' h' ∧ Step [] ρ s.heap ρ h' := by
 obtain ⟨h2, rfl⟩ := put_eq e
 have x := I.obj i p _ hp hs
 have nt := x.noTup.1
 obtain ⟨items, e2, _⟩ := x
 exact I.upd hp h2 (fun a o e h1 h2' => (hb.2 a (e2 ▸ h2')).trans e) (fun a o e => samebut_live hb hl e) ⟨vs', e2, fun _ o e => get2 hl e ▸ ⟨rfl, rfl⟩, ⟨_, hl, rfl, n, rfl⟩, VRs.mono (fun _ _ e => e) (samebut_tup hb nt) _ _ hv⟩

inductive ExL (h : Heap) (ρ : Rho) (a : Addr) (xs : List D) : Prop | mk (items : Array Value) (n : Nat) : h.get? a = some { cls := .type "list", data := .seq items n } → VRs h ρ xs items.toList → items.size = xs.length → ExL h ρ a xs
theorem exact_list {X : Cx} {ρ : Rho} {σ : St} {h : Heap} {i : Nat} {p : Addr × Addr} {xs : List D} (I : Inv X ρ σ h) (hp : ρ[i]? = some p) (hs : σ[i]? = some (.list xs)) (h2 : 2 ≤ i) : ExL h ρ p.1 xs := by
 obtain ⟨items, e2, hx, ⟨⟨c, dd, dt, sl⟩, ho, rfl, n, rfl⟩, hv⟩ := I.obj i p _ hp hs
 obtain ⟨rfl, rfl⟩ := hx (I.new i p hp h2).1 _ ho
 exact ⟨items, n, ho, hv, hv.size⟩

section
variable {X : Cx} {A : Around} {ρ : Rho} {σ σ' : St} {s : Shared} {i : Nat} {xs ys : List D} {d : D} {u v : Value} {Q : Value → Shared → Prop}
inductive WrL (X : Cx) (ρ : Rho) (s : Shared) (xs ys : List D) (σ' : St) (Q : Value → Shared → Prop) : Value → Prop | mk (a : Addr) (its : Array Value) (n : Nat) : s.heap.get? a = some { cls := .type "list", data := .seq its n } → VRs s.heap ρ xs its.toList → its.size = xs.length →
 (∀ (f : Array Value → Array Value) (t : Nat), VRs s.heap ρ ys (f its).toList → Q .none { s with heap := s.heap.update a (Obj.mapSeq f), toks := t }) → WrL X ρ s xs ys σ' Q (.ref a)
theorem wr_list (I : Inv X ρ σ s.heap) (x : VR s.heap ρ (.ref i) u) (hx : lst σ i = some xs) (e : put σ i (.list ys) = some σ') (hQ : EvP X ρ s .none σ' Q) : WrL X ρ s xs ys σ' Q u := by
 obtain ⟨p, items, hp, _, hs, hl, hv⟩ := I.lst x hx
 obtain ⟨its, n, ho, hv, hz⟩ := exact_list I hp hs (put_eq e).1
 refine ⟨p.1, its, n, ho, hv, hz, fun f t hv' => ?_⟩
 obtain ⟨I', S'⟩ := upd_list (h' := s.heap.update p.1 (Obj.mapSeq f)) (vs' := f its) (n := _) I hp hs e (Heap.SameBut.update ..) (Heap.get?_update_self (Obj.mapSeq f) ho rfl) hv'
 exact hQ _ _ _ t I' S' VR_none
theorem P_append (I : Inv X ρ σ s.heap) (x : VR s.heap ρ (.ref i) u) (y : VR s.heap ρ d v) (hx : lst σ i = some xs) (hb : xs.length ≤ big) (e : put σ i (.list (xs ++ [d])) = some σ') (hQ : EvP X ρ s .none σ' Q) :
  wpAny (model X.prog X.w) A (call (.builtin "list.append") [u, v]) Q noE s := by
 obtain ⟨a, its, n, ho, hv, hz, k⟩ := wr_list I x hx e hQ
 have sb := sizeLine_big
 exact wpAny_call_entry slot_list_append ⟨_, ho, rfl⟩ entry_list_append (wpAny_bind (m := updateSeq a (·.push v)) (wpAny_updateSeq ho rfl (wpAny_pure ⟨.none, rfl, k _ _ (by rw [Array.toList_push]; exact VRs.append (.cons y .nil) hv)⟩) (by lia) (by simp; lia))) (args_list_append _ _)

theorem P_extend (I : Inv X ρ σ s.heap) (x : VR s.heap ρ (.ref i) u) (y : VR s.heap ρ d v) (hx : lst σ i = some xs) (hy : seqOf σ d = some ys) (hb : xs.length + ys.length ≤ big)
  (hd : d ≠ .ref i ∧ d ≠ .ref 0 ∧ d ≠ .ref 1) (e : put σ i (.list (xs ++ ys)) = some σ') (hQ : EvP X ρ s .none σ' Q) :
  wpAny (model X.prog X.w) A (call (.builtin "list.extend") [u, v]) Q noE s := by
 obtain ⟨a, its, n, ho, hv, hz, k⟩ := wr_list I x hx e hQ
 have sb := sizeLine_big
 have fin : ∀ (its2 : Array Value), VRs s.heap ρ ys its2.toList → Q .none { s with heap := s.heap.update a (Obj.mapSeq fun x => x ++ its2), toks := s.toks } := fun its2 hv2 => k (fun x => x ++ its2) _ (by rw [Array.toList_append]; exact hv2.append hv)
 cases d with
 | tup zs =>
  replace hy := s1 hy; obtain rfl := hy
  obtain ⟨b, its2, ⟨m, t⟩, r⟩ := y
  have hz2 := r.size
  exact call_meets PySem.F.slot_list_extend ⟨_, ho, rfl⟩ PySem.F.entry_list_extend (PySem.F.args_list_extend_2 _ _) (PySem.AutoSeq1.list_extend_list_tuple_0 a its n b its2 m (extend_door (by lia)) (by lia) (by lia)) ⟨ho, t, fin its2 r⟩
 | ref j =>
  have hj : 2 ≤ j := by
   match j, hd with
   | 0, hd => exact absurd rfl hd.2.1
   | 1, hd => exact absurd rfl hd.2.2
   | n + 2, _ => exact Nat.le_add_left 2 n
  obtain ⟨q, items', hq, _, hs', hl', _⟩ := I.lst y hy
  obtain ⟨its2, m, ho2, hv2, hz2⟩ := exact_list I hq hs' hj
  exact call_meets PySem.F.slot_list_extend ⟨_, ho, rfl⟩ PySem.F.entry_list_extend (PySem.F.args_list_extend_2 _ _) (PySem.AutoSeq1.list_extend_list_list_0 a its n q.1 its2 m (extend_door (by lia)) (by lia) (by lia)) ⟨ho, ho2, fin its2 hv2⟩
 | _ => exact nomatch hy

theorem P_dget {es : List (D × D)} {k e : D} {w : Value} (I : Inv X ρ σ s.heap) (x : VR s.heap ρ (.ref i) u) (y : VR s.heap ρ k v) (z : VR s.heap ρ e w) (hx : dct σ i = some es) (hk : isInt k = true) (f : (es.all fun e => isInt e.1) = true) (hQ : EvP X ρ s ((dfind es k).getD e) σ Q) :
  wpAny (model X.prog X.w) A (call (.builtin "dict.get") [u, v, w]) Q noE s := by
 obtain ⟨p, hp, _, lo, hd⟩ := I.dct x (dct_at hx)
 obtain ⟨j, rfl⟩ := isInt_of hk
 obtain ⟨t⟩ := y
 obtain ⟨kvs, hd, q⟩ := hd.asInt f
 refine call_meetsIn PySem.F.slot_dict_get hd.mapOf.typeIs PySem.F.entry_dict_get (PySem.F.args_dict_get_3 _ _ _) (meets_dict_get_default (PySem.intKind X.prog X.w) p.1 (k := j) (key := .int j t) (by simp [PySem.intKind, Value.isInt]) lo w) ⟨_, hd.mapOf, hQ.same I _ ?_⟩
 have hf := KV.find int_inj j q
 cases h1 : dfind es (.int j) with
 | none => rw [h1] at hf; rw [show valueAt kvs j = none from hf]; exact z
 | some d' => obtain ⟨v, e, r⟩ := hf.get h1; rw [e]; exact r
end
end Mine
end

section
namespace Mine
noncomputable def EvU (X : Cx) (ρ : Rho) (s : Shared) (σ' : St) (Q : Unit → Shared → Prop) : Prop := ∀ h' t', Inv X ρ σ' h' → Step [] ρ s.heap ρ h' → Q () { s with heap := h', toks := t' }
theorem VRs.set {h : Heap} {ρ : Rho} {d : D} {v : Value} (y : VR h ρ d v) {ds : List D} : ∀ {vs : List Value} (j : Nat), VRs h ρ ds vs → VRs h ρ (ds.set j d) (vs.set j v) := by
 induction ds with
 | nil => intro vs j x; rw [x.inv0, List.set_nil]; exact VRs.nil
 | cons z zs ih =>
  rintro vs j ⟨w, r, a, b⟩
  cases j with
  | zero => exact .cons y b
  | succ j => exact .cons a (ih j b)

set_option maxRecDepth 100000 in
theorem P_setList {X : Cx} {A : Around} {ρ : Rho} {σ σ' : St} {s : Shared} {i : Nat} {xs : List D} {k : Int} {t : Tok} {d : D} {u v : Value} {Q : Unit → Shared → Prop} (I : Inv X ρ σ s.heap) (x : VR s.heap ρ (.ref i) u) (y : VR s.heap ρ d v) (hx : σ[i]? = some (.list xs)) (h0 : 0 ≤ k) (hn : k.toNat < xs.length) (hb : xs.length ≤ big)
  (e : put σ i (.list (xs.set k.toNat d)) = some σ') (hQ : EvU X ρ s σ' Q) :
  wpAny (model X.prog X.w) A (setItem u (.int k t) v) Q noE s := by
 obtain ⟨p, items, hp, _, hs, hl, hv⟩ := I.lst x (at_lst hx)
 obtain ⟨its, n, ho, hv, hz⟩ := exact_list I hp hs (put_eq e).1
 have hl : s.heap.IsList p.1 its := ⟨_, ho, rfl, n, rfl⟩
 have hfi := fitsIndex_of h0 (by have := big63; lia)
 unfold setItem
 try with_reducible refine wpAny_holding ?_
 first | refine wpAny_bind (wpAny_pure ?_) | skip
 refine wpAny_bind (wpAny_sequenceKey hl.typeIs (by decide) ?_)
 refine wpAny_bind (wpAny_callSpecial?_slot (name := Str.ofString "__setitem__") hl.typeIs slot_list_setitem
  (wpAny_call_entry slot_list_setitem hl.typeIs entry_list_setitem ?_ (args_list_setitem _ _ _)))
 refine (?_ : wpAny _ _ (Builtin.List.listSubscript? (.int k t) >>= _) _ _ s)
 refine wpAny_bind (wpAny_listSubscript_int hfi ?_)
 obtain ⟨j, rfl⟩ := Int.eq_ofNat_of_zero_le h0
 have hj : j < its.size := by rw [hz]; exact hn
 have fin : Q () { s with heap := s.heap.update p.1 (Obj.mapSeq (·.setIfInBounds j v)) } := by
  obtain ⟨I', S'⟩ := upd_list (h' := s.heap.update p.1 (Obj.mapSeq (·.setIfInBounds j v))) (vs' := its.setIfInBounds j v) (n := _) I hp hs e (Heap.SameBut.update ..) (Heap.get?_update_self (Obj.mapSeq (·.setIfInBounds j v)) ho rfl) (by rw [Array.toList_setIfInBounds]; exact VRs.set y j hv)
  exact hQ _ _ I' S'
 refine wpAny_bind (m := seqItemAt p.1 j >>= fun r => pure (r.map (j, ·))) (wpAny_bind (wpAny_seqItemAt ho rfl (wpAny_pure ?_)))
 rw [Array.getElem?_eq_getElem hj]
 refine wpAny_bind (m := setSeqItemAt p.1 j v) (wpAny_setSeqItemAt ho rfl ?_)
 first
  | exact wpAny_bind (wpAny_pure (wpAny_pure ⟨.none, rfl, wpAny_pure fin⟩))
  | exact wpAny_pure ⟨.none, rfl, wpAny_pure fin⟩

theorem dput_hit {k d d' : D} {r : List (D × D)} : dput ((k, d') :: r) k d = (k, d) :: r := by rw [dput_c, D.beq_rfl]; rfl
theorem dput_miss {k k' d d' : D} {r : List (D × D)} (n : k' ≠ k) : dput ((k', d') :: r) k d = (k', d') :: dput r k d := by rw [dput_c, D.beq_eq, decide_eq_false n]; rfl
theorem stored_hit {K : Type} [DecidableEq K] {k : K} {v v' : Value} {q : List (K × Value)} (n : k ∉ q.map (·.1)) : PySem.stored ((k, v') :: q) k v = (k, v) :: q := by
 simp only [PySem.stored, List.any_cons, decide_true, Bool.true_or, if_true, List.map_cons, map_store_of_not_mem q k v n]
theorem stored_miss {K : Type} [DecidableEq K] {k k' : K} {v v' : Value} {q : List (K × Value)} (n : k' ≠ k) : PySem.stored ((k', v') :: q) k v = (k', v') :: PySem.stored q k v := by
 simp only [PySem.stored, List.any_cons, n, decide_false, Bool.false_or, List.map_cons, if_false]
 split <;> rfl
theorem KV.stored {K : Type} [DecidableEq K] {h : Heap} {ρ : Rho} {enc : K → D} (hi : ∀ a b, enc a = enc b → a = b) {k : K} {d : D} {v : Value} (y : VR h ρ d v) {es : List (D × D)} : ∀ {l : List (K × Value)}, KV h ρ enc es l → (l.map (·.1)).Nodup → KV h ρ enc (dput es (enc k) d) (stored l k v) := by
 induction es with
 | nil => intro l x _; rw [KV.nil x]; exact ⟨k, v, [], rfl, y, rfl⟩
 | cons e r ih =>
  rintro _ ⟨k₂, v₂, q, e1, e2, e3⟩ hn
  obtain ⟨k', d'⟩ := e
  obtain rfl := e1
  replace hn := List.nodup_cons.mp hn
  by_cases hk : k₂ = k
  ·subst hk
   rw [dput_hit, stored_hit hn.1]
   exact ⟨k₂, v, q, rfl, y, e3⟩
  ·rw [dput_miss fun q => hk (hi _ _ q), stored_miss hk]
   exact ⟨k₂, v₂, _, rfl, e2, ih e3 hn.2⟩
theorem atKey_miss {k k' : List D} {z : Addr × Value} {l : List (List D × Addr × Value)} (hk : k' ≠ k) : atKey ((k', z) :: l) k = atKey l k := by rw [atKey, List.find?_cons_of_neg (by simpa using hk)]; rfl
theorem storedH_miss {k k' : List D} {a b : Addr} {v v' : Value} {l : List (List D × Addr × Value)} (hk : k' ≠ k) : PySem.storedH ((k', b, v') :: l) k a v = (k', b, v') :: PySem.storedH l k a v := by
 rw [PySem.storedH, PySem.storedH, atKey_miss hk]
 cases atKey l k with
 | some _ => exact congrArg (· :: _) (if_neg hk)
 | none => rfl
theorem KV.storedH {h : Heap} {ρ : Rho} {k : List D} {d : D} {a : Addr} {v : Value} (y : VR h ρ d v) {es : List (D × D)} : ∀ {l : List (List D × Addr × Value)}, KV h ρ D.tup es (l.map fun x => (x.1, x.2.2)) → (l.map (·.1)).Nodup → KV h ρ D.tup (dput es (.tup k) d) ((storedH l k a v).map fun x => (x.1, x.2.2)) := by
 induction es with
 | nil => intro l x _; rw [KV.nilMap x]; exact ⟨k, v, [], rfl, y, rfl⟩
 | cons e r ih =>
  intro l x hn
  cases l with
  | nil => exact nomatch x
  | cons z l =>
   obtain ⟨_, _, _, e1, e2, e3⟩ := x
   obtain ⟨k', d'⟩ := e
   obtain rfl := e1
   obtain ⟨z1, z2, z3⟩ := z
   replace hn := List.nodup_cons.mp hn
   by_cases hk : z1 = k
   ·subst hk
    rw [dput_hit, PySem.storedH_old (p := (z2, z3)) (by rw [atKey, List.find?_cons_of_pos (by simp)]; rfl), List.map_cons, List.map_cons, map_putAt_of_not_mem l z1 v hn.1, show putAt z1 v (z1, z2, z3) = (z1, z2, v) from if_pos rfl]
    exact ⟨z1, v, _, rfl, y, e3⟩
   ·rw [dput_miss fun q => hk (D.tup.inj q), storedH_miss hk]
    exact ⟨z1, z3, _, rfl, e2, ih e3 hn.2⟩

theorem upd_dict {X : Cx} {ρ : Rho} {σ σ' : St} {h h' : Heap} {i : Nat} {p : Addr × Addr} {es es' : List (D × D)} (I : Inv X ρ σ h) (hp : ρ[i]? = some p) (hs : σ[i]? = some (.dict es)) (e : put σ i (.dict es') = some σ')
  (hb : Heap.SameBut p.1 h h') (hd : DictIs X h' ρ p.1 es') : Inv X ρ σ' h' ∧ Step [] ρ h ρ h' := by
 obtain ⟨h2, rfl⟩ := put_eq e
 have x := I.obj i p _ hp hs
 exact I.upd hp h2 (fun a o e h1 h2' => (hb.2 a (x.one ▸ h2')).trans e) (fun a o e => by obtain ⟨o', _, _, ho', _⟩ := hd.at_; exact samebut_live hb ho' e) ⟨x.one, x.low, hd⟩

theorem KV.length {K : Type} {h : Heap} {ρ : Rho} {enc : K → D} {es : List (D × D)} : ∀ {l : List (K × Value)}, KV h ρ enc es l → es.length = l.length := by
 induction es with
 | nil => intro l x; rw [KV.nil x]; rfl
 | cons e r ih => rintro _ ⟨k, v, q, _, _, e3⟩; exact congrArg Nat.succ (ih e3)
theorem DictIs.noTup {X : Cx} {h : Heap} {ρ : Rho} {a : Addr} {es : List (D × D)} (x : DictIs X h ρ a es) : NoTup h a := by
 obtain ⟨o, _, _, ho, _, hd⟩ := x.at_
 exact noTup_data ho fun _ _ q => nomatch hd.symm.trans q
theorem DictOf.nodup {prog : Program} {w : World} {K : Type} [DecidableEq K] {knd : KeyKind prog w K} {h : Heap} {a : Addr} {kvs : List (K × Value)} (x : h.DictOf knd a kvs) : (kvs.map (·.1)).Nodup := by obtain ⟨_, _, _, _, _, _, _, _, n⟩ := x; exact n

theorem P_setDict {X : Cx} {A : Around} {ρ : Rho} {σ σ' : St} {s : Shared} {i : Nat} {es : List (D × D)} {k d : D} {u v w : Value} {Q : Unit → Shared → Prop} (hu : A.units + 100 ≤ cLine) (I : Inv X ρ σ s.heap) (x : VR s.heap ρ (.ref i) u) (y : VR s.heap ρ k w) (z : VR s.heap ρ d v) (hx : σ[i]? = some (.dict es)) (hk : keysOk es k = true) (hb : es.length ≤ big)
  (e : put σ i (.dict (dput es k d)) = some σ') (hQ : EvU X ρ s σ' Q) :
  wpAny (model X.prog X.w) A (setItem u w v) Q noE s := by
 obtain ⟨p, hp, _, lo, hd⟩ := I.dct x hx
 have sb := sizeLine_big
 have nt := hd.noTup
 have fin : ∀ h', Heap.SameBut p.1 s.heap h' → ((∀ a items, TupAt s.heap a items → TupAt h' a items) → DictIs X h' ρ p.1 (dput es k d)) → ∀ t, Q () { s with heap := h', toks := t } := fun h' hs' hd' t => by
  obtain ⟨I', S'⟩ := upd_dict I hp hx e hs' (hd' (samebut_tup hs' nt))
  exact hQ _ t I' S'
 cases keysOk_cases hk with
 | int j f =>
  obtain ⟨t⟩ := y
  obtain ⟨kvs, hD, q⟩ := hd.asInt f
  have hl := q.length
  exact wpAny_setItem_pairs (knd := PySem.intKind X.prog X.w) (k := j) (by simp [PySem.intKind, Value.isInt]) hD (fun h' hD' hs' => fin h' hs' (fun tup => .int _ hD' (KV.mono (fun _ _ e => e) tup _ _ (KV.stored int_inj z q (DictOf.nodup hD)))) _) (by lia)
 | str j f =>
  obtain ⟨t⟩ := y
  obtain ⟨kvs, hD, q⟩ := hd.asStr f
  have hl := q.length
  exact wpAny_setItem_pairs (knd := PySem.strKind X.prog X.w) (k := j) (by simp [PySem.strKind, Value.isStrOf]) hD (fun h' hD' hs' => fin h' hs' (fun tup => .str _ hD' (KV.mono (fun _ _ e => e) tup _ _ (KV.stored str_inj z q (DictOf.nodup hD)))) _) (by lia)
 | tup xs fx f =>
  have y0 : VR s.heap [] (.tup xs) w := y.flat 6 _ _ fx
  obtain ⟨b, items, _, _⟩ := y
  obtain ⟨kvs, hD, q⟩ := hd.asTup f
  have hl := q.length
  rw [List.length_map] at hl
  have hn : (kvs.map (·.1)).Nodup := by obtain ⟨_, _, _, _, _, _, _, _, n⟩ := hD; exact n
  exact wpAny_setItem_heap (knd := tupKind X.prog X.w) (k := xs) (by show A.units + 1 + 8 < cLine; lia) ⟨fx, y0⟩ hD (fun h' hD' hs' => fin h' hs' (fun tup => .tup _ hD' (KV.mono (fun _ _ e => e) tup _ _ (KV.storedH z q hn))) _) (by lia)

structure ClsOk (K : Frag) (C : Addr) : Prop where
 ga : findIn K (.ref C) "__getattribute__" = some (some (.builtin "object.__getattribute__"))
 gt : findIn K (.ref C) "__getattr__" = some none
 sa : findIn K (.ref C) "__setattr__" = some (some (.builtin "object.__setattr__"))
 plain : plainOver K C = true
 dict : hasDictIn K C = true

inductive InsInv (X : Cx) (ρ : Rho) (σ : St) (h : Heap) (i : Nat) (C : String) (fs : List (String × D)) : Value → Prop | mk (p : Addr × Addr) (ds : List DictEntry) (n : Nat) : ρ[i]? = some p → σ[i]? = some (.inst C fs) → p.1 ≠ p.2 → h.get? p.1 = some (instObj (X.cl C) p.2) → h.get? p.2 = some (dictOf ds n) → FRs h ρ fs ds → InsInv X ρ σ h i C fs (.ref p.1)
theorem Inv.ins {X : Cx} {ρ : Rho} {σ : St} {h : Heap} (I : Inv X ρ σ h) {i : Nat} {v : Value} {q : String × List (String × D)} (x : VR h ρ (.ref i) v) (e : ins σ i = some q) : InsInv X ρ σ h i q.1 q.2 v := by
 obtain ⟨p, hp⟩ := x
 have hs := ins_at e
 obtain ⟨ds, n, a, b, c, d⟩ := I.obj i p _ hp hs
 exact ⟨p, ds, n, hp, hs, a, b, c, d⟩

theorem key_is {e : DictEntry} {a b : String} {t : Tok} (e2 : e.key = .str (Str.ofString b) t) : e.key.isStr (Str.ofString a) = decide (b = a) := by
 rw [e2]
 refine (ofString_beq b a).trans ?_
 by_cases q : b = a <;> simp [q]
theorem lookup_hit {α : Type} {a : String} {d : α} {r : List (String × α)} : List.lookup a ((a, d) :: r) = some d := List.lookup_cons_self
theorem lookup_miss {α : Type} {a b : String} {d : α} {r : List (String × α)} (n : b ≠ a) : List.lookup a ((b, d) :: r) = List.lookup a r := by rw [List.lookup_cons, beq_eq_false_iff_ne.mpr n.symm]
theorem FRs.get {h : Heap} {ρ : Rho} {a : String} {fs : List (String × D)} : ∀ {ds : List DictEntry}, FRs h ρ fs ds →
  (∀ d, fs.lookup a = some d → Has Value (fun v => getL (Str.ofString a) ds = some (some v)) (VR h ρ d)) ∧ (fs.lookup a = none → getL (Str.ofString a) ds = some none) := by
 induction fs with
 | nil => intro ds x; obtain rfl := x; exact ⟨nofun, fun _ => rfl⟩
 | cons f r ih =>
  rintro _ ⟨e, rest, t, e2, e3, e4⟩
  obtain ⟨b, d⟩ := f
  have h12 := ih e4
  have hk := key_is (a := a) e2
  have hr : e.refKey = false := by simp [DictEntry.refKey, e2]
  by_cases q : b = a
  ·subst q
   rw [lookup_hit]
   exact ⟨fun d' e' => ⟨e.val, by unfold getL; simp [List.find?_cons, hk], Option.some.inj e' ▸ e3⟩, nofun⟩
  ·have g : getL (Str.ofString a) (e :: rest) = getL (Str.ofString a) rest := by
    unfold getL; simp [List.find?_cons, hk, q, hr]
   rw [lookup_miss q, g]
   exact h12
end Mine
end

section
namespace Mine
theorem vr_handed {h : Heap} {ρ : Rho} {d : D} {v : Value} (x : VR h ρ d v) : handedIn v = true := by
 cases d with
 | none => obtain rfl := x; rfl
 | bool b => obtain rfl := x; rfl
 | int i => obtain ⟨t⟩ := x; rfl
 | str i => obtain ⟨t⟩ := x; rfl
 | tup xs => obtain ⟨a, items, _⟩ := x; rfl
 | ref i => obtain ⟨p, _⟩ := x; rfl

theorem P_getattr {X : Cx} {A : Around} {ρ : Rho} {σ : St} {s : Shared} {i : Nat} {a : String} {q : String × List (String × D)} {d : D} {u : Value} {Q : Value → Shared → Prop} (K : X.K.In s.heap) (O : ClsOk X.K (X.cl q.1)) (hf : findIn X.K (.ref (X.cl q.1)) (Str.ofString a) = some none)
  (I : Inv X ρ σ s.heap) (x : VR s.heap ρ (.ref i) u) (e : ins σ i = some q) (hl : q.2.lookup a = some d) (hQ : EvP X ρ s d σ Q) :
  wpAny (model X.prog X.w) A (getAttr u (Str.ofString a) true) Q noE s := by
 obtain ⟨p, ds, n, hp, hs, hne, h1, h2, hF⟩ := I.ins x e
 obtain ⟨v, hv, hr⟩ := (hF.get (a := a)).1 d hl
 have J : InstAt s.heap p.1 (instObj (X.cl q.1) p.2) (X.cl q.1) (some (dictOf ds n)) := ⟨h1, rfl, rfl, h2⟩
 exact get_value K J O.ga (findObj_own O.dict hf rfl hv) (vr_handed hr) (hQ.same I _ hr)

theorem P_method {X : Cx} {A : Around} {ρ : Rho} {σ : St} {s : Shared} {i : Nat} {m : String} {q : String × List (String × D)} {f : Addr} {u : Value} {pl : Sem Bool} {Q : Value × List Value → Shared → Prop} (K : X.K.In s.heap) (O : ClsOk X.K (X.cl q.1)) (hf : findIn X.K (.ref (X.cl q.1)) (Str.ofString m) = some (some (.ref f))) (ht : typeIn X.K (.ref f) = some (.type "function"))
  (I : Inv X ρ σ s.heap) (x : VR s.heap ρ (.ref i) u) (e : ins σ i = some q) (hl : q.2.lookup m = none) (hQ : Q (.ref f, [u]) s) :
  wpAny (model X.prog X.w) A (getMethod u (Str.ofString m) pl) Q noE s := by
 obtain ⟨p, ds, n, hp, hs, hne, h1, h2, hF⟩ := I.ins x e
 have hv := (hF.get (a := m)).2 hl
 have J : InstAt s.heap p.1 (instObj (X.cl q.1) p.2) (X.cl q.1) (some (dictOf ds n)) := ⟨h1, rfl, rfl, h2⟩
 exact method_fn K J O.ga O.gt hf ht (by show (lookIn _ (dictOf ds n)).map _ = _; rw [lookIn_dict, hv]; rfl) hQ

theorem FRs.mono' {h h' : Heap} {ρ : Rho} (ht : ∀ a items, TupAt h a items → TupAt h' a items) {fs : List (String × D)} {ds : List DictEntry} (x : FRs h ρ fs ds) : FRs h' ρ fs ds := FRs.mono (fun _ _ e => e) ht _ _ x

theorem FRs.put {h : Heap} {ρ : Rho} {a : String} {d : D} {v : Value} {hsh : Int} {t : Tok} (y : VR h ρ d v) {fs : List (String × D)} : ∀ {ds : List DictEntry}, FRs h ρ fs ds → FRs h ρ (setL a d fs) (putL (Str.ofString a) hsh (.str (Str.ofString a) t) v ds) := by
 induction fs with
 | nil => intro ds x; obtain rfl := x; exact ⟨_, [], t, rfl, y, rfl⟩
 | cons f r ih =>
  rintro _ ⟨e, rest, t', e2, e3, e4⟩
  obtain ⟨b, d'⟩ := f
  have hk := key_is (a := a) e2
  unfold putL; rw [setL_c]
  by_cases q : b = a
  ·subst q
   rw [if_pos rfl, hk, decide_eq_true rfl]
   exact ⟨_, rest, t', e2, y, e4⟩
  ·rw [if_neg (Ne.symm q), hk, decide_eq_false q]
   exact ⟨e, _, t', e2, e3, ih e4⟩

theorem FRs.length {h : Heap} {ρ : Rho} {fs : List (String × D)} : ∀ {ds : List DictEntry}, FRs h ρ fs ds → fs.length = ds.length := by
 induction fs with
 | nil => intro ds x; obtain rfl := x; rfl
 | cons f r ih => rintro _ ⟨e, rest, _, _, _, e4⟩; exact congrArg Nat.succ (ih e4)

theorem FRs.refKey {h : Heap} {ρ : Rho} {fs : List (String × D)} : ∀ {ds : List DictEntry}, FRs h ρ fs ds → ∀ x ∈ ds, x.refKey = false := by
 induction fs with
 | nil => intro ds x; obtain rfl := x; exact fun _ h => nomatch h
 | cons f r ih => rintro _ ⟨e, rest, t, e2, _, e4⟩; exact List.forall_mem_cons.mpr ⟨by simp [DictEntry.refKey, e2], ih e4⟩

theorem putL_len (name : Str) (hsh : Int) (key v : Value) (es : List DictEntry) : (putL name hsh key v es).length ≤ es.length + 1 := by
 induction es with
 | nil => exact Nat.le_refl _
 | cons e r ih =>
  unfold putL
  split
  ·exact Nat.le_succ _
  ·exact Nat.succ_le_succ ih

theorem P_setattr {X : Cx} {A : Around} {ρ : Rho} {σ σ' : St} {s : Shared} {i : Nat} {a : String} {q : String × List (String × D)} {d : D} {u v : Value} {Q : Unit → Shared → Prop} (K : X.K.In s.heap) (O : ClsOk X.K (X.cl q.1)) (ht : takerIn X.K (X.cl q.1) (Str.ofString a) = some none)
  (I : Inv X ρ σ s.heap) (x : VR s.heap ρ (.ref i) u) (y : VR s.heap ρ d v) (e : ins σ i = some q) (hb : q.2.length ≤ 100) (hp' : put σ i (.inst q.1 (setL a d q.2)) = some σ') (hQ : EvU X ρ s σ' Q) :
  wpAny (model X.prog X.w) A (setAttr u (Str.ofString a) v) Q noE s := by
 obtain ⟨p, ds, n, hp, hs, hne, h1, h2, hF⟩ := I.ins x e
 have J : InstAt s.heap p.1 (instObj (X.cl q.1) p.2) (X.cl q.1) (some (dictOf ds n)) := ⟨h1, rfl, rfl, h2⟩
 refine set_plain K J O.sa ?_
 refine osa_open (s := { s with toks := s.toks + 1 }) K J O.plain ht fun b => ?_
 obtain ⟨cd, hc, hd'⟩ := any_some O.dict
 obtain ⟨h2', rfl⟩ := put_eq hp'
 refine wpAny_bind (wpAny_pure (wpAny_bind (wpAny_bind (wpAny_loadPart h1 (wpAny_bind (Looks.here (s := { s with toks := s.toks + 1 }) (looks_clsIn K hc) ?_))))))
 rw [hd']
 refine wpAny_pure (a := some p.2) (wpAny_bind (wpAny_pure (wpAny_bind ?_)))
 unfold nsSet
 refine wpAny_bind (wpAny_bind (wpAny_askSetting (wpAny_pure (wpAny_bind (wpAny_mkText (wpAny_bind (wpAny_loadPart h2 ?_)))))))
 have hall := hF.refKey
 dsimp only
 have c : (!ds.toArray.any (·.key.isStr (Str.ofString a)) && ds.toArray.any (·.refKey)) = false := by
  have : ds.toArray.any (·.refKey) = false := by
   rw [← Array.any_toList]
   exact List.any_eq_false.mpr fun x hx => by rw [hall x hx]; exact Bool.false_ne_true
  rw [this, Bool.and_false]
 rw [aRefKeyMayBeTheName_at, c]
 have hobj : Obj.putName (Str.ofString a) (PyData.keyHash X.w.params (Str.ofString a)) (.str (Str.ofString a) (s.toks + 1)) v (dictOf ds n) = dictOf (putL (Str.ofString a) (PyData.keyHash X.w.params (Str.ofString a)) (.str (Str.ofString a) (s.toks + 1)) v ds) (putN (Str.ofString a) ds n) := putName_dict ..
 have D' : (s.heap.update p.2 (Obj.putName (Str.ofString a) (PyData.keyHash X.w.params (Str.ofString a)) (.str (Str.ofString a) (s.toks + 1)) v)).get? p.2 = some (dictOf (putL (Str.ofString a) (PyData.keyHash X.w.params (Str.ofString a)) (.str (Str.ofString a) (s.toks + 1)) v ds) (putN (Str.ofString a) ds n)) := by
  rw [Heap.get?_update_self _ h2 (by rw [hobj]; rfl), hobj]
 refine wpAny_updatePart h2 ?_
 have hlen := hF.length
 refine wpAny_bind (wpAny_lookBehind D' (pastItsLine_dict (by
  have := putL_len (Str.ofString a) (PyData.keyHash X.w.params (Str.ofString a)) (.str (Str.ofString a) (s.toks + 1)) v ds
  rw [List.size_toArray, sizeLine_eq]; lia)) ?_)
 have sb : Heap.SameBut p.2 s.heap (s.heap.update p.2 (Obj.putName (Str.ofString a) (PyData.keyHash X.w.params (Str.ofString a)) (.str (Str.ofString a) (s.toks + 1)) v)) := Heap.SameBut.update ..
 have nt := (I.obj i p _ hp hs).noTup.2
 have tup := samebut_tup sb nt
 obtain ⟨I', S'⟩ := I.upd (ob := .inst q.1 (setL a d q.2)) hp h2' (fun b o e _ hn => (sb.2 b hn).trans e) (fun b o e => samebut_live sb D' e) ⟨_, _, hne, (sb.2 p.1 hne).trans h1, D', (FRs.put y hF).mono' tup⟩
 exact wpAny_pure (hQ _ _ I' S')
end Mine
end

section
namespace Mine
noncomputable abbrev Nm := List (Str × NameKind)
noncomputable def dbg (x : Str) : Prop := (x == ("__debug__" : Str)) = false
noncomputable def biName : Bi → String
 | .len => "len" | .any => "any" | .all => "all" | .sorted => "sorted" | .tuple => "tuple" | .str => "str"
noncomputable def innerN (N names : Nm) : Nm := names.map fun (n, k) => if (k == .free && N.lookup n == some .cell) then (n, .cell) else (n, k)
noncomputable def tgtNames : Tgt → List String
 | .one x => [x]
 | .two x y => [x, y]
noncomputable def isBi (X : Cx) (N : Nm) (x : String) (v : Value) : Prop :=
 N.lookup (Str.ofString x) = some .globalImplicit ∧ dbg (Str.ofString x) ∧ nsIn X.K mainGlobals (Str.ofString x) = some none ∧ bootBuiltins (Str.ofString x) = some v ∧ Str.ofString x ≠ "__name__"
noncomputable def isGl (X : Cx) (N : Nm) (x : String) (v : Value) : Prop :=
 N.lookup (Str.ofString x) = some .globalImplicit ∧ dbg (Str.ofString x) ∧ nsIn X.K mainGlobals (Str.ofString x) = some (some v)
structure CompOk (N : Nm) (sc : Scope) (t : Tgt) : Prop where
 kind : sc.kind = .function
 cell : ∀ x ∈ sc.names, x.2 ≠ .cell
 loc : ∀ x ∈ sc.names, x.2 = .local → sc.names.lookup x.1 = some .local
 tgt : ∀ x ∈ tgtNames t, sc.names.lookup (Str.ofString x) = some .local ∧ x ≠ ".0"
 only : ∀ x ∈ sc.names, x.2 = .local → x.1 = Str.ofString ".0" ∨ ∃ y ∈ tgtNames t, x.1 = Str.ofString y
 free : ∀ x ∈ sc.names, x.2 = .free → N.lookup x.1 = some .cell ∨ N.lookup x.1 = some .free
noncomputable def CallM (o : Expr) (name : Str) (apos pos : Pos) (es : List Expr) : Prop := ∀ env, ∃ pl, eval (.Call (.Attribute o name apos) es [] pos) env = (do
   let ov ← eval o env
   standAt apos.atName
   let (f, first) ← holding [ov] (getMethod ov name pl)
   callWith pos f first (backTo pos (starEach es env)) (backToKw pos (keywordEach [] env)))

structure Wd where
 X : Cx
 ρ₀ : Rho
 mg : Str → Option Value

structure Wd.Ok (W : Wd) : Prop where
 kin : W.X.K.In W.X.B
 gns : W.X.B.Ns mainGlobals W.mg
 bns : ∃ mb, W.X.B.Ns builtinsNs mb ∧ ∀ x : Str, x ≠ "__name__" → mb x = bootBuiltins x
 lim : W.X.B.NoLimit
 cls : ∀ C, ClsOk W.X.K (W.X.cl C)
 const : ∀ x d, W.X.consts x = some d → Has Value (fun v => W.mg (Str.ofString x) = some v) fun v => ∀ h ρ, (∀ a o, W.X.B.get? a = some o → h.get? a = some o) → W.ρ₀ <+: ρ → VR h ρ d v

structure At (W : Wd) (n : Nat) (A : Around) (env : Env) (L : Loc) (ρ : Rho) (σ : St) (s : Shared) : Prop where
 room : Room n A
 fr : FrR W.X s.heap ρ env L
 inv : Inv W.X ρ σ s.heap
 pre : W.ρ₀ <+: ρ

noncomputable abbrev mdl (W : Wd) := model W.X.prog W.X.w

section
variable {W : Wd} {n : Nat} {A : Around} {env : Env} {L : Loc} {ρ : Rho} {σ : St} {s : Shared}

theorem At.next (T : At W n A env L ρ σ s) {ρ' : Rho} {σ' : St} {h' : Heap} {t' : Nat} (I : Inv W.X ρ' σ' h') (S : Step [] ρ s.heap ρ' h') : At W n A env L ρ' σ' { s with heap := h', toks := t' } :=
 ⟨T.room, T.fr.step T.inv S, I, T.pre.trans S.pre⟩
theorem At.kin (O : W.Ok) (T : At W n A env L ρ σ s) : W.X.K.In s.heap := O.kin.keeps T.inv.keepB
theorem At.units (T : At W n A env L ρ σ s) : A.units + 100 ≤ cLine := by have := T.room.units; lia
theorem At.hand (T : At W n A env L ρ σ s) : A.handled = none := T.room.1

theorem ld_gl (O : W.Ok) (T : At W n A env L ρ σ s) {x : String} {v : Value} {p : Pos} {Q : Value → Shared → Prop} (g : isGl W.X env.scope.names x v) (h : Q v s) : wpAny (mdl W) A (eval (.Name (Str.ofString x) p) env) Q noE s :=
 Calls.Name_function_global T.fr.kind g.1 (Calls.loadGlobal_global (by rw [T.fr.glob]; exact O.gns.keeps T.inv.keepB) (mg_of O.kin O.gns g.2.2) h) g.2.1
theorem ld_bi (O : W.Ok) (T : At W n A env L ρ σ s) {x : String} {v : Value} {p : Pos} {Q : Value → Shared → Prop} (g : isBi W.X env.scope.names x v) (h : Q v s) : wpAny (mdl W) A (eval (.Name (Str.ofString x) p) env) Q noE s := by
 obtain ⟨mb, hb, hm⟩ := O.bns
 exact Calls.Name_function_global T.fr.kind g.1 (Calls.loadGlobal_builtin (by rw [T.fr.glob]; exact O.gns.keeps T.inv.keepB) (mg_none_of O.kin O.gns g.2.2.1) (by rw [T.fr.blt]; exact hb.keeps T.inv.keepB) ((hm _ g.2.2.2.2).trans g.2.2.2.1) h) g.2.1
end

noncomputable def TP (X : Cx) (ρ : Rho) (s : Shared) (σ' : St) (b : Bool) (Q : Bool → Shared → Prop) : Prop :=
 ∀ ρ' h' t', Inv X ρ' σ' h' → Step [] ρ s.heap ρ' h' → Q b { s with heap := h', toks := t' }
noncomputable def LP (X : Cx) (ρ : Rho) (s : Shared) (ds : List D) (σ' : St) (Q : List Value → Shared → Prop) : Prop :=
 ∀ vs ρ' h' t', Inv X ρ' σ' h' → Step [] ρ s.heap ρ' h' → VRs h' ρ' ds vs → Q vs { s with heap := h', toks := t' }
noncomputable def SP (W : Wd) (env : Env) (ρ : Rho) (s : Shared) (σ' : St) (Q : Flow → Shared → Prop) : Fl → Prop
 | .next L' => ∀ ρ' h' t', FrR W.X h' ρ' env L' → Inv W.X ρ' σ' h' → Step (frame env) ρ s.heap ρ' h' → Q .next { s with heap := h', toks := t' }
 | .cont L' => ∀ ρ' h' t', FrR W.X h' ρ' env L' → Inv W.X ρ' σ' h' → Step (frame env) ρ s.heap ρ' h' → Q .cont { s with heap := h', toks := t' }
 | .ret d => ∀ v ρ' h' t', Inv W.X ρ' σ' h' → Step (frame env) ρ s.heap ρ' h' → VR h' ρ' d v → Q (.ret v) { s with heap := h', toks := t' }

noncomputable abbrev EvOk (W : Wd) (n : Nat) (c : Callee) (N : Nm) (e : Expr) (e' : CE) : Prop :=
 ∀ {A env L ρ σ s d σ'} {Q : Value → Shared → Prop}, env.scope.names = N → At W n A env L ρ σ s → ev c L e' σ = some (d, σ') → EvP W.X ρ s d σ' Q → wpAny (mdl W) A (eval e env) Q noE s
noncomputable abbrev TsOk (W : Wd) (n : Nat) (c : Callee) (N : Nm) (e : Expr) (e' : CE) : Prop :=
 ∀ {A env L ρ σ s d σ' b} {Q : Bool → Shared → Prop}, env.scope.names = N → At W n A env L ρ σ s → ev c L e' σ = some (d, σ') → truth σ' d = some b → TP W.X ρ s σ' b Q → wpAny (mdl W) A (isTrue e env (eval e env)) Q noE s
noncomputable def StoreOk (N : Nm) (x : String) : Prop := N.lookup (Str.ofString x) = some .local ∨ N.lookup (Str.ofString x) = some .cell
noncomputable abbrev AsOk (W : Wd) (n : Nat) (c : Callee) (N : Nm) (e : Expr) (e' : CE) : Prop :=
 ∀ {x q p A env L ρ σ s d σ'} {Q : Flow → Shared → Prop}, env.scope.names = N → StoreOk N x → At W n A env L ρ σ s → ev c L e' σ = some (d, σ') → SP W env ρ s σ' Q (.next (setL x d L)) → wpAny (mdl W) A (exec (.Assign [.Name (Str.ofString x) q] e p) env) Q noE s
noncomputable def NoStar (e : Expr) : Prop := ∀ x y, e ≠ .Starred x y
noncomputable def NoSw (e : Expr) : Prop := ∀ (t : Option Expr) (l : Nat) (env : Env), swapsWith e t l env = pure false

structure J (W : Wd) (n : Nat) (c : Callee) (N : Nm) (e : Expr) (e' : CE) : Prop where
 ev : EvOk W n c N e e'
 ts : TsOk W n c N e e'
 as : AsOk W n c N e e'
 star : e' = .stuck ∨ NoStar e

section
variable {X : Cx} {A : Around} {env : Env} {L L' : Loc} {ρ : Rho} {σ σ' : St} {s : Shared}

theorem FrR.congr {h : Heap} (F : FrR X h ρ env L) (e : ∀ x d, L'.lookup x = some d → L.lookup x = some d) : FrR X h ρ env L' :=
 ⟨F.glob, F.blt, F.kind, by obtain ⟨m, a, b⟩ := F.ns; exact ⟨m, a, fun x d hx => b x d (e x d hx)⟩, fun x d hx => F.cell x d (e x d hx), F.cells, F.apart, F.loc, F.has⟩
theorem FrR.hp {h : Heap} (F : FrR X h ρ env L) : (env.scope.kind == .class || (env.scope.kind == .module && env.locals != env.globals)) = false := by rw [F.kind]; rfl

noncomputable def StoreIn (env : Env) (G : List Addr) (x : String) : Prop :=
 (env.scope.names.lookup (Str.ofString x) = some .local ∧ env.locals ∈ G) ∨ (env.scope.names.lookup (Str.ofString x) = some .cell ∧ ∀ a ∈ frame env, a ∈ G)
theorem storeIn {x : String} (h : StoreOk env.scope.names x) : StoreIn env (frame env) x :=
 h.elim (fun h => .inl ⟨h, List.mem_cons_self ..⟩) fun h => .inr ⟨h, fun _ m => m⟩

theorem P_store {x : String} {d : D} {v : Value} {G : List Addr} {Q : Unit → Shared → Prop} (F : FrR X s.heap ρ env L) (I : Inv X ρ σ s.heap) (hk : StoreIn env G x) (y : VR s.heap ρ d v)
  (hQ : ∀ h' t', FrR X h' ρ env (setL x d L) → Inv X ρ σ h' → Step G ρ s.heap ρ h' → Q () { s with heap := h', toks := t' }) : wpAny (model X.prog X.w) A (storeName env (Str.ofString x) v) Q noE s := by
 rcases hk with ⟨hk, hG⟩ | ⟨hk, hG⟩
 ·obtain ⟨m, hn, hm⟩ := F.ns
  refine wpAny_storeName_local hk hn (fun h' hn' hs' => ?_) F.hp
  obtain ⟨F', I', S'⟩ := F.setLocal (L' := setL x d L) I hk hn hm y (lookup_setL x d L) hn' hs'
  exact hQ h' _ F' I' (S'.mono fun a ha => by rw [List.mem_singleton.mp ha]; exact hG)
 ·obtain ⟨c, hc⟩ := F.has _ (.inl hk)
  obtain ⟨v₀, hv₀⟩ := (F.cells _ _ (mem_of_lookup hc)).live
  refine wpAny_storeName_cell F.kind hk hc hv₀ (fun h' hn' hs' => ?_)
  obtain ⟨F', I', S'⟩ := F.setCell (L' := setL x d L) I hk hc y (lookup_setL x d L) hn' hs'
  exact hQ h' s.toks F' I' (S'.mono hG)
end

section
variable {W : Wd} {n : Nat} {c : Callee} {N : Nm} {A : Around} {env : Env} {L : Loc} {ρ : Rho} {σ σ' : St} {s : Shared} {d : D}

theorem Step.toF {ρ ρ' : Rho} {h h' : Heap} {F : List Addr} (S : Step [] ρ h ρ' h') : Step F ρ h ρ' h' := S.mono fun _ m => nomatch m

theorem AsOk.plain {e : Expr} {e' : CE} (he : EvOk W n c N e e') (hs : NoSw e) : AsOk W n c N e e' := by
 intro x q p A env L ρ σ s d σ' Q hN hx T h hQ
 refine wpAny_Assign_Name (he hN T h fun v ρ₁ h₁ t₁ I₁ S₁ y => ?_) (hs _ _ _)
 have T₁ := T.next (t' := t₁) I₁ S₁
 subst hN
 exact P_store (s := { s with heap := h₁, toks := t₁ }) T₁.fr I₁ (storeIn hx) y fun h₂ t₂ F₂ I₂ S₂ => hQ _ _ _ F₂ I₂ (S₁.toF.trans S₂)

theorem J.mk1 {e : Expr} {e' : CE} (hs : NoSw e) (hst : NoStar e) (he : EvOk W n c N e e') (ht : TsOk W n c N e e') : J W n c N e e' := ⟨he, ht, AsOk.plain he hs, .inr hst⟩

theorem J.mk0 {e : Expr} {e' : CE} (hv : ∀ env whole, isTrue e env whole = (do let v ← whole; standAt e.pos; holding [v] (truthy v))) (hs : NoSw e) (hst : NoStar e) (he : EvOk W n c N e e') : J W n c N e e' :=
 J.mk1 hs hst he (by
  intro A env L ρ σ s d σ' b Q hN T h ht hQ
  exact wpAny_isTrue_value (he hN T h fun v ρ' h' t' I S x => P_truth I x ht fun t'' => hQ _ _ _ I S) (hv env _))

theorem none_some {α : Type} {a : α} {p : Prop} (h : none = some a) : p := nomatch h
theorem J.stuck {e : Expr} : J W n c N e .stuck :=
 ⟨fun _ _ h _ => none_some h, fun _ _ h _ _ => none_some h, fun _ _ _ h _ => none_some h, .inl rfl⟩

theorem J.use {e : Expr} {e' : CE} (h : J W n c N e e') {Q : Value → Shared → Prop} (hN : env.scope.names = N) (T : At W n A env L ρ σ s) {r : D × St} {f : D → St → Option (D × St)} (hev : bnd (Mine.ev c L e' σ) f = some r)
  (k : ∀ {ρ₁ : Rho} {h₁ : Heap} {t₁ : Nat} {σ₁ : St} {a : D} {u : Value}, f a σ₁ = some r → At W n A env L ρ₁ σ₁ { s with heap := h₁, toks := t₁ } → Step [] ρ s.heap ρ₁ h₁ → VR h₁ ρ₁ a u → Q u { s with heap := h₁, toks := t₁ }) :
  wpAny (mdl W) A (eval e env) Q noE s := by
 replace hev := bnd_eq hev; obtain ⟨a, σ₁, he, hf⟩ := hev
 exact h.ev hN T he fun v ρ' h' t' I S x => k hf (T.next I S) S x

theorem TP.after {X : Cx} {ρ ρ₁ : Rho} {s : Shared} {h₁ : Heap} {t₁ : Nat} {b : Bool} {σ' : St} {Q : Bool → Shared → Prop} (hQ : TP X ρ s σ' b Q) (S : Step [] ρ s.heap ρ₁ h₁) : TP X ρ₁ { s with heap := h₁, toks := t₁ } σ' b Q :=
 fun ρ' h' t' I' S' => hQ ρ' h' t' I' (S.trans S')

theorem lit_inv {x : D} (h : Mine.ev c L (.lit x) σ = some (d, σ')) : d = x ∧ σ' = σ := by
 exact (sp h).imp Eq.symm Eq.symm
theorem J_int {i : Int} {k : Nat} {p : Pos} : J W n c N (.Constant (.int i) k p) (.lit (.int i)) := J.mk0 (by intro _ _; rfl) (by intro _ _ _; rfl) (by intro _ _ h; cases h) (by
 intro A env L ρ σ s d σ' Q _ T h hQ
 obtain ⟨rfl, rfl⟩ := lit_inv h
 exact wpAny_Constant_int (hQ.same T.inv _ VR_int))
theorem J_bool {i : Bool} {k : Nat} {p : Pos} : J W n c N (.Constant (.bool i) k p) (.lit (.bool i)) := J.mk0 (by intro _ _; rfl) (by intro _ _ _; rfl) (by intro _ _ h; cases h) (by
 intro A env L ρ σ s d σ' Q _ T h hQ
 obtain ⟨rfl, rfl⟩ := lit_inv h
 exact wpAny_Constant_bool (hQ.same0 T.inv VR_bool))
theorem J_none {k : Nat} {p : Pos} : J W n c N (.Constant .none k p) (.lit .none) := J.mk0 (by intro _ _; rfl) (by intro _ _ _; rfl) (by intro _ _ h; cases h) (by
 intro A env L ρ σ s d σ' Q _ T h hQ
 obtain ⟨rfl, rfl⟩ := lit_inv h
 exact wpAny_Constant_none (hQ.same0 T.inv VR_none))
theorem J_str {i : Str} {k : Nat} {p : Pos} : J W n c N (.Constant (.str i) k p) (.lit (.str i)) := J.mk0 (by intro _ _; rfl) (by intro _ _ _; rfl) (by intro _ _ h; cases h) (by
 intro A env L ρ σ s d σ' Q _ T h hQ
 obtain ⟨rfl, rfl⟩ := lit_inv h
 exact wpAny_Constant_str (hQ.same T.inv _ VR_str))
theorem J_const (O : W.Ok) {x : String} {y : D} {p : Pos} (h : N.lookup (Str.ofString x) = some .globalImplicit) (hd : dbg (Str.ofString x)) (hc : W.X.consts x = some y) : J W n c N (.Name (Str.ofString x) p) (.lit y) := J.mk0 (by intro _ _; rfl) (by intro _ _ _; rfl) (by intro _ _ h; cases h) (by
 intro A env L ρ σ s d σ' Q hN T he hQ
 obtain ⟨rfl, rfl⟩ := lit_inv he
 obtain ⟨v, hv, hr⟩ := O.const x _ hc
 exact Calls.Name_function_global T.fr.kind (by unfold Env.kindOf; rw [hN]; exact h) (Calls.loadGlobal_global (by rw [T.fr.glob]; exact O.gns.keeps T.inv.keepB) hv (hQ.same0 T.inv (hr _ _ T.inv.keepB T.pre))) hd)
theorem J_var {x : String} {k : NameKind} {p : Pos} (h : N.lookup (Str.ofString x) = some k) (hk : k = .local ∨ k = .cell ∨ k = .free) (hd : dbg (Str.ofString x)) (h0 : x ≠ ".0") (hc : (Str.ofString x == ("__classdict__" : Str)) = false) :
  J W n c N (.Name (Str.ofString x) p) (.var x) := J.mk0 (by intro _ _; rfl) (by intro _ _ _; rfl) (by intro _ _ h; cases h) (by
 intro A env L ρ σ s d σ' Q hN T he hQ
 subst hN
 replace he := mp_of he; obtain ⟨d', hl, he⟩ := he
 replace he := sp he; obtain ⟨rfl, rfl⟩ := he
 refine wpAny_Name ?_ hd
 rcases hk with rfl | rfl | rfl
 ·obtain ⟨m, hn, hm⟩ := T.fr.ns
  obtain ⟨v, hv, hr⟩ := hm x _ hl h h0
  exact wpAny_loadName_local T.fr.kind h hn hv (hQ.same0 T.inv hr)
 ·obtain ⟨c, v, e1, e2, hr⟩ := T.fr.cell x _ hl (.inl h)
  exact wpAny_loadName_cell T.fr.kind h e1 e2 (hQ.same0 T.inv hr)
 ·obtain ⟨c, v, e1, e2, hr⟩ := T.fr.cell x _ hl (.inr h)
  exact wpAny_loadName_free T.fr.kind h e1 e2 (hQ.same0 T.inv hr) hc)

theorem J_bin {op : BOp} {l r : Expr} {l' r' : CE} {p : Pos} (hl : J W n c N l l') (hr : J W n c N r r') : J W n c N (.BinOp l (opB op) r p) (.bin op l' r') := J.mk0 (by intro _ _; rfl) (by intro _ _ _; rfl) (by intro _ _ h; cases h) (by
 intro A env L ρ σ s d σ' Q hN T h hQ
 refine wpAny_BinOp (hl.use hN T h fun {ρ₁ h₁ _ σ₁ a u} h T₁ S₁ x => hr.use hN T₁ h fun {ρ₂ h₂ _ σ₂ b v} h T₂ S₂ y => ?_)
 exact P_bin T₂.inv (S₂.vr0 T₁.inv x) y h (hQ.after (S₁.trans S₂)))
theorem P_neg {X : Cx} {A : Around} {ρ : Rho} {σ : St} {s : Shared} {i : Int} {u : Value} {Q : Value → Shared → Prop} (I : Inv X ρ σ s.heap) (x : VR s.heap ρ (.int i) u) (hQ : EvP X ρ s (.int (-i)) σ Q) :
  wpAny (model X.prog X.w) A (unaryOp .USub u) Q noE s := by
 obtain ⟨t⟩ := x
 exact PyProof.Rows.neg_int (hQ.same I _ VR_int)
theorem J_neg {e : Expr} {e' : CE} {p : Pos} (he : J W n c N e e') : J W n c N (.UnaryOp .USub e p) (.neg e') := J.mk0 (by intro _ _; rfl) (by intro _ _ _; rfl) (by intro _ _ h; cases h) (by
 intro A env L ρ σ s d σ' Q hN T h hQ
 refine wpAny_UnaryOp (he.use hN T h fun {ρ₁ h₁ _ σ₁ a u} h T₁ S₁ x => ?_)
 replace h := i_of h; obtain ⟨i, h⟩ := h
 replace h := sp h; obtain ⟨rfl, rfl⟩ := h
 exact P_neg T₁.inv x (hQ.after S₁))
theorem cmp_inv {op : COp} {l r : CE} {b : Bool} (h : Mine.ev c L (.cmp op l r) σ = some (d, σ')) (ht : truth σ' d = some b) : d = .bool b := by
 replace h := bnd_eq h; obtain ⟨a, σ₁, _, h⟩ := h
 replace h := bnd_eq h; obtain ⟨a', σ₂, _, h⟩ := h
 replace h := mp_of h; obtain ⟨r, _, h⟩ := h
 rw [← (sp h).1] at ht ⊢
 rw [s1 ht]
theorem J_cmp {op : COp} {l r : Expr} {l' r' : CE} {p : Pos} (hm : behindInMarks (opC op) r = false) (hl : J W n c N l l') (hr : J W n c N r r') : J W n c N (.Compare l [opC op] [r] p) (.cmp op l' r') := by
 have key : ∀ {A env L ρ σ s d σ'} {Q : Value → Shared → Prop}, env.scope.names = N → At W n A env L ρ σ s → Mine.ev c L (.cmp op l' r') σ = some (d, σ') → EvP W.X ρ s d σ' Q →
   wpAny (mdl W) A (eval l env) (fun a s₁ => wpAny (mdl W) A (eval r env) (fun b s₂ => wpAny (mdl W) A (compareOp (opC op) a b) Q noE s₂) noE s₁) noE s := by
  intro A env L ρ σ s d σ' Q hN T h hQ
  refine hl.use hN T h fun {ρ₁ h₁ _ σ₁ a u} h T₁ S₁ x => hr.use hN T₁ h fun {ρ₂ h₂ _ σ₂ b v} h T₂ S₂ y => ?_
  replace h := mp_of h; obtain ⟨r, hr', h⟩ := h
  replace h := sp h; obtain ⟨rfl, rfl⟩ := h
  exact P_cmp T₂.units T₂.inv (S₂.vr0 T₁.inv x) y hr' (hQ.after (S₁.trans S₂))
 refine J.mk1 (by intro _ _ _; rfl) (by intro _ _ h; cases h) (fun {A env L ρ σ s d σ' Q} hN T h hQ => wpAny_Compare1 (key hN T h hQ) hm) fun {A env L ρ σ s d σ' b Q} hN T h ht hQ => wpAny_isTrue_Compare1 (key hN T h fun w ρ₃ h₃ t₃ I₃ S₃ z => ?_) hm
 rw [cmp_inv h ht] at z
 obtain rfl := z
 exact wpAny_truthy_bool (hQ _ _ _ I₃ S₃)

theorem vr_none_iff {h : Heap} {ρ : Rho} {d : D} {v : Value} (x : VR h ρ d v) : (v == .none) = decide (d = .none) := by
 cases d with
 | none => obtain rfl := x; rfl
 | bool b => obtain rfl := x; rfl
 | int i => obtain ⟨t⟩ := x; rfl
 | str i => obtain ⟨t⟩ := x; rfl
 | tup xs => obtain ⟨a, items, _⟩ := x; simp
 | ref i => obtain ⟨p, _⟩ := x; rfl
theorem J_isNone {l : Expr} {l' : CE} {p q : Pos} {k : Nat} {b : Bool} (hl : J W n c N l l') : J W n c N (.Compare l [if b then .Is else .IsNot] [.Constant .none k q] p) (.isNone l' b) := by
 have key : ∀ {A env L ρ σ s d σ'} {Q : Value → Shared → Prop}, env.scope.names = N → At W n A env L ρ σ s → Mine.ev c L (.isNone l' b) σ = some (d, σ') → EvP W.X ρ s d σ' Q →
   wpAny (mdl W) A (eval l env) (fun a s₁ => wpAny (mdl W) A (eval (.Constant .none k q) env) (fun v s₂ => wpAny (mdl W) A (compareOp (if b then .Is else .IsNot) a v) Q noE s₂) noE s₁) noE s := by
  intro A env L ρ σ s d σ' Q hN T h hQ
  refine hl.use hN T h fun {ρ₁ h₁ tk σ₁ a u} h T₁ S₁ x => wpAny_Constant_none ?_
  replace h := sp h; obtain ⟨rfl, rfl⟩ := h
  have hv := vr_none_iff x
  cases b with
  | true =>
   refine is_none ?_
   rw [hv]
   exact (hQ.after S₁).same0 T₁.inv (by cases decide (a = .none) <;> exact VR_bool)
  | false =>
   refine isNot_none ?_
   rw [hv]
   exact (hQ.after S₁).same0 T₁.inv (by cases decide (a = .none) <;> exact VR_bool)
 have hm : behindInMarks (if b then .Is else .IsNot) (.Constant .none k q) = false := by cases b <;> with_unfolding_all rfl
 refine J.mk1 (by intro _ _ _; rfl) (by intro _ _ h; cases h) (fun {A env L ρ σ s d σ' Q} hN T h hQ => wpAny_Compare1 (key hN T h hQ) hm) fun {A env L ρ σ s d σ' r Q} hN T h ht hQ => wpAny_isTrue_Compare1 (key hN T h fun w ρ₃ h₃ t₃ I₃ S₃ z => ?_) hm
 have hd : d = .bool r := by
  replace h := bnd_eq h; obtain ⟨a, σ₁, _, h⟩ := h
  rw [← (sp h).1] at ht ⊢
  rw [s1 ht]
 rw [hd] at z
 obtain rfl := z
 exact wpAny_truthy_bool (hQ _ _ _ I₃ S₃)
theorem J_not {e : Expr} {e' : CE} {p : Pos} (he : J W n c N e e') : J W n c N (.UnaryOp .Not e p) (.not e') := by
 refine J.mk1 (by intro _ _ _; rfl) (by intro _ _ h; cases h) ?_ ?_
 ·intro A env L ρ σ s d σ' Q hN T h hQ
  refine wpAny_UnaryOp (he.use hN T h fun {ρ₁ h₁ _ σ₁ a u} h T₁ S₁ x => ?_)
  replace h := mp_of h; obtain ⟨r, hr', h⟩ := h
  replace h := sp h; obtain ⟨rfl, rfl⟩ := h
  exact not_value (P_truth T₁.inv x hr' fun t' => (hQ.after S₁).same T₁.inv _ VR_bool)
 ·intro A env L ρ σ s d σ' b Q hN T h ht hQ
  replace h := bnd_eq h; obtain ⟨a, σ₁, hv, hf⟩ := h
  replace hf := mp_of hf; obtain ⟨r, hr', hf⟩ := hf
  replace hf := sp hf; obtain ⟨rfl, rfl⟩ := hf
  replace ht := s1 ht; obtain rfl := ht
  exact wpAny_isTrue_Not (he.ts hN T hv hr' hQ)
theorem J_ite {t b o : Expr} {t' b' o' : CE} {p : Pos} (ht : J W n c N t t') (hb : J W n c N b b') (ho : J W n c N o o') : J W n c N (.IfExp t b o p) (.ite t' b' o') := by
 refine J.mk1 (by intro _ _ _; rfl) (by intro _ _ h; cases h) ?_ ?_
 ·intro A env L ρ σ s d σ' Q hN T h hQ
  replace h := bnd_eq h; obtain ⟨a, σ₁, he, h⟩ := h
  replace h := bi_of h; obtain ⟨r, hv, hf⟩ := h
  refine wpAny_IfExp (ht.ts hN T he hv fun ρ₁ h₁ t₁ I₁ S₁ => ?_)
  cases r with
  | true => exact hb.ev hN (T.next I₁ S₁) hf (hQ.after S₁)
  | false => exact ho.ev hN (T.next I₁ S₁) hf (hQ.after S₁)
 ·intro A env L ρ σ s d σ' b Q hN T h hb' hQ
  replace h := bnd_eq h; obtain ⟨a, σ₁, he, h⟩ := h
  replace h := bi_of h; obtain ⟨r, hv, hf⟩ := h
  rw [arm_isTrue_IfExp]
  refine wpAny_bind (ht.ts hN T he hv fun ρ₁ h₁ t₁ I₁ S₁ => ?_)
  cases r with
  | true => exact hb.ts hN (T.next I₁ S₁) hf hb' (hQ.after S₁)
  | false => exact ho.ts hN (T.next I₁ S₁) hf hb' (hQ.after S₁)
end
end Mine
end

section
namespace Mine
noncomputable def RoomC (n : Nat) (A : Around) : Prop := A.handled = none ∧ A.depth + 2 * n + 3 ≤ recursionLimit ∧ A.units + 40 * n + 190 ≤ cLine
theorem Room.call {n : Nat} {A : Around} (r : Room n A) : RoomC n A := ⟨r.1, by have := r.2.1; lia, by have := r.2.2; lia⟩

noncomputable def FnSnd (W : Wd) (n : Nat) (c : Callee) : Prop := ∀ {f : String} {args : List D} {σ : St} {d : D} {σ' : St} {fa : Addr}, c f args σ = some (d, σ') → W.X.fa f = some fa →
 ∀ {A : Around} {ρ : Rho} {s : Shared} {vs : List Value} {R : Result → Shared → Prop}, RoomC n A → Inv W.X ρ σ s.heap → W.ρ₀ <+: ρ → VRs s.heap ρ args vs → EvP W.X ρ s d σ' (fun v s' => R (.ok (.ret v)) s') →
  codeAny (mdl W) A (.call (.ref fa) ⟨vs, []⟩) R s

noncomputable def Js (W : Wd) (n : Nat) (c : Callee) (N : Nm) : List Expr → List CE → Prop
 | [], [] => True
 | e :: r, e' :: r' => J W n c N e e' ∧ Js W n c N r r'
 | _, _ => False

section
variable {W : Wd} {n : Nat} {c : Callee} {N : Nm} {A : Around} {env : Env} {L : Loc} {ρ : Rho} {σ σ' : St} {s : Shared} {d : D}

theorem Js.length {es : List Expr} : ∀ {es' : List CE}, Js W n c N es es' → es.length = es'.length := by
 induction es with
 | nil => intro es' h; cases es' with | nil => rfl | cons => exact h.elim
 | cons e r ih => intro es' h; cases es' with | nil => exact h.elim | cons => exact congrArg Nat.succ (ih h.2)
theorem Js.map {f : Expr → CE} {es : List Expr} : (∀ e ∈ es, J W n c N e (f e)) → Js W n c N es (es.map f) := by
 induction es with
 | nil => exact fun _ => trivial
 | cons e r ih => exact fun h => ⟨h e (.head _), ih fun x hx => h x (.tail _ hx)⟩
theorem Js.one {e : Expr} {e' : CE} (h : J W n c N e e') : Js W n c N [e] [e'] := ⟨h, trivial⟩
theorem Js.two {e f : Expr} {e' f' : CE} (h : J W n c N e e') (h' : J W n c N f f') : Js W n c N [e, f] [e', f'] := ⟨h, h', trivial⟩

theorem starEach_cons {e : Expr} (h : NoStar e) (r : List Expr) (env : Env) : starEach (e :: r) env = (false, eval e env) :: starEach r env := by
 cases e <;> first | rfl | exact absurd rfl (h _ _)
theorem ev_stuck {L : Loc} {e : CE} {σ : St} {r : D × St} (h : Mine.ev c L e σ = some r) : e ≠ .stuck := by
 rintro rfl
 exact nomatch h
theorem J.ns {e : Expr} {e' : CE} (h : J W n c N e e') {L : Loc} {σ : St} {r : D × St} (he : Mine.ev c L e' σ = some r) : NoStar e := h.star.resolve_left (ev_stuck he)

inductive EvsC (c : Callee) (L : Loc) (e : CE) (r : List CE) (σ σ' : St) : List D → Prop | mk (d : D) (σ₁ : St) (ds : List D) : Mine.ev c L e σ = some (d, σ₁) → evs c L r σ₁ = some (ds, σ') → EvsC c L e r σ σ' (d :: ds)
theorem evs_cons {L : Loc} {e : CE} {r : List CE} {σ σ' : St} {ds : List D} (h : evs c L (e :: r) σ = some (ds, σ')) : EvsC c L e r σ σ' ds := by
 replace h := bnd_eq h; obtain ⟨d, σ₁, he, h⟩ := h
 replace h := bnd_eq h; obtain ⟨ds', σ₂, he', h⟩ := h
 replace h := sp h; obtain ⟨rfl, rfl⟩ := h
 exact ⟨d, σ₁, ds', he, he'⟩
theorem evs_nil {L : Loc} {σ σ' : St} {ds : List D} (h : evs c L [] σ = some (ds, σ')) : ds = [] ∧ σ' = σ := (sp h).imp Eq.symm Eq.symm
theorem evs_one {e : CE} {a : D} {σ σ₁ : St} {L : Loc} (h : Mine.ev c L e σ = some (a, σ₁)) : evs c L [e] σ = some ([a], σ₁) := by rw [evs_c, h]; rfl
theorem evs_two {e f : CE} {a b : D} {σ σ₁ σ₂ : St} {L : Loc} (h : Mine.ev c L e σ = some (a, σ₁)) (h2 : Mine.ev c L f σ₁ = some (b, σ₂)) : evs c L [e, f] σ = some ([a, b], σ₂) := by
 rw [evs_c, h]
 exact congrArg (bnd · fun ds σ => some (a :: ds, σ)) (evs_one h2)
theorem evs_length {L : Loc} {es : List CE} : ∀ {σ σ' : St} {ds : List D}, evs c L es σ = some (ds, σ') → es.length = ds.length := by
 induction es with
 | nil => intro σ σ' ds h; rw [(evs_nil h).1]; rfl
 | cons e r ih =>
  intro σ σ' ds h
  obtain ⟨d, σ₁, ds', _, h2⟩ := evs_cons h
  exact congrArg Nat.succ (ih h2)

theorem LP.after {X : Cx} {ρ ρ₁ : Rho} {s : Shared} {h₁ : Heap} {t₁ : Nat} {ds : List D} {σ' : St} {Q : List Value → Shared → Prop} (hQ : LP X ρ s ds σ' Q) (S : Step [] ρ s.heap ρ₁ h₁) : LP X ρ₁ { s with heap := h₁, toks := t₁ } ds σ' Q :=
 fun vs ρ' h' t' I' S' => hQ vs ρ' h' t' I' (S.trans S')

theorem Js.run {es : List Expr} : ∀ {es' : List CE} {A env L ρ σ s ds σ' pos} {Q : List Value → Shared → Prop}, Js W n c N es es' → env.scope.names = N → At W n A env L ρ σ s → evs c L es' σ = some (ds, σ') → LP W.X ρ s ds σ' Q →
  wpAny (mdl W) A (spliced (backTo pos (starEach es env))) Q noE s := by
 induction es with
 | nil =>
  intro es' A env L ρ σ s ds σ' pos Q j hN T h hQ
  cases es' with
  | cons _ _ => exact j.elim
  | nil =>
   obtain ⟨rfl, rfl⟩ := evs_nil h
   exact Calls.spliced_nil (hQ [] ρ s.heap s.toks T.inv (Step.refl ..) VRs.nil)
 | cons e r ih =>
  intro es' A env L ρ σ s ds σ' pos Q j hN T h hQ
  cases es' with
  | nil => exact j.elim
  | cons e' r' =>
   obtain ⟨d, σ₁, ds', h1, h2⟩ := evs_cons h
   refine wpAny_items_cons (j.1.ev hN T h1 fun v ρ₁ h₁ k₁ I₁ S₁ x => ih j.2 hN (T.next I₁ S₁) h2 fun vs ρ₂ h₂ k₂ I₂ S₂ xs => ?_) (starEach_cons (j.1.ns h1) _ _)
   exact hQ _ _ _ _ I₂ (S₁.trans S₂) (VRs.cons (S₂.vr0 I₁ x) xs)

noncomputable def bop : Bool → BoolOp | true => .And | false => .Or
noncomputable def evAO (op : Bool) (c : Callee) (L : Loc) (es : List CE) (σ : St) : Option (D × St) := match op with | true => evAnd c L es σ | false => evOr c L es σ
inductive AO (op : Bool) (c : Callee) (L : Loc) (e f : CE) (r : List CE) (σ : St) (d : D) (σ' : St) : Prop
 | go (a : D) (σ₁ : St) : Mine.ev c L e σ = some (a, σ₁) → truth σ₁ a = some op → evAO op c L (f :: r) σ₁ = some (d, σ') → AO op c L e f r σ d σ'
 | stop : Mine.ev c L e σ = some (d, σ') → truth σ' d = some (!op) → AO op c L e f r σ d σ'
theorem andOr_inv {op : Bool} {e f : CE} {r : List CE} (h : evAO op c L (e :: f :: r) σ = some (d, σ')) : AO op c L e f r σ d σ' := by
 cases op with
 | true =>
  replace h := bnd_eq h; obtain ⟨a, σ₁, h1, h⟩ := h
  replace h := bi_of h; obtain ⟨v, hv, h⟩ := h
  cases v with
  | true => exact .go a σ₁ h1 hv h
  | false => obtain ⟨rfl, rfl⟩ := sp h; exact .stop h1 hv
 | false =>
  replace h := bnd_eq h; obtain ⟨a, σ₁, h1, h⟩ := h
  replace h := bi_of h; obtain ⟨v, hv, h⟩ := h
  cases v with
  | false => exact .go a σ₁ h1 hv h
  | true => obtain ⟨rfl, rfl⟩ := sp h; exact .stop h1 hv
theorem andOr_one {op : Bool} {e : CE} (h : evAO op c L [e] σ = some (d, σ')) : Mine.ev c L e σ = some (d, σ') := by cases op <;> exact h
theorem andOr_nil {op : Bool} (h : evAO op c L [] σ = some (d, σ')) : False := by cases op <;> exact nomatch h

theorem andOr_ev (op : Bool) {es : List Expr} : ∀ {es' : List CE} {A env L ρ σ s d σ' p} {Q : Value → Shared → Prop}, Js W n c N es es' → env.scope.names = N → At W n A env L ρ σ s → evAO op c L es' σ = some (d, σ') → EvP W.X ρ s d σ' Q →
  wpAny (mdl W) A (eval (.BoolOp (bop op) es p) env) Q noE s := by
 induction es with
 | nil =>
  intro es' A env L ρ σ s d σ' p Q j hN T h hQ
  cases es' with
  | cons _ _ => exact j.elim
  | nil => exact (andOr_nil h).elim
 | cons e r ih =>
  intro es' A env L ρ σ s d σ' p Q j hN T h hQ
  cases es' with
  | nil => exact j.elim
  | cons e' r' =>
   cases r with
   | nil =>
    cases r' with
    | cons _ _ => exact j.2.elim
    | nil => exact BoolOp_one (j.1.ev hN T (andOr_one h) hQ)
   | cons f r =>
    cases r' with
    | nil => exact j.2.elim
    | cons f' r' =>
     replace h := andOr_inv h
     cases h with
     | go a σ₁ h1 hv h2 =>
      have k : ∀ {v : Value} {ρ₁ h₁} t', Inv W.X ρ₁ σ₁ h₁ → Step [] ρ s.heap ρ₁ h₁ → VR h₁ ρ₁ a v → wpAny (mdl W) A (eval (.BoolOp (bop op) (f :: r) p) env) Q noE { s with heap := h₁, toks := t' } := fun t' I₁ S₁ _ => ih j.2 hN (T.next I₁ S₁) h2 (hQ.after S₁)
      cases op with
      | true => exact BoolOp_and (j.1.ev hN T h1 fun v ρ₁ h₁ k₁ I₁ S₁ x => P_truth (s := { s with heap := h₁, toks := k₁ }) I₁ x hv fun t' => k t' I₁ S₁ x)
      | false => exact BoolOp_or (j.1.ev hN T h1 fun v ρ₁ h₁ k₁ I₁ S₁ x => P_truth (s := { s with heap := h₁, toks := k₁ }) I₁ x hv fun t' => k t' I₁ S₁ x)
     | stop h1 hv =>
      cases op with
      | true => exact BoolOp_and (j.1.ev hN T h1 fun v ρ₁ h₁ k₁ I₁ S₁ x => P_truth (s := { s with heap := h₁, toks := k₁ }) I₁ x hv fun t' => hQ _ _ _ _ I₁ S₁ x)
      | false => exact BoolOp_or (j.1.ev hN T h1 fun v ρ₁ h₁ k₁ I₁ S₁ x => P_truth (s := { s with heap := h₁, toks := k₁ }) I₁ x hv fun t' => hQ _ _ _ _ I₁ S₁ x)

theorem andOr_ts (op : Bool) {es : List Expr} : ∀ {es' : List CE} {A env L ρ σ s d σ' b} {Q : Bool → Shared → Prop}, Js W n c N es es' → env.scope.names = N → At W n A env L ρ σ s → evAO op c L es' σ = some (d, σ') → truth σ' d = some b → TP W.X ρ s σ' b Q →
  wpAny (mdl W) A (allTrue (bop op) es env) Q noE s := by
 induction es with
 | nil =>
  intro es' A env L ρ σ s d σ' b Q j hN T h hb hQ
  cases es' with
  | cons _ _ => exact j.elim
  | nil => exact (andOr_nil h).elim
 | cons e r ih =>
  intro es' A env L ρ σ s d σ' b Q j hN T h hb hQ
  cases es' with
  | nil => exact j.elim
  | cons e' r' =>
   cases r with
   | nil =>
    cases r' with
    | cons _ _ => exact j.2.elim
    | nil =>
     replace h := andOr_one h
     cases op with
     | true =>
      refine wpAny_allTrue_And_cons (j.1.ts hN T h hb fun ρ₁ h₁ k₁ I₁ S₁ => ?_)
      cases b with
      | true => exact wpAny_allTrue_And_nil (hQ _ _ _ I₁ S₁)
      | false => exact hQ _ _ _ I₁ S₁
     | false =>
      refine wpAny_allTrue_Or_cons (j.1.ts hN T h hb fun ρ₁ h₁ k₁ I₁ S₁ => ?_)
      cases b with
      | false => exact wpAny_allTrue_Or_nil (hQ _ _ _ I₁ S₁)
      | true => exact hQ _ _ _ I₁ S₁
   | cons f r =>
    cases r' with
    | nil => exact j.2.elim
    | cons f' r' =>
     replace h := andOr_inv h
     cases h with
     | go a σ₁ h1 hv h2 =>
      have k : ∀ {ρ₁ h₁ k₁}, Inv W.X ρ₁ σ₁ h₁ → Step [] ρ s.heap ρ₁ h₁ → wpAny (mdl W) A (allTrue (bop op) (f :: r) env) Q noE { s with heap := h₁, toks := k₁ } := fun I₁ S₁ => ih j.2 hN (T.next I₁ S₁) h2 hb (hQ.after S₁)
      cases op with
      | true => exact wpAny_allTrue_And_cons (j.1.ts hN T h1 hv fun ρ₁ h₁ k₁ => k)
      | false => exact wpAny_allTrue_Or_cons (j.1.ts hN T h1 hv fun ρ₁ h₁ k₁ => k)
     | stop h1 hv =>
      obtain rfl := s1 (hv.symm.trans hb)
      cases op with
      | true => exact wpAny_allTrue_And_cons (j.1.ts hN T h1 hv hQ)
      | false => exact wpAny_allTrue_Or_cons (j.1.ts hN T h1 hv hQ)

theorem J_and {es : List Expr} {es' : List CE} {p : Pos} (j : Js W n c N es es') : J W n c N (.BoolOp .And es p) (.and es') :=
 J.mk1 (by intro _ _ _; rfl) (by intro _ _ h; cases h) (fun hN T h hQ => andOr_ev true j hN T h hQ) fun hN T h hb hQ => wpAny_isTrue_BoolOp (andOr_ts true j hN T h hb hQ)
theorem J_or {es : List Expr} {es' : List CE} {p : Pos} (j : Js W n c N es es') : J W n c N (.BoolOp .Or es p) (.or es') :=
 J.mk1 (by intro _ _ _; rfl) (by intro _ _ h; cases h) (fun hN T h hQ => andOr_ev false j hN T h hQ) fun hN T h hb hQ => wpAny_isTrue_BoolOp (andOr_ts false j hN T h hb hQ)

theorem J_tup {es : List Expr} {es' : List CE} {k : Nat} {p : Pos} (hl : es.length ≤ 100) (j : Js W n c N es es') : J W n c N (.Tuple es k p) (.tup es') := J.mk0 (by intro _ _; rfl) (by intro _ _ _; rfl) (by intro _ _ h; cases h) (by
 intro A env L ρ σ s d σ' Q hN T hv hQ
 replace hv := bnd_eq hv; obtain ⟨ds, σ₁, h1, h2⟩ := hv
 replace h2 := sp h2; obtain ⟨rfl, rfl⟩ := h2
 have hlen := evs_length h1
 have hlen' := j.length
 refine wpAny_Tuple (j.run hN T h1 fun vs ρ₁ h₁ k₁ I₁ S₁ x => ⟨by have := x.length; rw [sizeLine_eq]; lia, ?_⟩)
 exact mk_tup (s := { s with heap := h₁, toks := k₁ }) I₁ (by simpa using x) (hQ.after S₁))
theorem J_list {es : List Expr} {es' : List CE} {p : Pos} (hl : es.length ≤ 100) (j : Js W n c N es es') : J W n c N (.List es p) (.list es') := J.mk0 (by intro _ _; rfl) (by intro _ _ _; rfl) (by intro _ _ h; cases h) (by
 intro A env L ρ σ s d σ' Q hN T hv hQ
 replace hv := bnd_eq hv; obtain ⟨ds, σ₁, h1, h2⟩ := hv
 have hlen := evs_length h1
 have hlen' := j.length
 refine wpAny_List (j.run hN T h1 fun vs ρ₁ h₁ k₁ I₁ S₁ x => ⟨by have := x.length; rw [sizeLine_eq]; lia, ?_⟩)
 exact mk_list (s := { s with heap := h₁, toks := k₁ }) I₁ (by simpa using x) h2 (hQ.after S₁))

theorem J_sub {e i : Expr} {e' i' : CE} {p : Pos} (he : J W n c N e e') (hi : J W n c N i i') : J W n c N (.Subscript e i p) (.sub e' i') := J.mk0 (by intro _ _; rfl) (by intro _ _ _; rfl) (by intro _ _ h; cases h) (by
 intro A env L ρ σ s d σ' Q hN T h hQ
 refine Subscript_ (he.use hN T h fun {ρ₁ h₁ tk σ₁ a u} h T₁ S₁ x => hi.use hN T₁ h fun {ρ₂ h₂ tk₂ σ₂ b v} h T₂ S₂ y => ?_)
 replace h := mp_of h; obtain ⟨r, hr', h⟩ := h
 replace h := sp h; obtain ⟨rfl, rfl⟩ := h
 exact P_item T₂.units T₂.inv (S₂.vr0 T₁.inv x) y hr' (hQ.after (S₁.trans S₂)))

noncomputable def JO (W : Wd) (n : Nat) (c : Callee) (N : Nm) : Option Expr → Option CE → Prop
 | none, none => True
 | some e, some e' => J W n c N e e'
 | _, _ => False
theorem JO.run {e : Option Expr} {e' : Option CE} {Q : Value → Shared → Prop} (j : JO W n c N e e') (hN : env.scope.names = N) (T : At W n A env L ρ σ s) (h : evO c L e' σ = some (d, σ')) (hQ : EvP W.X ρ s d σ' Q) : wpAny (mdl W) A (evalPart e env) Q noE s := by
 cases e <;> cases e' <;> first | exact j.elim | skip
 ·replace h := sp h; obtain ⟨rfl, rfl⟩ := h
  rw [evalPart_none]
  exact wpAny_pure (hQ.same0 T.inv VR_none)
 ·rw [evalPart_some]
  exact J.ev j hN T h hQ

theorem P_slice {X : Cx} {value sl : Expr} {a x y : D} {u vl vu : Value} {Q : Value → Shared → Prop} (I : Inv X ρ σ s.heap) (ha : VR s.heap ρ a u) (hx : VR s.heap ρ x vl) (hy : VR s.heap ρ y vu) (h : Mine.slice σ a x y = some (d, σ')) (hQ : EvP X ρ s d σ' Q) :
  wpAny (model X.prog X.w) A (subscriptTail value sl u (.ref s.heap.objs.size)) Q noE { s with heap := s.heap.push { cls := .type "slice", data := .fields #[vl, vu, .none] } } := by
 cases a with
 | ref i =>
  replace h := bi_of h; obtain ⟨xs, hl, h⟩ := h
  replace h := gd_of h; obtain ⟨hb, h⟩ := h
  replace h := bi_of h; obtain ⟨ys, hs, h⟩ := h
  exact P_slice_list I ha hx hy hl hb hs h hQ
 | tup xs =>
  replace h := i_of h; obtain ⟨_, h⟩ := h
  replace h := i_of h; obtain ⟨_, h⟩ := h
  replace h := gd_of h; obtain ⟨hb, h⟩ := h
  obtain ⟨rfl, rfl, h2, hb⟩ := hb
  replace h := sp h; obtain ⟨rfl, rfl⟩ := h
  obtain ⟨t⟩ := hx
  obtain ⟨t'⟩ := hy
  exact P_slice_tup I ha h2 hb hQ
 | _ => exact nomatch h
theorem J_slice {e : Expr} {lo hi : Option Expr} {e' : CE} {lo' hi' : Option CE} {q p : Pos} (he : J W n c N e e') (hl : JO W n c N lo lo') (hh : JO W n c N hi hi') : J W n c N (.Subscript e (.Slice lo hi .none q) p) (.slice e' lo' hi') := J.mk0 (by intro _ _; rfl) (by intro _ _ _; rfl) (by intro _ _ h; cases h) (by
 intro A env L ρ σ s d σ' Q hN T h hQ
 refine Subscript_ (he.use hN T h fun {ρ₁ h₁ tk σ₁ a u} h T₁ S₁ x => ?_)
 replace h := bnd_eq h; obtain ⟨y, σ₂, e2, h⟩ := h
 replace h := bnd_eq h; obtain ⟨z, σ₃, e3, h⟩ := h
 refine wpAny_Slice (hl.run hN T₁ e2 fun vl ρ₂ h₂ k₂ I₂ S₂ xl => hh.run hN (T₁.next I₂ S₂) e3 fun vh ρ₃ h₃ k₃ I₃ S₃ xh => ?_)
 rw [evalPart_none]
 exact wpAny_pure (P_slice (s := { s with heap := h₃, toks := k₃ }) I₃ (S₃.vr0 I₂ (S₂.vr0 T₁.inv x)) (S₃.vr0 I₂ xl) xh h (hQ.after (t₁ := k₃) ((S₁.trans S₂).trans S₃))))

theorem J_rev {e : Expr} {e' : CE} {k : Nat} {p₁ p₂ q p : Pos} (he : J W n c N e e') : J W n c N (.Subscript e (.Slice .none .none (some (.UnaryOp .USub (.Constant (.int 1) k p₁) p₂)) q) p) (.rev e') := J.mk0 (by intro _ _; rfl) (by intro _ _ _; rfl) (by intro _ _ h; cases h) (by
 intro A env L ρ σ s d σ' Q hN T h hQ
 refine Subscript_ (he.use hN T h fun {ρ₁ h₁ tk σ₁ a u} h T₁ S₁ x => ?_)
 refine wpAny_Slice ?_
 rw [evalPart_none]
 refine wpAny_pure (wpAny_pure ?_)
 rw [evalPart_some]
 refine wpAny_UnaryOp (wpAny_Constant_int (PyProof.Rows.neg_int ?_))
 replace h := r_of h; obtain ⟨i, h⟩ := h
 replace h := bi_of h; obtain ⟨xs, hl, h⟩ := h
 replace h := gd_of h; obtain ⟨hb, h⟩ := h
 exact P_rev (s := { s with heap := h₁, toks := tk + 1 + 1 }) T₁.inv x hl hb h (hQ.after S₁))

noncomputable def plainBase (e : Expr) : Bool := e.ctorIdx != 16
theorem base_eq {o : Expr} (h : plainBase o = true) {name : Str} {env : Env} : attributeBase o name env (eval o env) = eval o env := by cases o <;> first | rfl | exact (Bool.false_ne_true h).elim
theorem attr_eq {e : Expr} (h : plainBase e = true) {a : Str} {pos : Pos} {env : Env} : eval (.Attribute e a pos) env = (do
   let o ← eval e env
   standAt pos.atName
   let r ← holding [o] (getAttr o a true)
   letTemporaryGo e o r
   pure r) := by cases e <;> first | rfl | exact (Bool.false_ne_true h).elim
theorem J_attr (O : W.Ok) {e : Expr} {e' : CE} {a : String} {p : Pos} (hb : plainBase e = true) (hc : ∀ C, findIn W.X.K (.ref (W.X.cl C)) (Str.ofString a) = some .none) (he : J W n c N e e') : J W n c N (.Attribute e (Str.ofString a) p) (.attr e' a) := J.mk0 (by intro _ _; rfl) (by intro _ _ _; rfl) (by intro _ _ h; cases h) (by
 intro A env L ρ σ s d σ' Q hN T h hQ
 refine Attribute_any_ (he.use hN T h fun {ρ₁ h₁ tk σ₁ a u} h T₁ S₁ x => ?_) (attr_eq hb)
 replace h := r_of h; obtain ⟨i, h⟩ := h
 replace h := bi_of h; obtain ⟨q, hC, h⟩ := h
 replace h := mp_of h; obtain ⟨r, hr', h⟩ := h
 replace h := sp h; obtain ⟨rfl, rfl⟩ := h
 exact P_getattr (T₁.kin O) (O.cls q.1) (hc q.1) T₁.inv x hC hr' (hQ.after S₁))

theorem Js.any_false {es : List Expr} : ∀ {es' : List CE} {L : Loc} {σ σ' : St} {ds : List D}, Js W n c N es es' → evs c L es' σ = some (ds, σ') → ∀ (pos : Pos) (env : Env), (backTo pos (starEach es env)).any (·.1) = false := by
 induction es with
 | nil => intro es' L σ σ' ds j h pos env; rfl
 | cons e r ih =>
  intro es' L σ σ' ds j h pos env
  cases es' with
  | nil => exact j.elim
  | cons e' r' =>
   obtain ⟨d, σ₁, ds', h1, h2⟩ := evs_cons h
   rw [starEach_cons (j.1.ns h1)]
   exact ih j.2 h2 pos env

theorem callWith_L {P : Heap → Prop} {es : List Expr} {es' : List CE} {ds : List D} {σ₁ : St} {pos : Pos} {f : Value} {first : List Value} {Q : Value → Shared → Prop} (j : Js W n c N es es') (hN : env.scope.names = N) (T : At W n A env L ρ σ s) (he : evs c L es' σ = some (ds, σ₁))
  (hk : ∀ h, P h → ∃ k, (k = Keeper.frame ∨ k = Keeper.machine ∨ k = Keeper.boundFrame) ∧ Looks (mdl W) h (keeperOf f) k)
  (h : LP W.X ρ s ds σ₁ fun vs s₁ => P s₁.heap ∧ wpAny (mdl W) A (call f (first ++ vs)) Q noE s₁) : wpAny (mdl W) A (callWith pos f first (backTo pos (starEach es env)) []) Q noE s := by
 cases es with
 | nil =>
  cases es' with
  | cons _ _ => exact j.elim
  | nil =>
   obtain ⟨rfl, rfl⟩ := evs_nil he
   exact callWith_of rfl hk (evalArgs_nil3 (h [] ρ s.heap s.toks T.inv (Step.refl ..) VRs.nil))
 | cons e r =>
  cases es' with
  | nil => exact j.elim
  | cons e' r' =>
   have hsp := Js.run (pos := pos) j hN T he h
   obtain ⟨d, σ₂, ds', h1, h2⟩ := evs_cons he
   rw [starEach_cons (j.1.ns h1)] at hsp ⊢
   exact callWith_of (congrArg (· || false) (Js.any_false j.2 h2 pos env)) hk (Calls.evalArgs_plain hsp)

theorem J_call (O : W.Ok) (H : FnSnd W n c) {f : String} {es : List Expr} {es' : List CE} {p q : Pos} {a : Addr} (hg : isGl W.X N f (.ref a)) (ha : W.X.fa f = some a) (hk : keepIn W.X.K (.ref a) = true) (j : Js W n c N es es') : J W n c N (.Call (.Name (Str.ofString f) p) es [] q) (.call f es') := J.mk0 (by intro _ _; rfl) (by intro _ _ _; rfl) (by intro _ _ h; cases h) (by
 intro A env L ρ σ s d σ' Q hN T h hQ
 replace h := bnd_eq h; obtain ⟨ds, σ₁, h1, h2⟩ := h
 refine Call_ (ld_gl O T (hN ▸ hg) (callWith_L (P := W.X.K.In) j hN T h1 (keeps_K hk) fun vs ρ₁ h₁ k₁ I₁ S₁ x => ⟨O.kin.keeps I₁.keepB, wpAny_call ?_⟩))
 exact H h2 ha T.room.call I₁ (T.pre.trans S₁.pre) x (hQ.after S₁))

theorem Room.under {n : Nat} {A : Around} {C : Addr} {vals : List Value} {kw : List (Str × Value)} (r : Room n A) : RoomC n (A.under (.builtin "type.__call__" ⟨.ref C :: vals, kw⟩)) :=
 ⟨r.1, by have := r.2.1; rw [depth_under_kw]; lia, by
  have := r.2.2
  have e : (A.under (.builtin "type.__call__" ⟨.ref C :: vals, kw⟩)).units = A.units + (Code.builtin "type.__call__" ⟨.ref C :: vals, kw⟩).cUnits := rfl
  rw [e]
  have : (Code.builtin "type.__call__" ⟨.ref C :: vals, kw⟩).cUnits ≤ 10 := by
   show (Code.builtin "type.__call__" ⟨[], []⟩).cUnits ≤ 10
   decide +kernel
  lia⟩

theorem freshOf (h : Heap) (a : Addr) (ha : h.objs.size ≤ a) : h.get? a = none := notSome fun _ e => absurd (Heap.lt_size e) (Nat.not_lt.mpr ha)

inductive NewI (X : Cx) (ρ : Rho) (σ : St) (h h' : Heap) (ob : Ob) (a : Addr) : Prop | mk (ρ' : Rho) : Inv X ρ' (σ ++ [ob]) h' → Step [] ρ h ρ' h' → VR h' ρ' (.ref σ.length) (.ref a) → NewI X ρ σ h h' ob a
theorem new_inst {X : Cx} {h : Heap} {C : String} (I : Inv X ρ σ h) : NewI X ρ σ h ((h.push emptyDict).push (instObj (X.cl C) h.objs.size)) (.inst C []) (h.objs.size + 1) := by
 have k : ∀ b o, h.get? b = some o → ((h.push emptyDict).push (instObj (X.cl C) h.objs.size)).get? b = some o := fun b o e => Heap.get?_push_of_some _ (Heap.get?_push_of_some _ e)
 have hx : ((h.push emptyDict).push (instObj (X.cl C) h.objs.size)).get? (h.objs.size + 1) = some (instObj (X.cl C) h.objs.size) := by heap_get
 have hd : ((h.push emptyDict).push (instObj (X.cl C) h.objs.size)).get? h.objs.size = some (dictOf [] 0) := Heap.get?_push_of_some _ (Heap.get?_push_size _ rfl)
 obtain ⟨I₂, S₂⟩ := I.alloc (p := (h.objs.size + 1, h.objs.size)) (ob := .inst C []) k (freshOf _ _ (Nat.le_succ _)) (freshOf _ _ (Nat.le_refl _)) ⟨[], 0, Nat.succ_ne_self _, hx, hd, rfl⟩
 exact ⟨_, I₂, S₂, (h.objs.size + 1, h.objs.size), by rw [← I.len]; exact List.getElem?_concat_length⟩
theorem J_new (O : W.Ok) (H : FnSnd W n c) {C : String} {es : List Expr} {es' : List CE} {p q : Pos} {fI : Addr} (hg : isGl W.X N C (.ref (W.X.cl C))) (hk : keepIn W.X.K (.ref (W.X.cl C)) = true) (hm : makesIn W.X.K (W.X.cl C) = true)
  (hi : findIn W.X.K (.ref (W.X.cl C)) "__init__" = some (some (.ref fI))) (hf : typeIn W.X.K (.ref fI) = some (.type "function")) (ha : W.X.fa (C ++ ".__init__") = some fI) (j : Js W n c N es es') : J W n c N (.Call (.Name (Str.ofString C) p) es [] q) (.new C es') := J.mk0 (by intro _ _; rfl) (by intro _ _ _; rfl) (by intro _ _ h; cases h) (by
 intro A env L ρ σ s d σ' Q hN T h hQ
 replace h := bnd_eq h; obtain ⟨ds, σ₁, h1, h2⟩ := h
 refine Call_ (ld_gl O T (hN ▸ hg) (callWith_L (P := W.X.K.In) j hN T h1 (keeps_K hk) fun vs ρ₁ h₁ k₁ I₁ S₁ x => ⟨O.kin.keeps I₁.keepB, wpAny_call ?_⟩))
 have X₁ := O.kin.keeps I₁.keepB
 replace h2 := bnd_eq h2; obtain ⟨o, σ₂, h3, h2⟩ := h2
 replace h2 := bnd_eq h2; obtain ⟨r, σ₃, h5, h2⟩ := h2
 replace h3 := sp h3; obtain ⟨rfl, rfl⟩ := h3
 replace h2 := gd_of h2; obtain ⟨rfl, h2⟩ := h2
 replace h2 := sp h2; obtain ⟨rfl, rfl⟩ := h2
 refine make_core (makes_of X₁ hm) (looks_findIn X₁ hi) (fun self => bind_fn X₁ self hf) (.inl rfl) ?_
 obtain ⟨ρ₂, I₂, S₂, xo⟩ := new_inst (C := C) I₁
 exact H (s := { s with heap := (h₁.push emptyDict).push (instObj (W.X.cl C) h₁.objs.size), toks := k₁ }) h5 ha T.room.under I₂ ((T.pre.trans S₁.pre).trans S₂.pre) (VRs.cons xo (S₂.vrs0 I₁ x)) fun v ρ₃ h₃ k₃ I₃ S₃ y => ⟨y, hQ _ _ _ _ I₃ ((S₁.trans S₂).trans S₃) (S₃.vr0 I₂ xo)⟩)

theorem getMethod_call {o : Expr} {name : Str} {apos pos : Pos} {es : List Expr} {Q : Value → Shared → Prop} (hc : CallM o name apos pos es)
  (h : wpAny (mdl W) A (eval o env) (fun ov s₁ => ∀ pl, wpAny (mdl W) A (getMethod ov name pl) (fun fx s₂ => wpAny (mdl W) A (callWith pos fx.1 fx.2 (backTo pos (starEach es env)) []) Q noE s₂) noE s₁) noE s) :
  wpAny (mdl W) A (eval (.Call (.Attribute o name apos) es [] pos) env) Q noE s := by
 obtain ⟨pl, he⟩ := hc env
 exact methodCall_KW (wpAny_mono h (fun _ _ h₁ => h₁ pl) fun _ _ e => e) he

inductive MethIs (X : Cx) (m C f : String) : Prop | mk (fa : Addr) : X.fa f = some fa → findIn X.K (.ref (X.cl C)) (Str.ofString m) = some (some (.ref fa)) → typeIn X.K (.ref fa) = some (.type "function") → keepIn X.K (.ref fa) = true → MethIs X m C f
theorem J_meth (O : W.Ok) (H : FnSnd W n c) {o : Expr} {m : String} {es : List Expr} {o' : CE} {es' : List CE} {ms : List (String × String)} {apos pos : Pos} (hc : CallM o (Str.ofString m) apos pos es)
  (hm : ∀ C f, ms.lookup C = some f → MethIs W.X m C f)
  (jo : J W n c N o o') (j : Js W n c N es es') : J W n c N (.Call (.Attribute o (Str.ofString m) apos) es [] pos) (.meth o' m ms es') := J.mk0 (by intro _ _; rfl) (by intro _ _ _; rfl) (by intro _ _ h; cases h) (by
 intro A env L ρ σ s d σ' Q hN T h hQ
 refine getMethod_call hc (jo.use hN T h fun {ρ₁ h₁ tk σ₁ a u} h T₁ S₁ x pl => ?_)
 replace h := r_of h; obtain ⟨i, h⟩ := h
 replace h := bi_of h; obtain ⟨r, hC, h⟩ := h
 replace h := gd_of h; obtain ⟨hfs, h⟩ := h
 replace h := bi_of h; obtain ⟨f, hf, h⟩ := h
 replace h := bnd_eq h; obtain ⟨ds, σ₂, h1, h⟩ := h
 obtain ⟨fa, ha, hfi, hty, hke⟩ := hm r.1 f hf
 refine P_method (T₁.kin O) (O.cls r.1) hfi hty T₁.inv x hC hfs ?_
 refine callWith_L (P := W.X.K.In) j hN T₁ h1 (keeps_K hke) fun vs ρ₂ h₂ k₂ I₂ S₂ xs => ⟨O.kin.keeps I₂.keepB, wpAny_call ?_⟩
 exact H h ha T.room.call I₂ ((T.pre.trans S₁.pre).trans S₂.pre) (VRs.cons (S₂.vr0 T₁.inv x) xs) (hQ.after (S₁.trans S₂)))

theorem keeps_builtin {M : Model} {h : Heap} (id : String) : ∃ k, (k = Keeper.frame ∨ k = Keeper.machine ∨ k = Keeper.boundFrame) ∧ Looks M h (keeperOf (.builtin id)) k := ⟨.machine, .inr (.inl rfl), Looks.of_pure rfl⟩
theorem keeps_type {M : Model} {h : Heap} (id : String) : ∃ k, (k = Keeper.frame ∨ k = Keeper.machine ∨ k = Keeper.boundFrame) ∧ Looks M h (keeperOf (.type id)) k := ⟨.machine, .inr (.inl rfl), Looks.of_pure rfl⟩
theorem keeps_bi {M : Model} {h : Heap} (f : Bi) : ∃ k, (k = Keeper.frame ∨ k = Keeper.machine ∨ k = Keeper.boundFrame) ∧ Looks M h (keeperOf (biVal f)) k := by
 cases f <;> first | exact keeps_builtin _ | exact keeps_type _

inductive OneV (P : Value → Prop) : List Value → Prop | mk (v : Value) : P v → OneV P [v]
inductive TwoV (P Q : Value → Prop) : List Value → Prop | mk (v u : Value) : P v → Q u → TwoV P Q [v, u]
theorem VRs.one {h : Heap} {ρ : Rho} {a : D} {vs : List Value} (x : VRs h ρ [a] vs) : OneV (VR h ρ a) vs := by
 obtain ⟨v, r, y, z⟩ := x
 rw [z.inv0]; exact ⟨v, y⟩
theorem VRs.two {h : Heap} {ρ : Rho} {a b : D} {vs : List Value} (x : VRs h ρ [a, b] vs) : TwoV (VR h ρ a) (VR h ρ b) vs := by
 obtain ⟨v, r, y, z⟩ := x
 obtain ⟨u, y'⟩ := VRs.one z
 exact ⟨v, u, y, y'⟩

theorem J_bi (O : W.Ok) {f : Bi} {e : Expr} {e' : CE} {p q : Pos} (hb : isBi W.X N (biName f) (biVal f)) (he : J W n c N e e') : J W n c N (.Call (.Name (Str.ofString (biName f)) p) [e] [] q) (.bi f e') := J.mk0 (by intro _ _; rfl) (by intro _ _ _; rfl) (by intro _ _ h; cases h) (by
 intro A env L ρ σ s d σ' Q hN T h hQ
 replace h := bnd_eq h; obtain ⟨a, σ₁, h1, h2⟩ := h
 refine Call_ (ld_bi O T (hN ▸ hb) (callWith_L (P := fun _ => True) (Js.one he) hN T (evs_one h1) (fun h _ => keeps_bi f) fun vs ρ₁ h₁ k₁ I₁ S₁ xs => ⟨trivial, ?_⟩))
 obtain ⟨v, x⟩ := xs.one
 exact P_bi T.hand I₁ x h2 (hQ.after S₁))

theorem J_max (O : W.Ok) {a b : Expr} {a' b' : CE} {p q : Pos} (hb : isBi W.X N "max" (.builtin "max")) (ha : J W n c N a a') (hb' : J W n c N b b') : J W n c N (.Call (.Name (Str.ofString "max") p) [a, b] [] q) (.max a' b') := J.mk0 (by intro _ _; rfl) (by intro _ _ _; rfl) (by intro _ _ h; cases h) (by
 intro A env L ρ σ s d σ' Q hN T h hQ
 replace h := bnd_eq h; obtain ⟨a, σ₁, h1, h2⟩ := h
 replace h2 := bnd_eq h2; obtain ⟨b, σ₂, h3, h4⟩ := h2
 refine Call_ (ld_bi O T (hN ▸ hb) (callWith_L (P := fun _ => True) (Js.two ha hb') hN T (evs_two h1 h3) (fun h _ => keeps_builtin _) fun vs ρ₁ h₁ k₁ I₁ S₁ xs => ⟨trivial, ?_⟩))
 obtain ⟨v, u, x, y⟩ := xs.two
 replace h4 := i_of h4; obtain ⟨i, h4⟩ := h4
 replace h4 := i_of h4; obtain ⟨j, h4⟩ := h4
 replace h4 := sp h4; obtain ⟨rfl, rfl⟩ := h4
 exact P_max T.hand I₁ x y (hQ.after S₁))

theorem list_method {pl : Sem Bool} {i : Nat} {name : Str} {id : String} {u : Value} {Q : Value × List Value → Shared → Prop} (slot : Slot "list" name id) (hty : typeOf (.builtin id) = pure (.type "method_descriptor")) (I : Inv W.X ρ σ s.heap) (x : VR s.heap ρ (.ref i) u) (h2 : 2 ≤ i ∧ (lst σ i).isSome = true)
  (h : Q (.builtin id, [u]) s) : wpAny (mdl W) A (getMethod u name pl) Q noE s := by
 obtain ⟨xs, hx⟩ := Option.isSome_iff_exists.mp h2.2
 obtain ⟨p, items, hp, _, hs, hl, _⟩ := I.lst x hx
 obtain ⟨its, n, ho, _⟩ := exact_list I hp hs h2.1
 exact getMethod_list_of slot hty hl ⟨_, ho, rfl⟩ h

theorem J_append {o e : Expr} {o' e' : CE} {apos pos : Pos} (hc : CallM o "append" apos pos [e]) (jo : J W n c N o o') (je : J W n c N e e') : J W n c N (.Call (.Attribute o "append" apos) [e] [] pos) (.append o' e') := J.mk0 (by intro _ _; rfl) (by intro _ _ _; rfl) (by intro _ _ h; cases h) (by
 intro A env L ρ σ s d σ' Q hN T h hQ
 refine getMethod_call hc (jo.use hN T h fun {ρ₁ h₁ tk σ₁ a u} h T₁ S₁ x pl => ?_)
 replace h := r_of h; obtain ⟨i, h⟩ := h
 replace h := gd_of h; obtain ⟨hi, h⟩ := h
 replace h := bnd_eq h; obtain ⟨b, σ₂, h1, h⟩ := h
 refine list_method PySem.F.slot_list_append PySem.F.type_list_append T₁.inv x hi ?_
 refine callWith_L (P := fun _ => True) (Js.one je) hN T₁ (evs_one h1) (fun h _ => keeps_builtin _) fun vs ρ₂ h₂ k₂ I₂ S₂ xs => ⟨trivial, ?_⟩
 obtain ⟨v, y⟩ := xs.one
 replace h := bi_of h; obtain ⟨ys, hx, h⟩ := h
 replace h := gd_of h; obtain ⟨hb, h⟩ := h
 replace h := mp_of h; obtain ⟨σ₃, hp, h⟩ := h
 replace h := sp h; obtain ⟨rfl, rfl⟩ := h
 exact P_append I₂ (S₂.vr0 T₁.inv x) y hx hb hp (hQ.after (S₁.trans S₂)))

theorem J_extend {o e : Expr} {o' e' : CE} {apos pos : Pos} (hc : CallM o "extend" apos pos [e]) (jo : J W n c N o o') (je : J W n c N e e') : J W n c N (.Call (.Attribute o "extend" apos) [e] [] pos) (.extend o' e') := J.mk0 (by intro _ _; rfl) (by intro _ _ _; rfl) (by intro _ _ h; cases h) (by
 intro A env L ρ σ s d σ' Q hN T h hQ
 refine getMethod_call hc (jo.use hN T h fun {ρ₁ h₁ tk σ₁ a u} h T₁ S₁ x pl => ?_)
 replace h := r_of h; obtain ⟨i, h⟩ := h
 replace h := gd_of h; obtain ⟨hi, h⟩ := h
 replace h := bnd_eq h; obtain ⟨b, σ₂, h1, h⟩ := h
 refine list_method PySem.F.slot_list_extend PySem.F.type_list_extend T₁.inv x hi ?_
 refine callWith_L (P := fun _ => True) (Js.one je) hN T₁ (evs_one h1) (fun h _ => keeps_builtin _) fun vs ρ₂ h₂ k₂ I₂ S₂ xs => ⟨trivial, ?_⟩
 obtain ⟨v, y⟩ := xs.one
 replace h := bi_of h; obtain ⟨ys, hx, h⟩ := h
 replace h := bi_of h; obtain ⟨zs, hy, h⟩ := h
 replace h := gd_of h; obtain ⟨hb, h⟩ := h
 replace h := mp_of h; obtain ⟨σ₃, hp, h⟩ := h
 replace h := sp h; obtain ⟨rfl, rfl⟩ := h
 exact P_extend I₂ (S₂.vr0 T₁.inv x) y hx hy hb.1 hb.2 hp (hQ.after (S₁.trans S₂)))

theorem dict_method {pl : Sem Bool} {i : Nat} {name : Str} {id : String} {u : Value} {Q : Value × List Value → Shared → Prop} (slot : Slot "dict" name id) (hty : typeOf (.builtin id) = pure (.type "method_descriptor")) (I : Inv W.X ρ σ s.heap) (x : VR s.heap ρ (.ref i) u) (h2 : (dct σ i).isSome = true)
  (h : Q (.builtin id, [u]) s) : wpAny (mdl W) A (getMethod u name pl) Q noE s := by
 obtain ⟨es, hx⟩ := Option.isSome_iff_exists.mp h2
 obtain ⟨p, hp, _, _, hd⟩ := I.dct x (dct_at hx)
 obtain ⟨o, arr, n, ho, hex, _⟩ := hd.at_
 exact getMethod_builtin ⟨o, ho, hex.1⟩ PySem.F.plainAttrs_dict slot hty (fun a e => by cases e; exact ⟨o, ho, hex.2.1⟩) h

theorem J_dget {o k e : Expr} {o' k' e' : CE} {apos pos : Pos} (hc : CallM o "get" apos pos [k, e]) (jo : J W n c N o o') (jk : J W n c N k k') (je : J W n c N e e') : J W n c N (.Call (.Attribute o "get" apos) [k, e] [] pos) (.dget o' k' e') := J.mk0 (by intro _ _; rfl) (by intro _ _ _; rfl) (by intro _ _ h; cases h) (by
 intro A env L ρ σ s d σ' Q hN T h hQ
 refine getMethod_call hc (jo.use hN T h fun {ρ₁ h₁ tk σ₁ a u} h T₁ S₁ x pl => ?_)
 replace h := r_of h; obtain ⟨i, h⟩ := h
 replace h := gd_of h; obtain ⟨hi, h⟩ := h
 replace h := bnd_eq h; obtain ⟨b, σ₂, h1, h⟩ := h
 replace h := bnd_eq h; obtain ⟨b', σ₃, h1', h⟩ := h
 refine dict_method PySem.F.slot_dict_get PySem.F.type_dict_get T₁.inv x hi ?_
 refine callWith_L (P := fun _ => True) (Js.two jk je) hN T₁ (evs_two h1 h1') (fun h _ => keeps_builtin _) fun vs ρ₂ h₂ k₂ I₂ S₂ xs => ⟨trivial, ?_⟩
 obtain ⟨v, u', y, z⟩ := xs.two
 replace h := bi_of h; obtain ⟨es, hx, h⟩ := h
 replace h := gd_of h; obtain ⟨hb, h⟩ := h
 replace h := sp h; obtain ⟨rfl, rfl⟩ := h
 have hb := Bool.and_eq_true_iff.mp hb
 exact P_dget I₂ (S₂.vr0 T₁.inv x) y z hx hb.1 hb.2 (hQ.after (S₁.trans S₂)))
end
end Mine
end

section
namespace Mine
inductive ItSt (h : Heap) (ρ : Rho) (it : Addr) (xs : List D) (i : Nat) : Bool → D → Prop
 | list {k p} (hp : ρ[k]? = some p) (hi : h.IsListIter it p.1 i) : ItSt h ρ it xs i false (.ref k)
 | tup {t items} (ht : TupAt h t items) (hv : VRs h ρ xs items.toList) (hi : IsTupIter h it t i) : ItSt h ρ it xs i false (.tup xs)
 | range {m : Int} (hx : xs = (List.range m.toNat).map fun (i : Nat) => D.int (i : Int)) (hi : IsRangeIter h it i ((xs.length : Int) - i) 1) : ItSt h ρ it xs i true (.int m)

inductive ItCls (h : Heap) (it : Addr) : Prop | mk (o : Obj) (n : String) : h.get? it = some o → o.cls = .type n → (n = "list_iterator" ∨ n = "tuple_iterator" ∨ n = "range_iterator") → ItCls h it
theorem ItSt.cls {h : Heap} {ρ : Rho} {it : Addr} {xs : List D} {i : Nat} {r : Bool} {d : D} (J : ItSt h ρ it xs i r d) : ItCls h it := by
 cases J with
 | list hp hi => obtain ⟨o, a, b, _⟩ := hi; exact ⟨o, _, a, b, .inl rfl⟩
 | tup ht hv hi => obtain ⟨o, a, b, _⟩ := hi; exact ⟨o, _, a, b, .inr (.inl rfl)⟩
 | range hx hi => exact ⟨_, _, hi, rfl, .inr (.inr rfl)⟩
theorem ItCls.live {h : Heap} {it : Addr} (J : ItCls h it) : ∃ o, h.get? it = some o := by obtain ⟨o, _, e, _⟩ := J; exact ⟨o, e⟩

theorem ItSt.noTup {h : Heap} {ρ : Rho} {it : Addr} {xs : List D} {i : Nat} {r : Bool} {d : D} (J : ItSt h ρ it xs i r d) : NoTup h it := by
 obtain ⟨o, n, e, hc, hn⟩ := J.cls
 refine noTup_of e fun q => ?_
 obtain rfl := Value.type.inj (hc.symm.trans q)
 simp at hn

theorem ItSt.step {X : Cx} {G : List Addr} {h h' : Heap} {ρ ρ' : Rho} {σ : St} {it : Addr} {xs : List D} {i : Nat} {r : Bool} {d : D} (J : ItSt h ρ it xs i r d) (I : Inv X ρ σ h) (S : Step G ρ h ρ' h') (hG : ∀ a ∈ G, NoTup h a) (hit : it ∉ G) (hn : NotOwn ρ it) :
  ItSt h' ρ' it xs i r d := by
 cases J with
 | list hp hi => obtain ⟨o, a, b⟩ := hi; exact .list (S.get hp) ⟨o, S.keep _ _ a hit hn, b⟩
 | tup ht hv hi => obtain ⟨o, a, b⟩ := hi; exact .tup (S.tup I hG ht) (S.vrs I hG hv) ⟨o, S.keep _ _ a hit hn, b⟩
 | range hx hi => exact .range hx (S.keep _ _ hi hit hn)

section
variable {X : Cx} {A : Around} {ρ : Rho} {σ σ' : St} {s : Shared}

theorem P_letGo {tg : Expr} {it : Addr} {v : Value} {Q : Unit → Shared → Prop} (h : ItCls s.heap it) (hQ : Q () s) : wpAny (model X.prog X.w) A (letOwnedTupleGo tg (.ref it) v) Q noE s := by
 obtain ⟨o, n, ho, hc, hn⟩ := h
 have fin : ∀ a, wpAny (model X.prog X.w) A (do
   let o ← load it
   match o.cls, o.data with
   | .type n, .fields vs =>
    if ["enumerate", "zip", "dict_itemiterator", "dict_reverseitemiterator", "odict_iterator", "itertools.zip_longest", "itertools.pairwise"].contains n && vs[0]? == some (rawInt a) then
     rule "for.unpacks-the-owned-tuple"
     updateField it 0 .none
   | _, _ => pure () : Sem Unit) Q noE s := by
  intro a
  refine wpAny_bind (wpAny_load ho ?_)
  rw [hc]
  cases o.data with
  | fields vs =>
   have e : ["enumerate", "zip", "dict_itemiterator", "dict_reverseitemiterator", "odict_iterator", "itertools.zip_longest", "itertools.pairwise"].contains n = false := by
    rcases hn with rfl | rfl | rfl <;> decide +kernel
   dsimp only
   rw [e]
   exact wpAny_pure hQ
  | _ => exact wpAny_pure hQ
 unfold letOwnedTupleGo
 cases tg <;> first | exact wpAny_pure hQ | (cases v <;> first | exact wpAny_pure hQ | exact fin _)

theorem still_eq {xs : List D} {k : Nat} (h : still σ xs (.ref k) = true) : lst σ k = some xs := by
 replace h : (lst σ k).any (fun ys => D.beqs ys xs) = true := h
 cases e : lst σ k with
 | none => rw [e] at h; exact nomatch h
 | some ys => rw [e] at h; rw [D.beqs_of _ _ h]

theorem end_of {i : Nat} {items : Array Value} {xs : List D} (hz : items.size = xs.length) (hx : xs[i]? = none) : items[i]? = none := by
 rw [Array.getElem?_eq_none_iff, hz]; exact List.getElem?_eq_none_iff.mp hx
theorem P_next {it : Addr} {xs : List D} {i : Nat} {r : Bool} {d : D} {Q : Option Value → Shared → Prop} (hh : A.handled = none) (I : Inv X ρ σ s.heap) (J : ItSt s.heap ρ it xs i r d) (hst : stillR r σ xs d = true) (hit : NotOwn ρ it)
  (item : ∀ x v h' t', xs[i]? = some x → VR s.heap ρ x v → ItSt h' ρ it xs (i + 1) r d → Heap.SameBut it s.heap h' → Q (some v) { s with heap := h', toks := t' })
  (fin : ∀ h', xs[i]? = none → Heap.ExtBut it s.heap h' → Q none { s with heap := h' }) : wpAny (model X.prog X.w) A (pyNext (.ref it)) Q noE s := by
 cases J with
 | @list k p hp hi =>
  have I0 := I.obj k p _ hp (lst_at (still_eq hst))
  obtain ⟨items, e2, _, hli, hv⟩ := I0
  cases hx : xs[i]? with
  | none => exact wpAny_pyNext_list_end hh hi hli (end_of hv.size hx) fun h' e => fin h' hx e
  | some x =>
   obtain ⟨v, hv', hr⟩ := hv.get hx
   exact wpAny_pyNext_list_item hi hli (x := v) (by rw [← Array.getElem?_toList]; exact hv') fun h' a b => item x v h' s.toks hx hr (.list hp a) b
 | @tup t items ht hv hi =>
  cases hx : xs[i]? with
  | none => exact next_tuple_end hh hi ht.isTup (end_of hv.size hx) fun h' e => fin h' hx e
  | some x =>
   obtain ⟨v, hv', hr⟩ := hv.get hx
   refine next_tuple_item hi ht.isTup (x := v) (by rw [← Array.getElem?_toList]; exact hv') fun h' a b => ?_
   have tup := samebut_tup b (ItSt.noTup (.tup ht hv hi))
   exact item x v h' s.toks hx hr (.tup (tup _ _ ht) (VRs.mono (fun _ _ e => e) tup _ _ hv) a) b
 | @range m hx' hi =>
  cases hx : xs[i]? with
  | none => exact wpAny_pyNext_range_end hh hi (by have := List.getElem?_eq_none_iff.mp hx; lia) fun h' e => fin h' hx e
  | some x =>
   have hlt := (List.getElem?_eq_some_iff.mp hx).1
   have ex : x = .int (i : Int) := by
    rw [hx', List.getElem?_map] at hx
    replace hx := mp_of hx; obtain ⟨j, hj, e⟩ := hx
    obtain ⟨l, hj⟩ := List.getElem?_eq_some_iff.mp hj
    rw [← s1 e, ← hj, List.getElem_range]
   subst ex
   refine wpAny_pyNext_range_item hi (by lia) fun h' a b => item _ _ h' _ hx VR_int (.range hx' ?_) b
   have e1 : ((i : Int) + 1) = ((i + 1 : Nat) : Int) := rfl
   have e2 : ((xs.length : Int) - i - 1) = (xs.length : Int) - ((i + 1 : Nat) : Int) := by lia
   rw [e1, e2] at a
   exact a

theorem P_iter {xs : List D} {d : D} {v : Value} {Q : Value → Shared → Prop} (I : Inv X ρ σ s.heap) (x : VR s.heap ρ d v) (e : itemsOf false d σ = some xs)
  (hQ : ∀ h', (∀ a o, s.heap.get? a = some o → h'.get? a = some o) → ItSt h' ρ s.heap.objs.size xs 0 false d → Q (.ref s.heap.objs.size) { s with heap := h' }) : wpAny (model X.prog X.w) A (pyIter v) Q noE s := by
 replace e := bi_of e; obtain ⟨ys, h1, e⟩ := e
 replace e := gd_of e; obtain ⟨hb, e⟩ := e
 replace e := s1 e; obtain rfl := e
 cases d with
 | tup zs =>
  replace h1 := s1 h1; obtain rfl := h1
  obtain ⟨a, items, t, r⟩ := x
  have hk : ∀ o a' o', s.heap.get? a' = some o' → (s.heap.push o).get? a' = some o' := fun o a' o' => Heap.get?_push_of_some _
  exact iter_tuple t.isTup (hQ _ (hk _) (.tup (tupMono (hk _) _ _ t) (r.grow (hk _)) ⟨_, Heap.get?_push_size _ rfl, rfl, rfl⟩))
 | ref k =>
  obtain ⟨p, items, hp, _, _, hli, _⟩ := I.lst x h1
  exact wpAny_pyIter_list hli (hQ _ (fun a' o' => Heap.get?_push_of_some _) (.list hp ⟨_, Heap.get?_push_size _ rfl, rfl, rfl⟩))
 | _ => exact nomatch h1

theorem P_range {xs : List D} {d : D} {u : Value} {Q : Value → Shared → Prop} (x : VR s.heap ρ d u) (e : itemsOf true d σ = some xs)
  (hQ : ∀ it h' t', (∀ a o, s.heap.get? a = some o → h'.get? a = some o) → s.heap.get? it = none → ItSt h' ρ it xs 0 true d → Q (.ref it) { s with heap := h', toks := t' }) : wpAny (model X.prog X.w) A (call (.type "range") [u]) (fun v s₁ => wpAny (model X.prog X.w) A (pyIter v) Q noE s₁) noE s := by
 replace e := i_of e; obtain ⟨m, e⟩ := e
 replace e := gd_of e; obtain ⟨hm, e⟩ := e
 replace e := s1 e; obtain rfl := e
 obtain ⟨t⟩ := x
 refine call_range_1 ?_
 have hsz : Builtin.Range.rangeSize 0 m 1 = (m.toNat : Int) := by rw [rangeSize_nat]; simp
 refine wpAny_pyIter_range (Heap.get?_push_size _ rfl) ?_ ?_
 ·unfold Builtin.Range.small
  rw [hsz]
  simp only [Builtin.Range.rangeFitsLong, Bool.and_eq_true, decide_eq_true_eq]
  first | (first | lia | omega) | (refine ⟨⟨⟨⟨?_, ?_⟩, ?_⟩, ?_⟩, ?_⟩ <;> first | lia | simp <;> lia)
 ·refine hQ _ _ _ (fun a o e => Heap.get?_push_of_some _ (Heap.get?_push_of_some _ e)) ?_ (.range rfl ?_)
  ·exact notSome fun o e => by have := Heap.lt_size e; rw [Heap.size_push] at this; exact absurd (Nat.lt_of_succ_lt this) (Nat.lt_irrefl _)
  ·rw [hsz, List.length_map, List.length_range]
   refine (Heap.get?_push_size _ rfl).trans ?_
   rw [show (m.toNat : Int) - (0 : Nat) = m.toNat from Int.sub_zero _]; rfl

end

inductive TrT : Expr → Tgt → Prop
 | one {x p} : TrT (.Name (Str.ofString x) p) (.one x)
 | two {x y k p q r} : TrT (.Tuple [.Name (Str.ofString x) q, .Name (Str.ofString y) r] k p) (.two x y)

section
variable {X : Cx} {A : Around} {env : Env} {L L' : Loc} {ρ : Rho} {σ σ' : St} {s : Shared}

noncomputable def TgtOk (env : Env) (G : List Addr) (t : Tgt) : Prop := ∀ x ∈ tgtNames t, StoreIn env G x

theorem step_frame_tup {X : Cx} {env : Env} {L : Loc} {ρ : Rho} {s : Shared} (F : FrR X s.heap ρ env L) : ∀ a ∈ frame env, NoTup s.heap a := fun a ha => (F.frameOk a ha).2.2

theorem setT_two {x y : String} {d : D} {L L' : Loc} (e : setT (.two x y) d L = some L') : OnTwo (fun a b => some (setL y b (setL x a L))) L' d := t2_of e

theorem P_assign {tg : Expr} {t : Tgt} {d : D} {v : Value} {G : List Addr} {Q : Unit → Shared → Prop} (ht : TrT tg t) (hh : A.handled = none) (F : FrR X s.heap ρ env L) (I : Inv X ρ σ s.heap) (hG : ∀ a ∈ G, a ∈ frame env) (hk : TgtOk env G t) (y : VR s.heap ρ d v) (e : setT t d L = some L')
  (hQ : ∀ h' t', FrR X h' ρ env L' → Inv X ρ σ h' → Step G ρ s.heap ρ h' → Q () { s with heap := h', toks := t' }) : wpAny (model X.prog X.w) A (assign tg env v) Q noE s := by
 cases ht with
 | @one x p =>
  replace e := s1 e; obtain rfl := e
  exact PyProof.Rows.assign_Name (P_store F I (hk x (.head _)) y hQ)
 | @two x z k p q r =>
  replace e := t2_of e; obtain ⟨a, b, e⟩ := e
  replace e := s1 e; obtain rfl := e
  obtain ⟨ad, items, tu, rs⟩ := y
  generalize hi : items.toList = vs at rs
  obtain ⟨va, vb, ra, rb⟩ := VRs.two rs
  have hsz : items.size = 2 := by rw [← Array.length_toList, hi]; rfl
  refine assign_Tuple_tuple hh tu.isTup (by rw [hsz]; rfl) rfl fun h' he => ?_
  have hk' : ∀ a o, s.heap.get? a = some o → h'.get? a = some o := fun a o e => he a o (Nat.ne_of_lt (Heap.lt_size e)) e
  have I' : Inv X ρ σ h' := I.kept hk'
  have S' : Step [] ρ s.heap ρ h' := Step.kept hk'
  have F' : FrR X h' ρ env L := F.step I S'
  have hG' : ∀ a ∈ G, NoTup h' a := fun a ha => (F'.frameOk a (hG a ha)).2.2
  rw [hi]
  refine assignInOrder_cons (PyProof.Rows.assign_Name (P_store (s := { s with heap := h' }) F' I' (hk x (.head _)) (S'.vr0 I ra) fun h₂ t₂ F₂ I₂ S₂ => ?_))
  refine assignInOrder_cons (PyProof.Rows.assign_Name (P_store (s := { s with heap := h₂, toks := t₂ }) F₂ I₂ (hk z (.tail _ (.head _))) (S₂.vr I' hG' (S'.vr0 I rb)) fun h₃ t₃ F₃ I₃ S₃ => ?_))
  exact assignInOrder_nil (hQ h₃ t₃ F₃ I₃ (((S'.mono (fun _ m => nomatch m)).trans S₂).trans S₃))

theorem Step.start {F G : List Addr} {ρ ρ' : Rho} {h₀ h h' : Heap} (S : Step G ρ h ρ' h') (hk : ∀ a o, h₀.get? a = some o → h.get? a = some o) (hG : ∀ a ∈ G, a ∈ F ∨ h₀.get? a = none) : Step F ρ h₀ ρ' h' where
 pre := S.pre
 keep := fun a o e nF nO => S.keep a o (hk a o e) (fun m => (hG a m).elim nF fun q => nomatch q.symm.trans e) nO
 fresh := fun p hp => by
  have none_of : ∀ a, h.get? a = none → h₀.get? a = none := fun a n => notSome fun o e => nomatch n.symm.trans (hk a o e)
  exact (S.fresh p hp).imp id fun q => ⟨none_of _ q.1, none_of _ q.2⟩
 live := fun a o e => S.live a o (hk a o e)

theorem NotOwn.fresh {h : Heap} (I : Inv X ρ σ h) {a : Addr} (n : h.get? a = none) : NotOwn ρ a := fun p hp => by
 obtain ⟨i, hi⟩ := List.mem_iff_getElem?.mp hp
 have l := I.live hi
 exact ⟨(l.1.elim fun _ e => getNone e n).symm, (l.2.elim fun _ e => getNone e n).symm⟩
theorem Inv.freshB {h : Heap} (I : Inv X ρ σ h) {a : Addr} (n : h.get? a = none) : X.B.get? a = none := I.noneB n

theorem Inv.adopt {h₀ h : Heap} {ρ₀ : Rho} {p : Addr × Addr} {ob : Ob} (I : Inv X ρ σ h) (S : Step [] ρ₀ h₀ ρ h) (n1 : NotOwn ρ p.1) (n2 : NotOwn ρ p.2) (b1 : X.B.get? p.1 = none) (b2 : X.B.get? p.2 = none)
  (h1 : h₀.get? p.1 = none) (h2 : h₀.get? p.2 = none) (ho : ObIs X h (ρ ++ [p]) p ob) : Inv X (ρ ++ [p]) (σ ++ [ob]) h ∧ Step [] ρ₀ h₀ (ρ ++ [p]) h := by
 refine ⟨⟨I.keepB, by rw [List.length_append, List.length_append, I.len]; rfl, fun i q ob' hq ho' => ?_, fun i j q r hi hj hne => ?_, fun i q hq h2' => ?_⟩, ⟨S.pre.trans (List.prefix_append _ _), fun a o e nF nO => S.keep a o e nF nO, fun q hq => ?_, S.live⟩⟩
 ·rcases snoc_get hq with e | ⟨rfl, rfl⟩
  ·have hl := (List.getElem?_eq_some_iff.mp e).1
   rw [List.getElem?_append_left (I.len ▸ hl)] at ho'
   exact (I.obj i q ob' e ho').mono (fun _ _ => snoc_old) (fun _ _ t => t) (fun o e => e) fun o e => e
  ·rw [I.len, List.getElem?_concat_length] at ho'
   exact Option.some.inj ho' ▸ ho
 ·rcases snoc_get hi with e | ⟨rfl, rfl⟩ <;> rcases snoc_get hj with e' | ⟨rfl, rfl⟩
  ·exact I.sep i j q r e e' hne
  ·have a := n1 q (mem_of_get e); have b := n2 q (mem_of_get e)
   exact ⟨a.1.symm, b.1.symm, a.2.symm, b.2.symm⟩
  ·have a := n1 r (mem_of_get e'); have b := n2 r (mem_of_get e')
   exact ⟨a.1, a.2, b.1, b.2⟩
  ·exact absurd rfl hne
 ·rcases snoc_get hq with e | ⟨rfl, rfl⟩
  ·exact I.new i q e h2'
  ·exact ⟨b1, b2⟩
 ·rcases List.mem_append.mp hq with hq | hq
  ·exact S.fresh q hq
  ·rw [List.mem_singleton.mp hq]; exact .inr ⟨h1, h2⟩
end

noncomputable def closeL (cells : List (Str × Addr)) : Nm → List (Str × Addr) → List (Str × Addr)
 | [], acc => acc
 | (n, k) :: r, acc => closeL cells r (if k = .free then (n, (cells.lookup n).getD 0) :: acc else acc)

theorem closeL_c {cells : List (Str × Addr)} {n : Str} {k : NameKind} {r : Nm} {acc : List (Str × Addr)} : closeL cells ((n, k) :: r) acc = closeL cells r (if k = .free then (n, (cells.lookup n).getD 0) :: acc else acc) := rfl
theorem closureFor_eq {sc : Scope} {env : Env} (h : ∀ x ∈ sc.names, x.2 = .free → ∃ c, env.cells.lookup x.1 = some c) : closureFor sc env = pure (closeL env.cells sc.names []) := by
 have key : ∀ (f : Str × NameKind → List (Str × Addr) → Sem (ForInStep (List (Str × Addr)))) (_ : ∀ n k cs, f (n, k) cs = if (k == .free) = true then (do let a ← cellOf env n; pure (ForInStep.yield ((n, a) :: cs))) else pure (ForInStep.yield cs))
   (names : Nm) (acc : List (Str × Addr)), (∀ x ∈ names, x.2 = .free → ∃ c, env.cells.lookup x.1 = some c) → (forIn names acc f : Sem (List (Str × Addr))) = pure (closeL env.cells names acc) := by
  intro f hf names
  induction names with
  | nil => intro acc _; rfl
  | cons x r ih =>
   intro acc hx
   obtain ⟨n, k⟩ := x
   rw [List.forIn_cons, hf]
   by_cases hk : k = .free
   ·subst hk
    obtain ⟨c, hc⟩ := hx _ (.head _) rfl
    rw [closeL_c, if_pos rfl, hc]; unfold cellOf
    simp only [hc, beq_self_eq_true, if_true, pure_bind, Option.getD_some]
    exact ih _ fun y hy => hx y (.tail _ hy)
   ·rw [closeL_c, if_neg hk, if_neg (by simpa using hk), pure_bind]
    exact ih _ fun y hy => hx y (.tail _ hy)
 simp only [closureFor]
 rw [key _ (fun n k cs => rfl) sc.names [] h]
 rfl

theorem closeL_mem {cells : List (Str × Addr)} (names : Nm) : ∀ (acc : List (Str × Addr)), (∀ x ∈ names, x.2 = .free → ∃ c, cells.lookup x.1 = some c) → (∀ y ∈ acc, cells.lookup y.1 = some y.2) → ∀ y ∈ closeL cells names acc, cells.lookup y.1 = some y.2 := by
 induction names with
 | nil => exact fun _ _ ha => ha
 | cons x r ih =>
  intro acc h ha
  obtain ⟨n, k⟩ := x
  refine ih _ (fun x hx => h x (.tail _ hx)) ?_
  split
  ·rename_i hk
   obtain ⟨c, hc⟩ := h (n, k) (.head _) hk
   exact List.forall_mem_cons.mpr ⟨by rw [hc]; rfl, ha⟩
  ·exact ha

theorem closeL_has {cells : List (Str × Addr)} {n : Str} (names : Nm) : ∀ (acc : List (Str × Addr)), ((n, NameKind.free) ∈ names ∨ ∃ c, (n, c) ∈ acc) → ∃ c, (n, c) ∈ closeL cells names acc := by
 induction names with
 | nil => exact fun acc h => h.elim (fun h => nomatch h) id
 | cons x r ih =>
  intro acc h
  obtain ⟨m, k⟩ := x
  refine ih _ ?_
  rcases h with h | ⟨c, h⟩
  ·rcases List.mem_cons.mp h with e | h
   ·obtain ⟨rfl, rfl⟩ := Prod.mk.inj e
    exact .inr ⟨_, by rw [if_pos rfl]; exact .head _⟩
   ·exact .inl h
  ·right
   split
   ·exact ⟨c, .tail _ h⟩
   ·exact ⟨c, h⟩

theorem look_hit {α : Type} {n : Str} {c : α} {r : List (Str × α)} : List.lookup n ((n, c) :: r) = some c := List.lookup_cons_self
theorem look_miss {α : Type} {m n : Str} {c : α} {r : List (Str × α)} (h : n ≠ m) : List.lookup n ((m, c) :: r) = List.lookup n r := by rw [List.lookup_cons, beq_eq_false_iff_ne.mpr h]
theorem lookup_of_all {α : Type} {f : Str → Option α} {l : List (Str × α)} {n : Str} : (∀ y ∈ l, f y.1 = some y.2) → (∃ c, (n, c) ∈ l) → l.lookup n = f n := by
 induction l with
 | nil => exact fun _ h => h.elim fun _ h => nomatch h
 | cons y r ih =>
  intro ha h
  obtain ⟨m, c⟩ := y
  by_cases e : n = m
  ·subst e
   rw [look_hit]; exact (ha _ (.head _)).symm
  ·rw [look_miss e]
   obtain ⟨c', h⟩ := h
   rcases List.mem_cons.mp h with q | h
   ·exact absurd (Prod.mk.inj q).1 e
   ·exact ih (fun y hy => ha y (.tail _ hy)) ⟨c', h⟩

noncomputable def inner1 (N : Nm) (n : Str) (k : NameKind) : NameKind := if (k == .free && N.lookup n == some .cell) = true then .cell else k
theorem innerN_cons {N names : Nm} {n : Str} {k : NameKind} : innerN N ((n, k) :: names) = (n, inner1 N n k) :: innerN N names := by
 refine congrArg (· :: innerN N names) ?_
 unfold inner1
 by_cases h : (k == .free && N.lookup n == some .cell) = true
 ·rw [if_pos h]; exact if_pos h
 ·rw [if_neg h]; exact if_neg h
theorem inner_local {N names : Nm} {x : Str} : names.lookup x = some .local → (innerN N names).lookup x = some .local := by
 induction names with
 | nil => exact fun h => nomatch h
 | cons y r ih =>
  intro h
  obtain ⟨n, k⟩ := y
  rw [innerN_cons]
  by_cases e : x = n
  ·subst e
   rw [look_hit] at h
   rw [look_hit, s1 h]
   rfl
  ·rw [look_miss e] at h ⊢
   exact ih h

inductive InnerV (names : Nm) (x : Str) : NameKind → Prop | old (k : NameKind) : (x, k) ∈ names → InnerV names x k | cell : (x, .free) ∈ names → InnerV names x .cell
theorem InnerV.tail {names : Nm} {x : Str} {k : NameKind} {y : Str × NameKind} (h : InnerV names x k) : InnerV (y :: names) x k := by
 cases h with
 | old _ h => exact .old _ (.tail _ h)
 | cell h => exact .cell (.tail _ h)
theorem inner_inv {N names : Nm} {x : Str} {k : NameKind} : (innerN N names).lookup x = some k → InnerV names x k := by
 induction names with
 | nil => exact fun h => nomatch h
 | cons y r ih =>
  intro h
  obtain ⟨n, k'⟩ := y
  rw [innerN_cons] at h
  by_cases e : x = n
  ·subst e
   rw [look_hit] at h
   replace h := s1 h; obtain rfl := h
   unfold inner1
   split
   ·rename_i hc
    rw [eq_of_beq (Bool.and_eq_true_iff.mp hc).1]
    exact .cell (.head _)
   ·exact .old _ (.head _)
  ·rw [look_miss e] at h
   exact (ih h).tail


theorem append_at {X : Cx} {A : Around} {s : Shared} {a : Addr} {its : Array Value} {n : Nat} {v : Value} {Q : Value → Shared → Prop} (ho : s.heap.get? a = some { cls := .type "list", data := .seq its n }) (hsz : its.size + 1 ≤ sizeLine)
  (hQ : ∀ h' n', h'.get? a = some { cls := .type "list", data := .seq (its.push v) n' } → Heap.SameBut a s.heap h' → Q .none { s with heap := h' }) : wpAny (model X.prog X.w) A (call (.builtin "list.append") [.ref a, v]) Q noE s := by
 refine wpAny_call_entry slot_list_append ⟨_, ho, rfl⟩ entry_list_append ?_ (args_list_append _ _)
 show wpAny _ _ (updateSeq a (·.push v) >>= fun _ => ret .none) _ _ s
 refine wpAny_bind (wpAny_updateSeq ho rfl (wpAny_pure ⟨.none, rfl, ?_⟩) (by lia) (by simp; lia))
 exact hQ _ _ (Heap.get?_update_self _ ho rfl) (Heap.SameBut.update ..)

inductive Less (I : Nat → Shared → Prop) (n : Nat) (s : Shared) : Prop | mk (m : Nat) : m < n → I m s → Less I n s
theorem Less.ex {I : Nat → Shared → Prop} {n : Nat} {s : Shared} (h : Less I n s) : ∃ m, m < n ∧ I m s := by obtain ⟨m, a, b⟩ := h; exact ⟨m, a, b⟩
noncomputable def testsOf (ifs : List Expr) (env : Env) : Sem Bool := forIn ifs true fun c r => if r = true then do let ok ← isTrue c env (eval c env); pure (ForInStep.yield ok) else pure (ForInStep.yield r)

theorem compLoop_W {X : Cx} {A : Around} {s : Shared} {R : Result → Shared → Prop} {elt target iter : Expr} {ifs : List Expr} {scope : Scope} {pos : Pos} {it : Addr} {acc : Value} {env : Env} (I : Nat → Shared → Prop)
  (turn : ∀ n s, I n s → wpAny (model X.prog X.w) A (pyNext (.ref it)) (fun r s₁ => match r with
   | none => R (.ok .next) s₁
   | some v => ItCls s₁.heap it ∧ wpAny (model X.prog X.w) A (assign target env v) (fun _ s₂ =>
     wpAny (model X.prog X.w) A (testsOf ifs env) (fun ok s₃ =>
      if ok = true then wpAny (model X.prog X.w) A (eval elt env) (fun x s₄ =>
       wpAny (model X.prog X.w) A (call (.builtin "list.append") [acc, x]) (fun _ s₅ => Less I n s₅) noE s₄) noE s₃
      else Less I n s₃) noE s₂) noE s₁) noE s)
  (n : Nat) (h : I n s) :
  codeAny (model X.prog X.w) A (.compLoop (.ListComp elt [⟨target, iter, ifs, 0⟩] scope pos) 0 (.ref it) acc env) R s := by
 refine codeAny_loop rfl I (fun n s hI => ?_) n h
 show wpAny _ A ((compTurn (.ListComp elt [⟨target, iter, ifs, 0⟩] scope pos) 0 (.ref it) acc env).onRaise (fun x => do noteFrame x env; theTreesLotGoes x)) _ _ s
 refine wpAny_noted ?_
 rw [compTurn_list]
 refine wpAny_bind (wpAny_standAt (wpAny_bind (wpAny_mono (turn n s hI) (fun r s₁ h₁ => ?_) fun _ _ h' => h'.elim)))
 cases r with
 | none => exact wpAny_pure h₁
 | some v =>
  obtain ⟨hc, h₁⟩ := h₁
  refine wpAny_bind (wpAny_mono (P_letGo (X := X) (tg := target) (v := v) (Q := fun _ s' => s' = s₁) hc rfl) (fun _ s₁' e => ?_) fun _ _ h' => h'.elim)
  subst e
  refine wpAny_bind (wpAny_mono h₁ (fun _ s₂ h₂ => wpAny_bind (wpAny_mono h₂ (fun ok s₃ h₃ => ?_) fun _ _ h' => h'.elim)) fun _ _ h' => h'.elim)
  cases ok with
  | false => exact wpAny_pure ⟨rfl, h₃.ex⟩
  | true =>
   exact wpAny_bind (wpAny_bind (wpAny_mono h₃ (fun x s₄ h₄ => wpAny_bind (wpAny_mono h₄ (fun _ s₅ h₅ => wpAny_pure (wpAny_pure ⟨rfl, h₅.ex⟩)) fun _ _ h' => h'.elim)) fun _ _ h' => h'.elim))

noncomputable def LcOk (t : Tgt) (L Lc : Loc) : Prop := ∀ y e, y ∉ tgtNames t → L.lookup y = some e → Lc.lookup y = some e
noncomputable def Sub (L Lc : Loc) : Prop := ∀ y e, L.lookup y = some e → Lc.lookup y = some e
theorem sub_cons {x : String} {d : D} {L Lc : Loc} (h : ∀ y e, y ≠ x → L.lookup y = some e → Lc.lookup y = some e) : Sub ((x, d) :: L) (setL x d Lc) := by
 intro y e he
 rw [lookup_setL]
 by_cases q : y = x
 ·rw [if_pos q]; rw [q, lookup_hit] at he; exact he
 ·rw [if_neg q]; rw [lookup_miss (Ne.symm q)] at he; exact h y e q he
theorem setT_of_bindT {t : Tgt} {d : D} {L L' Lc : Loc} (h : bindT t d L = some L') (ha : LcOk t L Lc) : Has Loc (fun Lc' => setT t d Lc = some Lc') (Sub L') := by
 cases t with
 | one x =>
  replace h := s1 h; obtain rfl := h
  exact ⟨_, rfl, sub_cons fun y e q he => ha y e (fun m => q (List.mem_singleton.mp m)) he⟩
 | two x z =>
  replace h := t2_of h; obtain ⟨a, b, h⟩ := h
  replace h := s1 h; obtain rfl := h
  refine ⟨_, rfl, sub_cons fun y e q he => ?_⟩
  rw [lookup_setL]
  by_cases q2 : y = x
  ·rw [if_pos q2]; rw [q2, lookup_hit] at he; exact he
  ·rw [if_neg q2]; rw [lookup_miss (Ne.symm q2)] at he; exact ha y e (by simp [tgtNames, q, q2]) he

theorem setT_agree {t : Tgt} {d : D} {L Lc Lc' : Loc} (h : setT t d Lc = some Lc') (ha : LcOk t L Lc) : LcOk t L Lc' := by
 intro y e hy he
 have h0 := ha y e hy he
 cases t with
 | one x =>
  replace h := s1 h; obtain rfl := h
  rw [lookup_setL, if_neg fun q => hy (List.mem_singleton.mpr q)]; exact h0
 | two x z =>
  replace h := t2_of h; obtain ⟨a, b, h⟩ := h
  replace h := s1 h; obtain rfl := h
  have hy := not_or.mp fun k => hy (List.mem_cons.mpr (k.imp_right List.mem_singleton.mpr))
  rw [lookup_setL, lookup_setL, if_neg hy.2, if_neg hy.1]; exact h0

noncomputable def JC (W : Wd) (n : Nat) (c : Callee) (N : Nm) (ifs : List Expr) : Option CE → Prop
 | none => ifs = []
 | some e' => ∃ e, ifs = [e] ∧ J W n c N e e'

section
variable {W : Wd} {n : Nat} {c : Callee} {N : Nm} {A : Around} {env : Env} {L : Loc} {ρ : Rho} {σ σ' : St} {s : Shared} {d : D}

theorem JC.run {ifs : List Expr} {e : Option CE} {b : Bool} {Q : Bool → Shared → Prop} (j : JC W n c N ifs e) (hN : env.scope.names = N) (T : At W n A env L ρ σ s) (h : evC c L e σ = some (b, σ')) (hQ : TP W.X ρ s σ' b Q) : wpAny (mdl W) A (testsOf ifs env) Q noE s := by
 cases e with
 | none =>
  obtain rfl := j
  replace h := sp h; obtain ⟨rfl, rfl⟩ := h
  exact wpAny_pure (hQ ρ s.heap s.toks T.inv (Step.refl ..))
 | some e' =>
  obtain ⟨e, rfl, j⟩ := j
  replace h := bnd_eq h; obtain ⟨a, σ₁, h1, h⟩ := h
  replace h := mp_of h; obtain ⟨b', hb, h⟩ := h
  replace h := sp h; obtain ⟨rfl, rfl⟩ := h
  exact wpAny_tests_one (J.ts j hN T h1 hb hQ)

theorem filter_look {ns : List String} {x : String} {e : D} : ∀ {L : Loc}, (L.filter fun p => decide (p.1 ∉ ns)).lookup x = some e → L.lookup x = some e ∧ x ∉ ns := by
 intro L
 induction L with
 | nil => exact fun h => nomatch h
 | cons p r ih =>
  intro he
  obtain ⟨y, f⟩ := p
  by_cases hp : y ∈ ns
  ·rw [List.filter_cons_of_neg (by simpa using hp)] at he
   have k := ih he
   exact ⟨by rw [lookup_miss (by rintro rfl; exact k.2 hp)]; exact k.1, k.2⟩
  ·rw [List.filter_cons_of_pos (by simpa using hp)] at he
   by_cases q : y = x
   ·subst q
    rw [lookup_hit] at he ⊢
    exact ⟨he, hp⟩
   ·rw [lookup_miss q] at he ⊢
    exact ih he
theorem comp_env {t : Tgt} {sc : Scope} {C : Addr} {cenv : Env} {h h' : Heap} (F : FrR W.X h ρ env L) (I : Inv W.X ρ σ h) (hc : CompOk env.scope.names sc t) (hk : ∀ a o, h.get? a = some o → h'.get? a = some o) (hn : h.get? C = none) {m₀ : Str → Option Value} (hC : h'.Ns C m₀)
  (e1 : cenv.scope = relabel sc env) (e2 : cenv.locals = C) (e3 : cenv.globals = env.globals) (e4 : cenv.cells = closeL env.cells sc.names []) (e5 : cenv.builtins = env.builtins) :
  FrR W.X h' ρ cenv (L.filter fun p => decide (p.1 ∉ tgtNames t)) ∧ cenv.scope.names = innerN env.scope.names sc.names := by
 have I' : Inv W.X ρ σ h' := I.kept hk
 have S' : Step [] ρ h ρ h' := Step.kept hk
 have F' := F.step I S'
 have hfree : ∀ x ∈ sc.names, x.2 = .free → ∃ c, env.cells.lookup x.1 = some c := fun x hx hf => F.has x.1 (hc.free x hx hf)
 have hmem := closeL_mem (cells := env.cells) sc.names [] hfree (fun _ h => nomatch h)
 have hhas : ∀ n, (n, NameKind.free) ∈ sc.names → (closeL env.cells sc.names []).lookup n = env.cells.lookup n := fun n hn => lookup_of_all (f := fun n => env.cells.lookup n) hmem (closeL_has sc.names [] (.inl hn))
 have hnm : cenv.scope.names = innerN env.scope.names sc.names := by
  rw [e1]
  show sc.names.map _ = sc.names.map _
  refine List.map_congr_left fun x _ => ?_
  obtain ⟨n, k⟩ := x
  show (if (k == NameKind.free && env.scope.kind == .function && env.kindOf n == some .cell) = true then (n, NameKind.cell) else (n, k)) = _
  rw [F.kind]
  unfold Env.kindOf; simp
 have kfree : ∀ n, (cenv.kindOf n = some .cell ∨ cenv.kindOf n = some .free) → (n, NameKind.free) ∈ sc.names := fun n hk' => by
  unfold Env.kindOf at hk'
  rw [hnm] at hk'
  rcases hk' with q | q
  ·cases inner_inv q with
   | old _ z => exact absurd rfl (hc.cell _ z)
   | cell z => exact z
  ·cases inner_inv q with
   | old _ z => exact z
 have look := fun x e => filter_look (L := L) (x := x) (e := e) (ns := tgtNames t)
 refine ⟨⟨by rw [e3]; exact F.glob, by rw [e5]; exact F.blt, by rw [e1]; exact hc.kind, ?_, fun x d hx hk' => ?_, fun n c hm => ?_, fun n n' c h1 h2 => ?_, ?_, fun n hk' => ?_⟩, hnm⟩
 ·refine ⟨m₀, by rw [e2]; exact hC, fun x d hx hk' h0 => ?_⟩
  exfalso
  obtain ⟨_, hnt⟩ := look x d hx
  unfold Env.kindOf at hk'
  rw [hnm] at hk'
  cases inner_inv hk' with
  | old _ z =>
   rcases hc.only _ z rfl with q | ⟨y, hy, q⟩
   ·exact h0 (ofString_inj q)
   ·exact hnt (by rw [ofString_inj q]; exact hy)
 ·obtain ⟨hx', _⟩ := look x d hx
  have hf := kfree _ hk'
  obtain ⟨c, v, hc', hv, hr⟩ := F'.cell x d hx' (hc.free _ hf rfl)
  exact ⟨c, v, by rw [e4, hhas _ hf]; exact hc', hv, hr⟩
 ·rw [e4] at hm
  exact F'.cells n c (mem_of_lookup (hmem _ hm))
 ·rw [e4] at h1 h2
  exact F'.apart n n' c (mem_of_lookup (hmem _ h1)) (mem_of_lookup (hmem _ h2))
 ·rw [e2]; exact ⟨NotOwn.fresh I hn, I.freshB hn⟩
 ·have hf := kfree n hk'
  rw [e4, hhas n hf]
  exact F.has n (hc.free _ hf rfl)

noncomputable def turnOf (c : Callee) (L : Loc) (t : Tgt) (cond : Option CE) (elt : CE) (x : D) (σ : St) : Option (Option D × St) :=
 (bindT t x L).bind fun L' => bnd (evC c L' cond σ) fun b σ => match b with | true => bnd (ev c L' elt σ) fun y σ => some (some y, σ) | false => some (none, σ)

structure OffA (X : Cx) (ρ : Rho) (cenv : Env) (a : Addr) : Prop where
 own : NotOwn ρ a
 base : X.B.get? a = none
 fr : a ∉ frame cenv
inductive AccL (h : Heap) (ρ : Rho) (Dl : Addr) (acc : List D) (i : Nat) : Prop | mk (items : Array Value) (n : Nat) : h.get? Dl = some { cls := .type "list", data := .seq items n } → VRs h ρ acc items.toList → items.size ≤ i → AccL h ρ Dl acc i
structure CompI (W : Wd) (c : Callee) (L : Loc) (t : Tgt) (cond : Option CE) (elt : CE) (cenv : Env) (it Dl : Addr) (xs : List D) (r : Bool) (d : D) (res : List D) (σ' : St) (ρ₀ : Rho) (h₀ : Heap) (i : Nat) (ρ : Rho) (σ : St) (Lc : Loc) (acc : List D) (h : Heap) : Prop where
 le : i ≤ xs.length
 fr : FrR W.X h ρ cenv Lc
 agree : LcOk t L Lc
 inv : Inv W.X ρ σ h
 pre : W.ρ₀ <+: ρ
 its : ItSt h ρ it xs i r d
 itO : OffA W.X ρ cenv it
 itD : it ≠ Dl
 accL : AccL h ρ Dl acc i
 accO : OffA W.X ρ cenv Dl
 step : Step [it, Dl, cenv.locals] ρ₀ h₀ ρ h
 go : compGo (fun σ => stillR r σ xs d) (turnOf c L t cond elt) (xs.drop i) acc σ = some (res, σ')
end


theorem Inv.butAt {X : Cx} {ρ : Rho} {σ : St} {h h' : Heap} {a : Addr} {o' : Obj} (I : Inv X ρ σ h) (b : Heap.SameBut a h h') (n : NotOwn ρ a) (nb : X.B.get? a = none) (nt : NoTup h a) (hl : h'.get? a = some o') : Inv X ρ σ h' ∧ Step [a] ρ h ρ h' := by
 have off : ∀ c o, h.get? c = some o → c ∉ [a] → h'.get? c = some o := fun c o e m => (b.2 c fun q => m (List.mem_singleton.mpr q)).trans e
 exact ⟨I.off off fun c hc => List.mem_singleton.mp hc ▸ ⟨n, nb, nt⟩, Step.own (fun c o e m _ => off c o e m) fun c o e => samebut_live b hl e⟩

theorem noTup_listObj {h : Heap} {a : Addr} {items : Array Value} {n : Nat} (e : h.get? a = some { cls := .type "list", data := .seq items n }) : NoTup h a := noTup_of e (by simp)

section
variable {W : Wd} {n : Nat} {c : Callee} {A : Around} {env cenv : Env} {L : Loc} {ρ : Rho} {σ σ' : St} {s : Shared} {d : D}

theorem NotOwn.step {ρ ρ' : Rho} {F : List Addr} {h h' : Heap} (S : Step F ρ h ρ' h') {a : Addr} (n : NotOwn ρ a) (l : ∃ o, h.get? a = some o) : NotOwn ρ' a := l.elim fun _ e => S.notOwn e n
theorem OffA.step {X : Cx} {ρ ρ' : Rho} {F : List Addr} {h h' : Heap} (S : Step F ρ h ρ' h') {a : Addr} (n : OffA X ρ cenv a) (l : ∃ o, h.get? a = some o) : OffA X ρ' cenv a := ⟨n.own.step S l, n.base, n.fr⟩
theorem OffA.notLoc {X : Cx} {a : Addr} (n : OffA X ρ cenv a) : a ∉ [cenv.locals] := fun m => n.fr (List.mem_singleton.mp m ▸ List.mem_cons_self ..)
theorem one_all {α : Type} {a : α} {P : α → Prop} (h : P a) : ∀ b ∈ [a], P b := fun b hb => List.mem_singleton.mp hb ▸ h
theorem AccL.step {X : Cx} {ρ ρ' : Rho} {F : List Addr} {h h' : Heap} {Dl : Addr} {acc : List D} {i : Nat} (x : AccL h ρ Dl acc i) (I : Inv X ρ σ h) (S : Step F ρ h ρ' h') (nt : ∀ a ∈ F, NoTup h a) (m : Dl ∉ F) (no : NotOwn ρ Dl) : AccL h' ρ' Dl acc i := by
 obtain ⟨items, n, e, v, l⟩ := x
 exact ⟨items, n, S.keep _ _ e m no, S.vrs I nt v, l⟩
theorem AccL.live {h : Heap} {Dl : Addr} {acc : List D} {i : Nat} (x : AccL h ρ Dl acc i) : ∃ o, h.get? Dl = some o := by obtain ⟨_, _, e, _⟩ := x; exact ⟨_, e⟩
theorem AccL.grow {h : Heap} {Dl : Addr} {acc : List D} {i : Nat} (x : AccL h ρ Dl acc i) : AccL h ρ Dl acc (i + 1) := by obtain ⟨a, b, e, v, l⟩ := x; exact ⟨a, b, e, v, Nat.le_succ_of_le l⟩
theorem none_mem {P : Addr → Prop} : ∀ a ∈ ([] : List Addr), P a := fun _ m => nomatch m
theorem not_none (a : Addr) : a ∉ ([] : List Addr) := fun m => nomatch m

inductive CompS (W : Wd) (c : Callee) (L : Loc) (t : Tgt) (cond : Option CE) (elt : CE) (cenv : Env) (it Dl : Addr) (xs : List D) (r : Bool) (d : D) (res : List D) (σ' : St) (ρ₀ : Rho) (s₀ : Shared) : Nat → Shared → Prop
 | mk (i : Nat) (ρ : Rho) (σ : St) (Lc : Loc) (acc : List D) (h : Heap) (t' : Nat) : CompI W c L t cond elt cenv it Dl xs r d res σ' ρ₀ s₀.heap i ρ σ Lc acc h → CompS W c L t cond elt cenv it Dl xs r d res σ' ρ₀ s₀ (xs.length - i) { s₀ with heap := h, toks := t' }
theorem compGo_ok {ok : St → Bool} {turn : D → St → Option (Option D × St)} {ds acc : List D} {x : List D × St} (h : compGo ok turn ds acc σ = some x) : ok σ = true := by
 cases ds <;> exact (gd_of h).1
theorem compGo_end {ok : St → Bool} {turn : D → St → Option (Option D × St)} {acc : List D} {x : List D × St} (h : compGo ok turn [] acc σ = some x) : (acc, σ) = x := s1 (gd_of h).2
theorem compGo_cons {ok : St → Bool} {turn : D → St → Option (Option D × St)} {a : D} {ds acc : List D} {x : List D × St} (h : compGo ok turn (a :: ds) acc σ = some x) : BndP (turn a σ) (fun r σ' => compGo ok turn ds (acc ++ r.toList) σ') x := bnd_eq (gd_of h).2
theorem drop_at {α : Type} {xs : List α} {i : Nat} {x : α} (h : xs[i]? = some x) : xs.drop i = x :: xs.drop (i + 1) := by
 obtain ⟨l, rfl⟩ := List.getElem?_eq_some_iff.mp h
 exact List.drop_eq_getElem_cons l

theorem comp_loop {elt' target iter : Expr} {ifs : List Expr} {sc : Scope} {pos : Pos} {elt : CE} {t : Tgt} {cond : Option CE} {it Dl : Addr} {xs : List D} {r : Bool} {res : List D} {ρ₀ : Rho} {s₀ : Shared} {R : Result → Shared → Prop}
  (room : Room n A) (ht : TrT target t) (htg : ∀ x ∈ tgtNames t, cenv.scope.names.lookup (Str.ofString x) = some .local) {N : Nm} (hN : cenv.scope.names = N) (hc : JC W n c N ifs cond) (he : J W n c N elt' elt) (hb : xs.length ≤ big)
  {Lc : Loc} {h₀ : Heap} {t₀ : Nat} (H : CompI W c L t cond elt cenv it Dl xs r d res σ' ρ₀ s₀.heap 0 ρ σ Lc [] h₀)
  (fin : ∀ {i : Nat} {ρ₁ : Rho} {Lc₁ : Loc} {h₁ : Heap} {t₁ : Nat}, CompI W c L t cond elt cenv it Dl xs r d res σ' ρ₀ s₀.heap i ρ₁ σ' Lc₁ res h₁ → ∀ h', Heap.ExtBut it h₁ h' → R (.ok .next) { s₀ with heap := h', toks := t₁ }) :
  codeAny (mdl W) A (.compLoop (.ListComp elt' [⟨target, iter, ifs, 0⟩] sc pos) 0 (.ref it) (.ref Dl) cenv) R { s₀ with heap := h₀, toks := t₀ } := by
 refine compLoop_W (CompS W c L t cond elt cenv it Dl xs r d res σ' ρ₀ s₀) ?_ (xs.length - 0) (.mk 0 _ _ _ _ _ _ H)
 rintro k s₁ ⟨i, ρ₁, σ₁, Lc₁, acc, h₁, t₁, J⟩
 refine P_next room.1 J.inv J.its (compGo_ok J.go) J.itO.own (fun x v h₂ t₂ hx hr its' sb => ⟨its'.cls, ?_⟩) (fun h₂ hx ext => ?_)
 ·-- an item
  obtain ⟨hle, fr, agree, inv, pre, its, itO, itD, accL, accO, step, go⟩ := J
  have hlt := (List.getElem?_eq_some_iff.mp hx).1
  rw [drop_at hx] at go
  replace go := compGo_cons go
  obtain ⟨ro, σ₂, hturn, go⟩ := go
  replace hturn := bi_of hturn; obtain ⟨L', hb', hturn⟩ := hturn
  have ntI := its.noTup
  have IS := its'.cls.live.elim fun _ e => inv.butAt sb itO.own itO.base ntI e
  have I₁ := IS.1
  have S₁ := IS.2
  have F₁ : FrR W.X h₂ ρ₁ cenv Lc₁ := fr.stepF inv S₁ (one_all ⟨ntI, itO.fr⟩)
  obtain ⟨Lc', hset, hsub⟩ := setT_of_bindT hb' agree
  refine P_assign (s := { s₀ with heap := h₂, toks := t₂ }) (G := [cenv.locals]) ht room.1 F₁ I₁ (one_all (List.mem_cons_self ..)) (fun y hy => .inl ⟨htg y hy, List.mem_singleton.mpr rfl⟩) (S₁.vr inv (one_all ntI) hr) hset fun h₃ t₃ F₂ I₂ S₂ => ?_
  have T₂ : At W n A cenv L' ρ₁ σ₁ { s₀ with heap := h₃, toks := t₃ } := ⟨room, F₂.congr hsub, I₂, pre⟩
  have ntC : ∀ a ∈ [cenv.locals], NoTup h₂ a := one_all (F₁.frameOk _ (List.mem_cons_self ..)).2.2
  replace hturn := bnd_eq hturn; obtain ⟨b, σ₃, hcond, hturn⟩ := hturn
  refine hc.run hN T₂ hcond fun ρ₃ h₄ t₄ I₃ S₃ => ?_
  have its₂ := its'.step I₁ S₂ ntC itO.notLoc itO.own
  have acc₂ := (accL.step inv S₁ (one_all ntI) (fun m => itD (List.mem_singleton.mp m).symm) accO.own).step I₁ S₂ ntC accO.notLoc accO.own
  have its₃ := its₂.step I₂ S₃ none_mem (not_none _) itO.own
  have acc₃ := acc₂.step I₂ S₃ none_mem (not_none _) accO.own
  have F₃ : FrR W.X h₄ ρ₃ cenv Lc' := F₂.step I₂ S₃
  have itO₃ := itO.step S₃ its₂.cls.live
  have accO₃ := accO.step S₃ acc₂.live
  have upTo : Step [it, Dl, cenv.locals] ρ₀ s₀.heap ρ₃ h₄ := ((step.trans (S₁.mono (one_all (.head _)))).trans (S₂.mono (one_all (.tail _ (.tail _ (.head _)))))).trans (S₃.mono none_mem)
  have pre₃ := pre.trans S₃.pre
  have agree' := setT_agree hset agree
  have small : xs.length - (i + 1) < xs.length - i := Nat.sub_succ_lt_self _ _ hlt
  cases b with
  | false =>
   replace hturn := sp hturn; obtain ⟨rfl, rfl⟩ := hturn
   exact ⟨_, small, .mk (i + 1) ρ₃ _ Lc' acc _ _ ⟨hlt, F₃, agree', I₃, pre₃, its₃, itO₃, itD, acc₃.grow, accO₃, upTo, by rw [Option.toList_none, List.append_nil] at go; exact go⟩⟩
  | true =>
   replace hturn := bnd_eq hturn; obtain ⟨y, σ₄, hev, hturn⟩ := hturn
   replace hturn := sp hturn; obtain ⟨rfl, rfl⟩ := hturn
   refine he.ev hN (T₂.next (t' := t₄) I₃ S₃) hev fun w ρ₄ h₅ t₅ I₄ S₄ hw => ?_
   have F₄ : FrR W.X h₅ ρ₄ cenv Lc' := F₃.step I₃ S₄
   have its₄ := its₃.step I₃ S₄ none_mem (not_none _) itO₃.own
   have acc₄ := acc₃.step I₃ S₄ none_mem (not_none _) accO₃.own
   have itO₄ := itO₃.step S₄ its₃.cls.live
   have accO₄ := accO₃.step S₄ acc₃.live
   obtain ⟨items, na, hD₄, hV₄, hsz⟩ := acc₄
   refine append_at (s := { s₀ with heap := h₅, toks := t₅ }) hD₄ (by have := sizeLine_big; lia) fun h₆ n₅ hD₅ sb₅ => ?_
   have ntD := noTup_listObj hD₄
   obtain ⟨I₅, S₅⟩ := I₄.butAt sb₅ accO₄.own accO₄.base ntD hD₅
   have gD : ∀ a ∈ [Dl], NoTup h₅ a := one_all ntD
   exact ⟨_, small, .mk (i + 1) ρ₄ _ Lc' (acc ++ [y]) _ _ ⟨hlt, F₄.stepF I₄ S₅ (one_all ⟨ntD, accO₄.fr⟩), agree', I₅, pre₃.trans S₄.pre, its₄.step I₄ S₅ gD (fun m => itD (List.mem_singleton.mp m)) itO₄.own, itO₄, itD,
    ⟨_, _, hD₅, by rw [Array.toList_push]; exact VRs.append (.cons (S₅.vr I₄ gD hw) .nil) (S₅.vrs I₄ gD hV₄), by rw [Array.size_push]; exact Nat.succ_le_succ hsz⟩, accO₄, (upTo.trans (S₄.mono none_mem)).trans (S₅.mono (one_all (.tail _ (.head _)))), go⟩⟩
 ·-- the end
  have go := J.go
  rw [List.drop_eq_nil_of_le (List.getElem?_eq_none_iff.mp hx)] at go
  obtain ⟨rfl, rfl⟩ := Prod.mk.inj (compGo_end go)
  exact fin J h₂ ext
end


theorem P_iter_self {X : Cx} {A : Around} {s : Shared} {ρ : Rho} {it : Addr} {xs : List D} {i : Nat} {r : Bool} {d : D} {Q : Value → Shared → Prop} (J : ItSt s.heap ρ it xs i r d) (h : Q (.ref it) s) : wpAny (model X.prog X.w) A (pyIter (.ref it)) Q noE s := by
 cases J with
 | list hp hi => exact wpAny_pyIter_listiter hi h
 | tup ht hv hi => exact wpAny_pyIter_tupleiter hi h
 | range hx hi => exact wpAny_pyIter_rangeiter hi h

theorem filter_lookup {p : String → Bool} {y : String} {e : D} (hp : p y = true) {L : Loc} : L.lookup y = some e → (L.filter fun q => p q.1).lookup y = some e := by
 induction L with
 | nil => exact fun h => nomatch h
 | cons z r ih =>
  intro h
  obtain ⟨z, f⟩ := z
  by_cases q : z = y
  ·subst q
   rw [List.filter_cons_of_pos (p := fun q : String × D => p q.1) hp, lookup_hit]
   rw [lookup_hit] at h; exact h
  ·rw [lookup_miss q] at h
   by_cases hz : p z = true
   ·rw [List.filter_cons_of_pos (p := fun q : String × D => p q.1) hz, lookup_miss q]; exact ih h
   ·rw [List.filter_cons_of_neg (p := fun q : String × D => p q.1) hz]; exact ih h

theorem Step.ext {F : List Addr} {ρ₀ ρ : Rho} {h₀ h h' : Heap} {it : Addr} (S : Step F ρ₀ h₀ ρ h) (e : Heap.ExtBut it h h') (n : h₀.get? it = none) : Step F ρ₀ h₀ ρ h' :=
 ⟨S.pre, fun a o x nF nO => e a o (getNone x n) (S.keep a o x nF nO), S.fresh, fun a o x => (S.live a o x).elim fun o' y => ⟨o', e a o' (getNone x n) y⟩⟩

section
variable {W : Wd} {n : Nat} {c : Callee} {A : Around} {env : Env} {L : Loc} {ρ : Rho} {σ : St} {s : Shared} {d : D}

theorem comp_core {elt' tg itc : Expr} {ifs : List Expr} {sc : Scope} {pos ipos : Pos} {elt : CE} {t : Tgt} {cond : Option CE} {xs ys : List D} {r : Bool} {σ₁ σ₂ : St} {use : Option (Value → Sem Unit)} {Q : Value → Shared → Prop}
  (T : At W n A env L ρ σ s) (ht : TrT tg t) (hcs : CompOk env.scope.names sc t) (hc : JC W n c (innerN env.scope.names sc.names) ifs cond) (he : J W n c (innerN env.scope.names sc.names) elt' elt)
  (hs : ∀ x, foldedSetIterable itc env x = pure x) (hb : xs.length ≤ big)
  (hgo : compGo (fun σ => stillR r σ xs d) (turnOf c L t cond elt) xs [] σ₁ = some (ys, σ₂))
  (hfirst : ∀ Q' : Value → Shared → Prop, (∀ it ρ₁ h₁ t₁, Inv W.X ρ₁ σ₁ h₁ → Step [] ρ s.heap ρ₁ h₁ → ItSt h₁ ρ₁ it xs 0 r d → s.heap.get? it = none → NotOwn ρ₁ it → W.X.B.get? it = none → Q' (.ref it) { s with heap := h₁, toks := t₁ }) →
   wpAny (mdl W) A (eval itc env) (fun x s₁ => wpAny (mdl W) A (pyIter x) Q' noE s₁) noE s)
  (fin : ∀ ρ' h' t' Dl C, Inv W.X ρ' (σ₂ ++ [.list ys]) h' → Step [] ρ s.heap ρ' h' → VR h' ρ' (.ref σ₂.length) (.ref Dl) → (∃ m, h'.Ns C m) → s.heap.get? C = none → NotOwn ρ' C → W.X.B.get? C = none →
   compPost (mdl W) A noE use Q (.ref Dl) C (.ok .next) { s with heap := h', toks := t' }) :
  wpAny (mdl W) A (comprehension (.ListComp elt' [⟨tg, itc, ifs, 0⟩] sc pos) sc env ipos (newList []) false (eval itc env) use) Q noE s := by
 refine wpAny_comprehension_free (cl := closeL env.cells sc.names []) rfl hs (closureFor_eq fun x hx hf => T.fr.has x.1 (hcs.free x hx hf)) hcs.kind hcs.loc (hfirst _ fun it ρ₁ h₁ t₁ I₁ S₁ J fr no nb => ?_)
 refine wpAny_newObj_type ?_
 refine wpAny_newFunctionEnv hcs.cell (by intro y hy; cases hy) (fun h₂ hns hsb => ?_) hcs.kind
 dsimp only at hns hsb ⊢
 generalize hH : h₁.push { cls := .type "list", dict := none, data := .seq ([] : List Value).toArray } = H at hns hsb ⊢
 have hC : H.objs.size = h₁.objs.size + 1 := by rw [← hH, Heap.size_push]
 have hDn : h₁.get? h₁.objs.size = none := freshOf _ _ (Nat.le_refl _)
 have hCn : h₁.get? H.objs.size = none := freshOf _ _ (by rw [hC]; exact Nat.le_succ _)
 have hDC : h₁.objs.size ≠ H.objs.size := by rw [hC]; exact Nat.ne_of_lt (Nat.lt_succ_self _)
 have old : ∀ b o, h₁.get? b = some o → h₂.get? b = some o := fun b o e => (hsb.2 b (getNone e hCn)).trans (Heap.get?_push_of_some _ (hH ▸ Heap.get?_push_of_some _ e))
 have hD : h₂.get? h₁.objs.size = some { cls := .type "list", data := .seq #[] } := (hsb.2 _ hDC).trans (Heap.get?_push_of_some _ (hH ▸ Heap.get?_push_size _ rfl))
 have n0 : ∀ a, h₁.get? a = none → s.heap.get? a = none := fun a n => S₁.absent n
 have I₂ : Inv W.X ρ₁ σ₁ h₂ := I₁.kept old
 have S₂ : Step [] ρ₁ h₁ ρ₁ h₂ := Step.kept old
 have F₁ : FrR W.X h₁ ρ₁ env L := T.fr.step T.inv S₁
 obtain ⟨F₂, hnm⟩ := comp_env (cenv := { (newEnv sc H.objs.size env.globals (closeL env.cells sc.names []) env.qual none .none (some env) builtinsNs) with scope := relabel sc env }) F₁ I₁ hcs old hCn hns rfl rfl rfl rfl rfl
 have eC : ({ (newEnv sc H.objs.size env.globals (closeL env.cells sc.names []) env.qual none .none (some env) builtinsNs) with scope := relabel sc env } : Env).locals = H.objs.size := rfl
 have eK : ({ (newEnv sc H.objs.size env.globals (closeL env.cells sc.names []) env.qual none .none (some env) builtinsNs) with scope := relabel sc env } : Env).cells = closeL env.cells sc.names [] := rfl
 generalize hcenv : ({ (newEnv sc H.objs.size env.globals (closeL env.cells sc.names []) env.qual none .none (some env) builtinsNs) with scope := relabel sc env } : Env) = cenv at F₂ hnm eC eK
 have J₂ : ItSt h₂ ρ₁ it xs 0 r d := J.step I₁ S₂ (fun _ m => nomatch m) (fun m => nomatch m) no
 have itC : it ≠ H.objs.size := J.cls.live.elim fun _ e => getNone e hCn
 have itD : it ≠ h₁.objs.size := J.cls.live.elim fun _ e => getNone e hDn
 have hfree : ∀ x ∈ sc.names, x.2 = .free → ∃ c, env.cells.lookup x.1 = some c := fun x hx hf => T.fr.has x.1 (hcs.free x hx hf)
 have cellLive : ∀ a ∈ (closeL env.cells sc.names []).map (·.2), ∃ o, s.heap.get? a = some o := fun a ha => by
  obtain ⟨⟨m, a'⟩, hm, rfl⟩ := List.mem_map.mp ha
  exact (T.fr.cells m a' (mem_of_lookup (closeL_mem (cells := env.cells) sc.names [] hfree (fun _ h => nomatch h) _ hm))).live.elim fun _ => cell_live
 have offF : ∀ {a}, a ≠ H.objs.size → s.heap.get? a = none → a ∉ frame cenv := fun h n m => by
  unfold frame at m
  rw [eC, eK] at m
  rcases List.mem_cons.mp m with q | m
  ·exact h q
  ·exact (cellLive _ m).elim fun o e => nomatch n.symm.trans e
 have CI : CompI W c L t cond elt cenv it h₁.objs.size xs r d ys σ₂ ρ₁ h₂ 0 ρ₁ σ₁ (L.filter fun p => decide (p.1 ∉ tgtNames t)) [] h₂ :=
  ⟨Nat.zero_le _, F₂, fun y e hy he => filter_lookup (p := fun z => decide (z ∉ tgtNames t)) (decide_eq_true hy) he, I₂, T.pre.trans S₁.pre, J₂, ⟨no, nb, offF itC fr⟩, itD, ⟨#[], 0, hD, VRs.nil, Nat.le_refl _⟩,
   ⟨NotOwn.fresh I₁ hDn, I₁.freshB hDn, offF hDC (n0 _ hDn)⟩, Step.refl .., hgo⟩
 have loop := comp_loop (s₀ := { s with heap := h₂, toks := t₁ }) (t₀ := t₁) (W := W) (n := n) (c := c) (A := A) (elt' := elt') (iter := itc) (pos := pos) (sc := sc) (R := compPost (mdl W) A noE use Q (.ref h₁.objs.size) H.objs.size) T.room ht (fun x hx => by rw [hnm]; exact inner_local (hcs.tgt x hx).1) hnm hc he hb CI
  (fun {i ρ₃ Lc₃ h₃ t₃} J₃ h' ext => by
   obtain ⟨_, fr₃, _, inv₃, _, its₃, itO₃, _, ⟨items, na, hD₃, hV₃, _⟩, accO₃, step₃, _⟩ := J₃
   rw [eC] at step₃
   have S₃ : Step [it, h₁.objs.size, H.objs.size] ρ s.heap ρ₃ h₃ := ((S₁.mono none_mem).trans (S₂.mono none_mem)).trans step₃
   have S₄ : Step [] ρ s.heap ρ₃ h₃ := S₃.start (fun _ _ e => e) (List.forall_mem_cons.mpr ⟨.inr fr, List.forall_mem_cons.mpr ⟨.inr (n0 _ hDn), one_all (.inr (n0 _ hCn))⟩⟩)
   have nt₃ := its₃.noTup
   have I₅ : Inv W.X ρ₃ σ₂ h' := inv₃.off (F := [it]) (fun a o e m => ext a o (fun q => m (List.mem_singleton.mpr q)) e) (one_all ⟨itO₃.own, itO₃.base, nt₃⟩)
   have hD₅ : h'.get? h₁.objs.size = some { cls := .type "list", data := .seq items na } := ext _ _ (Ne.symm itD) hD₃
   have tup : ∀ a its, TupAt h₃ a its → TupAt h' a its := tup_off (fun a o e m => ext a o (fun q => m (List.mem_singleton.mpr q)) e) nt₃
   obtain ⟨I₆, S₆⟩ := I₅.adopt (p := (h₁.objs.size, h₁.objs.size)) (ob := .list ys) (S₄.ext ext fr) accO₃.own accO₃.own accO₃.base accO₃.base (n0 _ hDn) (n0 _ hDn)
    ⟨items, rfl, fun _ o e => get2 hD₅ e ▸ ⟨rfl, rfl⟩, ⟨_, hD₅, rfl, na, rfl⟩, VRs.mono (fun i p => snoc_old) tup _ _ hV₃⟩
   obtain ⟨m, nsC, _⟩ := fr₃.ns
   have loc₃ := fr₃.loc.1
   rw [eC] at nsC loc₃
   exact fin _ h' t₃ _ _ I₆ S₆ ⟨(h₁.objs.size, h₁.objs.size), by rw [← I₅.len]; exact List.getElem?_concat_length⟩ ⟨m, ns_keep (fun o e => ext _ o (Ne.symm itC) e) nsC⟩ (n0 _ hCn)
    (List.forall_mem_append.mpr ⟨loc₃, one_all ⟨Ne.symm hDC, Ne.symm hDC⟩⟩) (I₁.freshB hCn))
 subst hcenv
 exact codeAny_compStart_list loop (wpAny_mono (P_iter_self (X := W.X) (s := { s with heap := h₂, toks := t₁ }) (Q := fun it' s' => codeAny (mdl W) A (.compLoop (.ListComp elt' [⟨tg, itc, ifs, 0⟩] sc pos) 0 it' (.ref h₁.objs.size) _) (compPost (mdl W) A noE use Q (.ref h₁.objs.size) H.objs.size) s') J₂ loop) (fun _ _ x => x) fun _ _ h => h.elim)
end
end Mine
end

section
namespace Mine
section
variable {W : Wd} {n : Nat} {c : Callee} {N : Nm} {A : Around} {env : Env} {L : Loc} {ρ : Rho} {σ σ' : St} {s : Shared} {d : D}

theorem itemsOf_big {r : Bool} {xs : List D} (h : itemsOf r d σ = some xs) : xs.length ≤ big := by
 cases r with
 | true =>
  replace h := i_of h; obtain ⟨m, h⟩ := h
  replace h := gd_of h; obtain ⟨hm, h⟩ := h
  replace h := s1 h; obtain rfl := h
  rw [List.length_map, List.length_range, big]; lia
 | false =>
  replace h := bi_of h; obtain ⟨ys, _, h⟩ := h
  replace h := gd_of h; obtain ⟨hb, h⟩ := h
  replace h := s1 h; obtain rfl := h
  exact hb

noncomputable def FirstOk (W : Wd) (A : Around) (env : Env) (itc : Expr) (r : Bool) (xs : List D) (d : D) (σ₁ : St) (ρ : Rho) (s : Shared) : Prop :=
 ∀ Q' : Value → Shared → Prop, (∀ it ρ₁ h₁ t₁, Inv W.X ρ₁ σ₁ h₁ → Step [] ρ s.heap ρ₁ h₁ → ItSt h₁ ρ₁ it xs 0 r d → s.heap.get? it = none → NotOwn ρ₁ it → W.X.B.get? it = none → Q' (.ref it) { s with heap := h₁, toks := t₁ }) →
   wpAny (mdl W) A (eval itc env) (fun x s₁ => wpAny (mdl W) A (pyIter x) Q' noE s₁) noE s

theorem first_iter {e : CE} {itc : Expr} {xs : List D} {σ₁ : St} (j : J W n c N itc e) (hN : env.scope.names = N) (T : At W n A env L ρ σ s) (h1 : ev c L e σ = some (d, σ₁)) (h2 : itemsOf false d σ₁ = some xs) : FirstOk W A env itc false xs d σ₁ ρ s := by
 intro Q' k
 refine j.ev hN T h1 fun v ρ₁ h₁ t₁ I₁ S₁ x => ?_
 refine P_iter (s := { s with heap := h₁, toks := t₁ }) I₁ x h2 fun h₂ keep J => ?_
 have fr : h₁.get? h₁.objs.size = none := freshOf _ _ (Nat.le_refl _)
 exact k _ ρ₁ h₂ t₁ (I₁.kept keep) (S₁.trans (Step.kept keep)) J (S₁.absent fr) (NotOwn.fresh I₁ fr) (I₁.freshB fr)

theorem first_range (O : W.Ok) {e : CE} {a : Expr} {p q : Pos} {xs : List D} {σ₁ : St} (hb : isBi W.X N "range" (.type "range")) (j : J W n c N a e) (hN : env.scope.names = N) (T : At W n A env L ρ σ s) (h1 : ev c L e σ = some (d, σ₁)) (h2 : itemsOf true d σ₁ = some xs) :
  FirstOk W A env (.Call (.Name (Str.ofString "range") p) [a] [] q) true xs d σ₁ ρ s := by
 intro Q' k
 refine Call_ (ld_bi O T (hN ▸ hb) (callWith_L (P := fun _ => True) (Js.one j) hN T (evs_one h1) (fun h _ => keeps_type _) fun vs ρ₁ h₁ t₁ I₁ S₁ xs' => ⟨trivial, ?_⟩))
 obtain ⟨v, x⟩ := xs'.one
 refine P_range (s := { s with heap := h₁, toks := t₁ }) x h2 fun it h₂ t₂ keep fr J => ?_
 exact k _ ρ₁ h₂ t₂ (I₁.kept keep) (S₁.trans (Step.kept keep)) J (S₁.absent fr) (NotOwn.fresh I₁ fr) (I₁.freshB fr)

inductive JRg (W : Wd) (n : Nat) (c : Callee) (N : Nm) (e : CE) : Expr → Prop | mk (a : Expr) (p q : Pos) : isBi W.X N "range" (.type "range") → J W n c N a e → JRg W n c N e (.Call (.Name (Str.ofString "range") p) [a] [] q)
noncomputable def JIt (W : Wd) (n : Nat) (c : Callee) (N : Nm) (itc : Expr) (r : Bool) (e : CE) : Prop :=
 (∀ x env, foldedSetIterable itc env x = pure x) ∧ (match r with | true => JRg W n c N e itc | false => J W n c N itc e)
theorem JIt.first (O : W.Ok) {itc : Expr} {r : Bool} {e : CE} {xs : List D} {σ₁ : St} (j : JIt W n c N itc r e) (hN : env.scope.names = N) (T : At W n A env L ρ σ s) (h1 : ev c L e σ = some (d, σ₁)) (h2 : itemsOf r d σ₁ = some xs) : FirstOk W A env itc r xs d σ₁ ρ s := by
 replace j := j.2
 cases r with
 | false => exact first_iter j hN T h1 h2
 | true =>
  obtain ⟨a, p, q, hb, j⟩ := j
  exact first_range O hb j hN T h1 h2

inductive EvComp (c : Callee) (L : Loc) (elt : CE) (t : Tgt) (r : Bool) (it : CE) (cond : Option CE) (σ : St) : D → St → Prop
 | mk (d : D) (σ₁ : St) (xs ys : List D) (σ₂ : St) : ev c L it σ = some (d, σ₁) → itemsOf r d σ₁ = some xs → compGo (fun σ => stillR r σ xs d) (turnOf c L t cond elt) xs [] σ₁ = some (ys, σ₂) → EvComp c L elt t r it cond σ (.ref σ₂.length) (σ₂ ++ [.list ys])
theorem ev_comp {elt : CE} {t : Tgt} {r : Bool} {it : CE} {cond : Option CE} (h : ev c L (.comp elt t r it cond) σ = some (d, σ')) : EvComp c L elt t r it cond σ d σ' := by
 replace h := bnd_eq h; obtain ⟨d₁, σ₁, h1, h⟩ := h
 replace h := bi_of h; obtain ⟨xs, hx, h⟩ := h
 replace h := bnd_eq h; obtain ⟨ys, σ₂, h3, h⟩ := h
 replace h := sp h; obtain ⟨rfl, rfl⟩ := h
 exact ⟨d₁, σ₁, xs, ys, σ₂, h1, hx, h3⟩

theorem butC {C : Addr} {ρ' : Rho} {σ' : St} {h' h'' : Heap} (I : Inv W.X ρ' σ' h') (S : Step [] ρ s.heap ρ' h') (hC : ∃ m, h'.Ns C m) (hn : s.heap.get? C = none) (no : NotOwn ρ' C) (nb : W.X.B.get? C = none) (sb : Heap.SameBut C h' h'') :
  Inv W.X ρ' σ' h'' ∧ Step [] ρ s.heap ρ' h'' ∧ ∀ d v, VR h' ρ' d v → VR h'' ρ' d v := by
 have nt := hC.elim fun m hm => noTup_ns hm
 have off : ∀ a o, h'.get? a = some o → a ∉ [C] → h''.get? a = some o := fun a o e mm => (sb.2 a fun q => mm (List.mem_singleton.mpr q)).trans e
 exact ⟨I.off (F := [C]) off (one_all ⟨no, nb, nt⟩), S.ext sb.extBut hn, fun d v x => VR.mono (fun _ _ e => e) (tup_off off nt) d v x⟩

theorem comp_any (O : W.Ok) {elt : CE} {t : Tgt} {r : Bool} {it : CE} {cond : Option CE} {elt' tg itc : Expr} {ifs : List Expr} {sc : Scope} {pos : Pos} {use : Option (Value → Sem Unit)} {Q : Value → Shared → Prop}
  (ht : TrT tg t) (hcs : CompOk N sc t) (hi : JIt W n c N itc r it) (hc : JC W n c (innerN N sc.names) ifs cond) (he : J W n c (innerN N sc.names) elt' elt) (hN : env.scope.names = N) (T : At W n A env L ρ σ s) (h : ev c L (.comp elt t r it cond) σ = some (d, σ'))
  (fin : ∀ ρ' h' t' v C, Inv W.X ρ' σ' h' → Step [] ρ s.heap ρ' h' → VR h' ρ' d v → (∃ m, h'.Ns C m) → s.heap.get? C = none → NotOwn ρ' C → W.X.B.get? C = none → compPost (mdl W) A noE use Q v C (.ok .next) { s with heap := h', toks := t' }) :
  wpAny (mdl W) A (comprehension (.ListComp elt' [⟨tg, itc, ifs, 0⟩] sc pos) sc env itc.pos (newList []) false (eval itc env) use) Q noE s := by
 subst hN
 obtain ⟨d₁, σ₁, xs, ys, σ₂, h1, h2, h3⟩ := ev_comp h
 exact comp_core T ht hcs hc he (fun x => hi.1 x env) (itemsOf_big h2) h3 (hi.first O rfl T h1 h2) fun ρ' h' t' Dl C I S x hC hn no nb => fin ρ' h' t' _ C I S x hC hn no nb

theorem comp_ev (O : W.Ok) {elt : CE} {t : Tgt} {r : Bool} {it : CE} {cond : Option CE} {elt' tg itc : Expr} {ifs : List Expr} {sc : Scope} {pos : Pos}
  (ht : TrT tg t) (hcs : CompOk N sc t) (hi : JIt W n c N itc r it) (hc : JC W n c (innerN N sc.names) ifs cond) (he : J W n c (innerN N sc.names) elt' elt) : EvOk W n c N (.ListComp elt' [⟨tg, itc, ifs, 0⟩] sc pos) (.comp elt t r it cond) := by
 intro A env L ρ σ s d σ' Q hN T h hQ
 rw [eval_ListComp]
 refine comp_any O ht hcs hi hc he hN T h fun ρ' h' t' v C I S x hC hn no nb => ?_
 obtain ⟨m, hm⟩ := hC
 refine ⟨m, hm, fun h'' sb => ?_⟩
 obtain ⟨I', S', hv⟩ := butC I S ⟨m, hm⟩ hn no nb sb
 exact hQ _ _ _ _ I' S' (hv _ _ x)

theorem frameLive (T : At W n A env L ρ σ s) : ∀ a ∈ frame env, ∃ o, s.heap.get? a = some o := fun a ha => by
 rcases List.mem_cons.mp ha with rfl | ha
 ·obtain ⟨m, hn, _⟩ := T.fr.ns; exact ns_live hn
 ·obtain ⟨⟨k, a'⟩, hm, rfl⟩ := List.mem_map.mp ha
  exact (T.fr.cells k a' hm).live.elim fun _ => cell_live

theorem FrR.ext {h h' : Heap} {a : Addr} (F : FrR W.X h ρ env L) (e : Heap.ExtBut a h h') (n : a ∉ frame env) (nt : NoTup h a) : FrR W.X h' ρ env L := by
 have keep : ∀ b ∈ frame env, ∀ o, h.get? b = some o → h'.get? b = some o := fun b hb o x => e b o (fun q => n (q ▸ hb)) x
 have vr : ∀ d v, VR h ρ d v → VR h' ρ d v := fun d v => VR.mono (fun _ _ e => e) (tup_off (fun b o x m => e b o (fun q => m (List.mem_singleton.mpr q)) x) nt) d v
 have kc : ∀ n c, (n, c) ∈ env.cells → ∀ v, h.IsCell c v → h'.IsCell c v := fun n c hm v => cell_keep (keep c (List.mem_cons_of_mem _ (List.mem_map.mpr ⟨_, hm, rfl⟩)))
 obtain ⟨m, hn, hm⟩ := F.ns
 refine ⟨F.glob, F.blt, F.kind, ⟨m, ns_keep (keep _ (List.mem_cons_self ..)) hn, fun y d hy hk h0 => ?_⟩, fun y d hy hk => ?_, fun n c hm => ?_, F.apart, F.loc, F.has⟩
 ·obtain ⟨v, hv, hr⟩ := hm y d hy hk h0
  exact ⟨v, hv, vr _ _ hr⟩
 ·obtain ⟨c, v, hc, hv, hr⟩ := F.cell y d hy hk
  exact ⟨c, v, hc, kc _ _ (mem_of_lookup hc) _ hv, vr _ _ hr⟩
 ·obtain ⟨⟨v, hv⟩, a, b⟩ := F.cells n c hm
  exact ⟨⟨v, kc n c hm v hv⟩, a, b⟩

theorem J_comp (O : W.Ok) {elt : CE} {t : Tgt} {r : Bool} {it : CE} {cond : Option CE} {elt' tg itc : Expr} {ifs : List Expr} {sc : Scope} {pos : Pos}
  (ht : TrT tg t) (hcs : CompOk N sc t) (hi : JIt W n c N itc r it) (hc : JC W n c (innerN N sc.names) ifs cond) (he : J W n c (innerN N sc.names) elt' elt) : J W n c N (.ListComp elt' [⟨tg, itc, ifs, 0⟩] sc pos) (.comp elt t r it cond) := by
 have hev : EvOk W n c N (.ListComp elt' [⟨tg, itc, ifs, 0⟩] sc pos) (.comp elt t r it cond) := comp_ev (pos := pos) O ht hcs hi hc he
 refine ⟨hev, ?_, ?_, .inr (by intro _ _ h; cases h)⟩
 ·intro A env L ρ σ s d σ' b Q hN T h hb hQ
  exact wpAny_isTrue_value (hev hN T h fun v ρ' h' t' I S x => P_truth I x hb fun t'' => hQ _ _ _ I S)
 ·intro x q p A env L ρ σ s d σ' Q hN hx T h hQ
  obtain ⟨b, hb⟩ : ∃ b, swapsWith (.ListComp elt' [⟨tg, itc, ifs, 0⟩] sc pos) (some (.Name (Str.ofString x) q)) p.line env = pure b := ⟨_, rfl⟩
  have hx' : StoreOk env.scope.names x := hN ▸ hx
  cases b with
  | false =>
   refine wpAny_Assign_Name (hev hN T h fun v ρ₁ h₁ t₁ I₁ S₁ y => ?_) hb
   exact P_store (s := { s with heap := h₁, toks := t₁ }) (T.next (t' := t₁) I₁ S₁).fr I₁ (storeIn hx') y fun h₂ t₂ F₂ I₂ S₂ => hQ _ _ _ F₂ I₂ (S₁.toF.trans S₂)
  | true =>
   rw [exec_Assign_Name_used _ _ _ _ hb]
   refine wpAny_bind (wpAny_standAt (wpAny_bind ?_))
   show wpAny _ A (do let _ ← comprehension (.ListComp elt' [⟨tg, itc, ifs, 0⟩] sc pos) sc env itc.pos (newList []) false (eval itc env) (some (assign (.Name (Str.ofString x) q) env))) _ _ s
   refine wpAny_bind (wpAny_mono (comp_any O (use := some (assign (.Name (Str.ofString x) q) env)) (Q := fun _ s' => Q .next s') ht hcs hi hc he hN T h fun ρ' h' t' v C I S y hC hn no nb => ?_) (fun _ s' hq => wpAny_pure (wpAny_pure hq)) fun _ _ e => e)
   have T' := T.next (t' := t') I S
   show wpAny _ A (assign (.Name (Str.ofString x) q) env v) _ _ _
   refine PyProof.Rows.assign_Name (P_store (s := { s with heap := h', toks := t' }) T'.fr I (storeIn hx') y fun h₂ t₂ F₂ I₂ S₂ => ?_)
   have nC : C ∉ frame env := fun m => (frameLive T C m).elim fun o e => nomatch hn.symm.trans e
   obtain ⟨m, ns⟩ := hC
   have ns₂ : h₂.Ns C m := ns_keep (fun o e => S₂.keep _ _ e nC no) ns
   refine ⟨m, ns₂, fun h₃ sb => ?_⟩
   have nt : NoTup h₂ C := noTup_ns ns₂
   have I₃ : Inv W.X ρ' σ' h₃ := I₂.off (F := [C]) (fun a o e mm => (sb.2 a fun q => mm (List.mem_singleton.mpr q)).trans e) (one_all ⟨no, nb, nt⟩)
   exact hQ ρ' h₃ t₂ (F₂.ext sb.extBut nC nt) I₃ ((S.toF.trans S₂).ext sb.extBut hn)
end
end Mine
end

section
namespace Mine
noncomputable abbrev StOk (W : Wd) (n : Nat) (c : Callee) (N : Nm) (st : Stmt) (cs : CS) : Prop :=
 ∀ {A env L ρ σ s f σ'} {Q : Flow → Shared → Prop}, env.scope.names = N → At W n A env L ρ σ s → ex c cs L σ = some (f, σ') → SP W env ρ s σ' Q f → wpAny (mdl W) A (exec st env) Q noE s
structure JS (W : Wd) (n : Nat) (c : Callee) (N : Nm) (st : Stmt) (cs : CS) : Prop where
 run : StOk W n c N st cs
noncomputable def JSs (W : Wd) (n : Nat) (c : Callee) (N : Nm) : List Stmt → List CS → Prop
 | [], [] => True
 | e :: r, e' :: r' => JS W n c N e e' ∧ JSs W n c N r r'
 | _, _ => False

section
variable {W : Wd} {n : Nat} {c : Callee} {N : Nm} {A : Around} {env : Env} {L : Loc} {ρ : Rho} {σ σ' : St} {s : Shared} {d : D}

theorem JSs.map {f : Stmt → CS} {es : List Stmt} : (∀ e ∈ es, JS W n c N e (f e)) → JSs W n c N es (es.map f) := by
 induction es with
 | nil => exact fun _ => trivial
 | cons e r ih => exact fun h => ⟨h e (.head _), ih fun x hx => h x (.tail _ hx)⟩
theorem SP.after {f : Fl} {Q : Flow → Shared → Prop} (h : SP W env ρ s σ' Q f) {ρ₁ : Rho} {h₁ : Heap} {t₁ : Nat} (S : Step (frame env) ρ s.heap ρ₁ h₁) : SP W env ρ₁ { s with heap := h₁, toks := t₁ } σ' Q f := by
 cases f with
 | next L' => exact fun ρ' h' t' F I S' => h ρ' h' t' F I (S.trans S')
 | cont L' => exact fun ρ' h' t' F I S' => h ρ' h' t' F I (S.trans S')
 | ret d => exact fun v ρ' h' t' I S' x => h v ρ' h' t' I (S.trans S') x

theorem At.inter (T : At W n A env L ρ σ s) : PySem.interactive env = false := by unfold PySem.interactive; rw [T.fr.kind]; rfl

theorem JSs.run {st : List Stmt} : ∀ {cs : List CS} {A env L ρ σ s f σ'} {Q : Flow → Shared → Prop}, JSs W n c N st cs → env.scope.names = N → At W n A env L ρ σ s → exs c cs L σ = some (f, σ') → SP W env ρ s σ' Q f → wpAny (mdl W) A (execs st env) Q noE s := by
 induction st with
 | nil =>
  intro cs A env L ρ σ s f σ' Q j hN T h hQ
  cases cs with
  | cons _ _ => exact j.elim
  | nil =>
   replace h := sp h; obtain ⟨rfl, rfl⟩ := h
   exact wpAny_execs_nil (hQ ρ s.heap s.toks T.fr T.inv (Step.refl ..))
 | cons x r ih =>
  intro cs A env L ρ σ s f σ' Q j hN T h hQ
  cases cs with
  | nil => exact j.elim
  | cons x' r' =>
   replace h := bnd_eq h; obtain ⟨f₁, σ₁, h1, h2⟩ := h
   refine wpAny_execs_cons (j.1.run hN T h1 ?_)
   cases f₁ with
   | next L' => exact fun ρ₁ h₁ k₁ F₁ I₁ S₁ => ih j.2 hN ⟨T.room, F₁, I₁, T.pre.trans S₁.pre⟩ h2 (hQ.after S₁)
   | cont L' => obtain ⟨rfl, rfl⟩ := sp h2; exact fun ρ₁ h₁ k₁ F₁ I₁ S₁ => hQ ρ₁ h₁ k₁ F₁ I₁ S₁
   | ret d => obtain ⟨rfl, rfl⟩ := sp h2; exact fun v ρ₁ h₁ k₁ I₁ S₁ y => hQ v ρ₁ h₁ k₁ I₁ S₁ y

theorem JS.stuck {st : Stmt} : JS W n c N st .stuck := ⟨fun _ _ h _ => none_some h⟩

theorem JS_expr {e : Expr} {e' : CE} {p : Pos} (hs : NoSw e) (je : J W n c N e e') : JS W n c N (.Expr e p) (.expr e') := ⟨by
 intro A env L ρ σ s f σ' Q hN T h hQ
 replace h := bnd_eq h; obtain ⟨d, σ₁, h1, h2⟩ := h
 refine wpAny_Expr (je.ev hN T h1 fun v ρ₁ h₁ t₁ I₁ S₁ x => ?_) T.inter (hs _ _ _)
 have T₁ := T.next (t' := t₁) I₁ S₁
 replace h2 := gd_of h2; obtain ⟨hi, h2⟩ := h2
 replace h2 := sp h2; obtain ⟨rfl, rfl⟩ := h2
 cases d with
 | none => obtain rfl := x; exact hQ _ _ _ T₁.fr I₁ S₁.toF
 | bool b => obtain rfl := x; exact hQ _ _ _ T₁.fr I₁ S₁.toF
 | int i => obtain ⟨t⟩ := x; exact hQ _ _ _ T₁.fr I₁ S₁.toF
 | _ => exact nomatch hi⟩

theorem JS_assign {x : String} {e : Expr} {e' : CE} {q p : Pos} (hx : StoreOk N x) (je : J W n c N e e') : JS W n c N (.Assign [.Name (Str.ofString x) q] e p) (.assign x e') := ⟨by
 intro A env L ρ σ s f σ' Q hN T h hQ
 replace h := bnd_eq h; obtain ⟨d, σ₁, h1, h2⟩ := h
 replace h2 := sp h2; obtain ⟨rfl, rfl⟩ := h2
 exact je.as hN hx T h1 hQ⟩

theorem JS_assign2 {x y : String} {e : Expr} {e' : CE} {k : Nat} {r q₁ q₂ p : Pos} (hx : StoreOk N x) (hy : StoreOk N y) (hs : NoSw e) (hw : ∀ env : Env, swappedStores [.Tuple [.Name (Str.ofString x) q₁, .Name (Str.ofString y) q₂] k r] e env = pure none) (je : J W n c N e e') :
  JS W n c N (.Assign [.Tuple [.Name (Str.ofString x) q₁, .Name (Str.ofString y) q₂] k r] e p) (.assign2 x y e') := ⟨by
 intro A env L ρ σ s f σ' Q hN T h hQ
 replace h := bnd_eq h; obtain ⟨d, σ₁, h1, h2⟩ := h
 refine Assign_Tuple (je.ev hN T h1 fun v ρ₁ h₁ t₁ I₁ S₁ x' => ?_) (by unfold swapsWithSole; exact hs _ _ _) (hw env)
 have T₁ := T.next (t' := t₁) I₁ S₁
 subst hN
 replace h2 := t2_of h2; obtain ⟨a, b, h2⟩ := h2
 replace h2 := sp h2; obtain ⟨rfl, rfl⟩ := h2
 exact P_assign (s := { s with heap := h₁, toks := t₁ }) (t := .two x y) (G := frame env) .two T.hand T₁.fr I₁ (fun _ m => m) (List.forall_mem_cons.mpr ⟨storeIn hx, one_all (storeIn hy)⟩) x' rfl fun h₂ t₂ F₂ I₂ S₂ => hQ _ _ _ F₂ I₂ (S₁.toF.trans S₂)⟩

theorem JS_setItem {o i e : Expr} {o' i' e' : CE} {q p : Pos} (hs : NoSw e) (jo : J W n c N o o') (ji : J W n c N i i') (je : J W n c N e e') : JS W n c N (.Assign [.Subscript o i q] e p) (.setItem o' i' e') := ⟨by
 intro A env L ρ σ s f σ' Q hN T h hQ
 replace h := bnd_eq h; obtain ⟨dv, σ₁, h1, h⟩ := h
 replace h := bnd_eq h; obtain ⟨d, σ₂, h3, h⟩ := h
 replace h := bnd_eq h; obtain ⟨k, σ₃, h5, h⟩ := h
 refine wpAny_Assign_Subscript (je.ev hN T h1 fun v ρ₁ h₁ k₁ I₁ S₁ xv => ?_) (hs _ _ _)
 have T₁ := T.next (t' := k₁) I₁ S₁
 refine jo.ev hN T₁ h3 fun ov ρ₂ h₂ k₂ I₂ S₂ xo => ?_
 have T₂ := T₁.next (t' := k₂) I₂ S₂
 refine ji.ev hN T₂ h5 fun iv ρ₃ h₃ k₃ I₃ S₃ xi => ?_
 have T₃ := T₂.next (t' := k₃) I₃ S₃
 have xv' := S₃.vr0 I₂ (S₂.vr0 I₁ xv)
 have xo' := S₃.vr0 I₂ xo
 have Sa : Step (frame env) ρ s.heap ρ₃ h₃ := ((S₁.trans S₂).trans S₃).toF
 have fin : ∀ {σ''}, some (Fl.next L, σ'') = some (f, σ') → EvU W.X ρ₃ { s with heap := h₃, toks := k₃ } σ'' fun _ => Q .next := by
  intro σ'' e h' t' I' S'
  replace e := sp e; obtain ⟨rfl, rfl⟩ := e
  exact hQ _ _ _ (T₃.fr.step I₃ S') I' (Sa.trans S'.toF)
 replace h := r_of h; obtain ⟨i, h⟩ := h
 replace h := o_of h
 cases h with
 | list ys hx h =>
  replace h := i_of h; obtain ⟨j, h⟩ := h
  replace h := gd_of h; obtain ⟨hb, h⟩ := h
  replace h := mp_of h; obtain ⟨σ'', hp, h⟩ := h
  obtain ⟨t⟩ := xi
  exact P_setList (s := { s with heap := h₃, toks := k₃ }) I₃ xo' xv' hx hb.1 hb.2.1 hb.2.2 hp (fin h)
 | dict es hx h =>
  replace h := gd_of h; obtain ⟨hb, h⟩ := h
  replace h := mp_of h; obtain ⟨σ'', hp, h⟩ := h
  exact P_setDict (s := { s with heap := h₃, toks := k₃ }) T.units I₃ xo' xi xv' hx hb.1 hb.2 hp (fin h)⟩

theorem JS_setAttr (O : W.Ok) {o e : Expr} {a : String} {o' e' : CE} {q p : Pos} (ht : ∀ C, takerIn W.X.K (W.X.cl C) (Str.ofString a) = some none) (hs : NoSw e) (jo : J W n c N o o') (je : J W n c N e e') : JS W n c N (.Assign [.Attribute o (Str.ofString a) q] e p) (.setAttr o' a e') := ⟨by
 intro A env L ρ σ s f σ' Q hN T h hQ
 replace h := bnd_eq h; obtain ⟨dv, σ₁, h1, h⟩ := h
 replace h := bnd_eq h; obtain ⟨d, σ₂, h3, h⟩ := h
 refine plainObj_wpAny_Assign_Attribute (je.ev hN T h1 fun v ρ₁ h₁ k₁ I₁ S₁ xv => ?_) (hs _ _ _)
 have T₁ := T.next (t' := k₁) I₁ S₁
 refine jo.ev hN T₁ h3 fun ov ρ₂ h₂ k₂ I₂ S₂ xo => ?_
 have T₂ := T₁.next (t' := k₂) I₂ S₂
 replace h := r_of h; obtain ⟨i, h⟩ := h
 replace h := bi_of h; obtain ⟨q, hC, h⟩ := h
 replace h := gd_of h; obtain ⟨hb, h⟩ := h
 replace h := mp_of h; obtain ⟨σ'', hp, h⟩ := h
 replace h := sp h; obtain ⟨rfl, rfl⟩ := h
 exact P_setattr (s := { s with heap := h₂, toks := k₂ }) (T₂.kin O) (O.cls q.1) (ht q.1) I₂ xo (S₂.vr0 I₁ xv) hC hb hp fun h' t' I' S' => hQ _ _ _ (T₂.fr.step I₂ S') I' (((S₁.trans S₂).trans S').toF)⟩

theorem JS_ret {e : Expr} {e' : CE} {p : Pos} (je : J W n c N e e') : JS W n c N (.Return (some e) p) (.ret e') := ⟨by
 intro A env L ρ σ s f σ' Q hN T h hQ
 replace h := bnd_eq h; obtain ⟨d, σ₁, h1, h2⟩ := h
 replace h2 := sp h2; obtain ⟨rfl, rfl⟩ := h2
 exact wpAny_Return_some (je.ev hN T h1 fun v ρ₁ h₁ t₁ I₁ S₁ x => hQ v _ _ _ I₁ S₁.toF x)⟩

theorem JS_ite {t : Expr} {t' : CE} {b o : List Stmt} {b' o' : List CS} {p : Pos} (jt : J W n c N t t') (jb : JSs W n c N b b') (jo : JSs W n c N o o') : JS W n c N (.If t b o p) (.ite t' b' o') := ⟨by
 intro A env L ρ σ s f σ' Q hN T h hQ
 replace h := bnd_eq h; obtain ⟨d, σ₁, h1, h⟩ := h
 replace h := bi_of h; obtain ⟨r, hv, h⟩ := h
 refine wpAny_If (jt.ts hN T h1 hv fun ρ₁ h₁ t₁ I₁ S₁ => ?_)
 cases r with
 | true => exact jb.run hN (T.next I₁ S₁) h (hQ.after S₁.toF)
 | false => exact jo.run hN (T.next I₁ S₁) h (hQ.after S₁.toF)⟩

theorem JS_cont {p : Pos} : JS W n c N (.Continue p) .cont := ⟨by
 intro A env L ρ σ s f σ' Q hN T h hQ
 replace h := sp h; obtain ⟨rfl, rfl⟩ := h
 exact wpAny_Continue (hQ ρ s.heap s.toks T.fr T.inv (Step.refl ..))⟩

theorem forLoop_W {X : Cx} {A : Around} {s : Shared} {R : Result → Shared → Prop} {target : Expr} {it : Addr} {body orelse : List Stmt} {env : Env} (I : Nat → Shared → Prop)
  (turn : ∀ n s, I n s → wpAny (model X.prog X.w) A (pyNext (.ref it)) (fun r s₁ => match r with
   | none => wpAny (model X.prog X.w) A (execs orelse env) (fun f s₃ => R (.ok f) s₃) noE s₁
   | some v => ItCls s₁.heap it ∧ wpAny (model X.prog X.w) A (assign target env v) (fun _ s₂ => wpAny (model X.prog X.w) A (execs body env) (fun f s₃ => match f with
     | .next | .cont => Less I n s₃
     | .brk => R (.ok .next) s₃
     | .ret v => R (.ok (.ret v)) s₃) noE s₂) noE s₁) noE s)
  (n : Nat) (h : I n s) : codeAny (model X.prog X.w) A (.forLoop target (.ref it) body orelse env) R s := by
 refine codeAny_loop' rfl I (fun n s hI => ?_) n h
 show wpAny _ _ ((forTurn target (.ref it) body orelse env).onRaise (fun x => do noteFrame x env; theTreesLotGoes x)) _ _ s
 refine wpAny_noted ?_
 simp only [forTurn]
 refine wpAny_bind (wpAny_standAt (wpAny_bind (wpAny_onRaise (wpAny_mono (turn n s hI) (fun r s₁ h₁ => ?_) fun _ _ h' => h'.elim))))
 cases r with
 | none => exact wpAny_pure (.inr ⟨rfl, codeAny_block (wpAny_mono h₁ (fun _ _ x => x) fun _ _ x => x.elim)⟩)
 | some v =>
  obtain ⟨hc, h₁⟩ := h₁
  refine wpAny_bind (wpAny_mono (P_letGo (X := X) (tg := target) (v := v) (Q := fun _ s' => s' = s₁) hc rfl) (fun _ s₁' e => ?_) fun _ _ h' => h'.elim)
  subst e
  refine wpAny_bind (wpAny_mono h₁ (fun _ s₂ h₂ => wpAny_bind (wpAny_mono h₂ (fun f s₃ h₃ => ?_) fun _ _ h' => h'.elim)) fun _ _ h' => h'.elim)
  cases f with
  | next => exact wpAny_pure (.inl ⟨rfl, h₃.ex⟩)
  | cont => exact wpAny_pure (.inl ⟨rfl, h₃.ex⟩)
  | brk => exact wpAny_pure h₃
  | ret v => exact wpAny_pure h₃

noncomputable def turnS (c : Callee) (t : Tgt) (body : List CS) (x : D) (L : Loc) (σ : St) : Option (Fl × St) := (setT t x L).bind fun L' => exs c body L' σ

structure LoopI (W : Wd) (c : Callee) (t : Tgt) (body : List CS) (env : Env) (it : Addr) (xs : List D) (r : Bool) (d : D) (f : Fl) (σ' : St) (ρ₀ : Rho) (h₀ : Heap) (i : Nat) (ρ : Rho) (σ : St) (L : Loc) (h : Heap) : Prop where
 le : i ≤ xs.length
 fr : FrR W.X h ρ env L
 inv : Inv W.X ρ σ h
 pre : W.ρ₀ <+: ρ
 its : ItSt h ρ it xs i r d
 itO : OffA W.X ρ env it
 itN : h₀.get? it = none
 step : Step (frame env) ρ₀ h₀ ρ h
 go : forGo (fun σ => stillR r σ xs d) (turnS c t body) (xs.drop i) L σ = some (f, σ')
inductive LoopS (W : Wd) (c : Callee) (t : Tgt) (body : List CS) (env : Env) (it : Addr) (xs : List D) (r : Bool) (d : D) (f : Fl) (σ' : St) (ρ₀ : Rho) (s₀ : Shared) : Nat → Shared → Prop
 | mk (i : Nat) (ρ : Rho) (σ : St) (L : Loc) (h : Heap) (t' : Nat) : LoopI W c t body env it xs r d f σ' ρ₀ s₀.heap i ρ σ L h → LoopS W c t body env it xs r d f σ' ρ₀ s₀ (xs.length - i) { s₀ with heap := h, toks := t' }
theorem forGo_ok {ok : St → Bool} {turn : D → Loc → St → Option (Fl × St)} {ds : List D} {x : Fl × St} (h : forGo ok turn ds L σ = some x) : ok σ = true := by
 cases ds <;> exact (gd_of h).1
theorem forGo_end {ok : St → Bool} {turn : D → Loc → St → Option (Fl × St)} {x : Fl × St} (h : forGo ok turn [] L σ = some x) : (.next L, σ) = x := s1 (gd_of h).2
noncomputable def flGo (ok : St → Bool) (turn : D → Loc → St → Option (Fl × St)) (ds : List D) (f : Fl) (σ' : St) : Option (Fl × St) := match f with
  | .next L' => forGo ok turn ds L' σ'
  | .cont L' => forGo ok turn ds L' σ'
  | .ret r => some (.ret r, σ')
theorem forGo_cons {ok : St → Bool} {turn : D → Loc → St → Option (Fl × St)} {a : D} {ds : List D} {x : Fl × St} (h : forGo ok turn (a :: ds) L σ = some x) : BndP (turn a L σ) (flGo ok turn ds) x := bnd_eq (gd_of h).2

theorem loop_run {target : Expr} {body' : List Stmt} {t : Tgt} {body : List CS} {it : Addr} {xs : List D} {r : Bool} {f : Fl} {ρ₀ : Rho} {s₀ : Shared} {R : Result → Shared → Prop} {Q : Flow → Shared → Prop} {h₀ : Heap} {t₀ : Nat}
  (room : Room n A) (ht : TrT target t) (htg : ∀ x ∈ tgtNames t, StoreOk env.scope.names x) (hb : JSs W n c env.scope.names body' body)
  (H : LoopI W c t body env it xs r d f σ' ρ₀ s₀.heap 0 ρ σ L h₀) (hR : ∀ fl s', Q fl s' → R (.ok fl) s') (hQ : SP W env ρ₀ s₀ σ' Q f) :
  codeAny (mdl W) A (.forLoop target (.ref it) body' [] env) R { s₀ with heap := h₀, toks := t₀ } := by
 refine forLoop_W (LoopS W c t body env it xs r d f σ' ρ₀ s₀) ?_ (xs.length - 0) (.mk 0 _ _ _ _ _ H)
 rintro k s₁ ⟨i, ρ₁, σ₁, L₁, hh, tt, J⟩
 refine P_next (s := { s₀ with heap := hh, toks := tt }) room.1 J.inv J.its (forGo_ok J.go) J.itO.own (fun x v h₁ t₁ hx hr its' sb => ⟨its'.cls, ?_⟩) (fun h₁ hx ext => ?_)
 ·obtain ⟨hle, fr, inv, pre, its, itO, itN, step, go⟩ := J
  have ntI := its.noTup
  have hlt := (List.getElem?_eq_some_iff.mp hx).1
  rw [drop_at hx] at go
  replace go := forGo_cons go
  obtain ⟨fl, σ₂, hturn, go⟩ := go
  replace hturn := bi_of hturn; obtain ⟨L', hset, hturn⟩ := hturn
  have IS := its'.cls.live.elim fun _ e => inv.butAt sb itO.own itO.base ntI e
  have I₁ := IS.1
  have S₁ := IS.2
  have F₁ : FrR W.X h₁ ρ₁ env L₁ := fr.stepF inv S₁ (one_all ⟨ntI, itO.fr⟩)
  have step₁ : Step (frame env) ρ₀ s₀.heap ρ₁ h₁ := step.ext sb.extBut itN
  refine P_assign (s := { s₀ with heap := h₁, toks := t₁ }) (G := frame env) ht room.1 F₁ I₁ (fun _ m => m) (fun z hz => storeIn (htg z hz)) (S₁.vr inv (one_all ntI) hr) hset fun h₂ t₂ F₂ I₂ S₂ => ?_
  have its₂ : ItSt h₂ ρ₁ it xs (i + 1) r d := its'.step I₁ S₂ (step_frame_tup (s := { s₀ with heap := h₁ }) F₁) itO.fr itO.own
  have step₂ := step₁.trans S₂
  refine hb.run rfl ⟨room, F₂, I₂, pre⟩ hturn ?_
  have next : ∀ L'' : Loc, forGo (fun σ => stillR r σ xs d) (turnS c t body) (xs.drop (i + 1)) L'' σ₂ = some (f, σ') → ∀ ρ' h' t', FrR W.X h' ρ' env L'' → Inv W.X ρ' σ₂ h' → Step (frame env) ρ₁ h₂ ρ' h' →
    Less (LoopS W c t body env it xs r d f σ' ρ₀ s₀) (xs.length - i) { s₀ with heap := h', toks := t' } := fun L'' go' ρ' h' t' F' I' S' =>
   ⟨_, Nat.sub_succ_lt_self _ _ hlt, .mk (i + 1) ρ' σ₂ L'' _ _ ⟨hlt, F', I', pre.trans S'.pre, its₂.step I₂ S' (step_frame_tup (s := { s₀ with heap := h₂ }) F₂) itO.fr itO.own, itO.step S' its₂.cls.live, itN, step₂.trans S', go'⟩⟩
  cases fl with
  | next L'' => exact next L'' go
  | cont L'' => exact next L'' go
  | ret dd =>
   replace go := sp go; obtain ⟨rfl, rfl⟩ := go
   exact fun v' ρ' h' t' I' S' y => hR _ _ (hQ v' ρ' h' t' I' (step₂.trans S') y)
 ·obtain ⟨hle, fr, inv, pre, its, itO, itN, step, go⟩ := J
  have ntI := its.noTup
  rw [List.drop_eq_nil_of_le (List.getElem?_eq_none_iff.mp hx)] at go
  obtain ⟨rfl, rfl⟩ := Prod.mk.inj (forGo_end go)
  have off : ∀ a o, hh.get? a = some o → a ∉ [it] → h₁.get? a = some o := fun a o e m => ext a o (fun q => m (List.mem_singleton.mpr q)) e
  exact wpAny_execs_nil (hR _ _ (hQ ρ₁ h₁ tt (fr.ext ext itO.fr ntI) (inv.off (F := [it]) off (one_all ⟨itO.own, itO.base, ntI⟩)) (step.ext ext itN)))

theorem JS_loop (O : W.Ok) {tg itc : Expr} {t : Tgt} {r : Bool} {it : CE} {b : List Stmt} {body : List CS} {p : Pos} (ht : TrT tg t) (hn : ∀ x ∈ tgtNames t, StoreOk N x) (hi : JIt W n c N itc r it) (hb : JSs W n c N b body) : JS W n c N (.For tg itc b [] p) (.loop t r it body) := ⟨by
 intro A env L ρ σ s f σ' Q hN T h hQ
 replace h := bnd_eq h; obtain ⟨d, σ₁, h1, h⟩ := h
 replace h := bi_of h; obtain ⟨xs, h2, h⟩ := h
 subst hN
 refine wpAny_For (hi.first O rfl T h1 h2 _ fun I ρ₁ h₁ t₁ I₁ S₁ J fr no nb => ?_) (fun x => hi.1 x env)
 have T₁ := T.next (t' := t₁) I₁ S₁
 exact loop_run (Q := Q) (ρ₀ := ρ) (s₀ := s) (L := L) T.room ht hn hb ⟨Nat.zero_le _, T₁.fr, I₁, T₁.pre, J, ⟨no, nb, fun m => (frameLive T I m).elim fun o e => nomatch fr.symm.trans e⟩, fr, S₁.toF, h⟩ (fun fl s' q => q) hQ⟩
end
end Mine
end

section
namespace Mine
section
variable {prog : Program} {w : World} {K : Type} [DecidableEq K] {knd : KeyKind prog w K} {A : Around} {E : Value → Shared → Prop} {s : Shared}

inductive DictD (knd : KeyKind prog w K) (h : Heap) (a : Addr) (kvs : List (K × Value)) : Prop | mk (o : Obj) (es : Array DictEntry) (ep : Nat) : h.get? a = some o → o.ExactDict → o.data = .dict es ep → KeysOf knd es → Pairs knd es.toList kvs → (kvs.map (·.1)).Nodup → es.size = kvs.length → DictD knd h a kvs
theorem DictD.of {h : Heap} {a : Addr} {kvs : List (K × Value)} (x : h.DictOf knd a kvs) : DictD knd h a kvs := by
 obtain ⟨o, es, ep, ho, hc, hd, hk, hp, hn⟩ := x
 exact ⟨o, es, ep, ho, hc, hd, hk, hp, hn, by rw [← hp.length, Array.length_toList]⟩
theorem findIdx_list {es : Array DictEntry} {p : DictEntry → Bool} : es.findIdx? p = es.toList.findIdx? p := by obtain ⟨l⟩ := es; simp
theorem dictPut_pairs {d : Addr} {kvs : List (K × Value)} {k : K} {key v : Value} {Q : Unit → Shared → Prop} (hkey : knd.is k key = true) (hm : s.heap.DictOf knd d kvs)
  (hQ : ∀ h', h'.DictOf knd d (stored kvs k v) → Heap.SameBut d s.heap h' → Q () { s with heap := h' })
  (hsz : kvs.length ≤ sizeLine) :
  wpAny (model prog w) A (dictPut d (knd.hash k) key v) Q E s := by
 replace hm := DictD.of hm
 obtain ⟨o, es, ep, ho, hc, hd, hk, hp, hn, hz⟩ := hm
 unfold dictPut
 refine wpAny_bind (wpAny_dictFind_of hkey ho hd hk ?_)
 have hidx : (es.findIdx? fun e => knd.is k e.key) = kvs.findIdx? fun kv => decide (kv.1 = k) := findIdx_list.trans (hp.findIdx k)
 cases hi : es.findIdx? fun e => knd.is k e.key with
 | some i =>
  have h1 := any_of_findIdx_some (hidx ▸ hi)
  refine wpAny_updateDict ho hd (hQ _ ⟨_, _, ep, Heap.get?_update_self _ ho (Obj.isFreed_of_dict (Obj.data_mapDict hd _)),
   hc.mapDict _, Obj.data_mapDict hd _, hk.modify _ _, ?_, ?_⟩ (Heap.SameBut.update ..))
  ·rw [stored, if_pos h1, Array.toList_modify]
   exact hp.modify hn (findIdx_list.symm.trans hi) v
  ·rw [stored, if_pos h1, keys_map_store]; exact hn
 | none =>
  have hnot : k ∉ kvs.map (·.1) := not_mem_of_findIdx_none (hidx ▸ hi)
  have hany : ¬ (kvs.any fun kv => decide (kv.1 = k)) = true := by
   rw [List.any_eq_true]; rintro ⟨kv, hkv, he⟩
   exact hnot (List.mem_map.mpr ⟨kv, hkv, of_decide_eq_true he⟩)
  refine wpAny_updateDictKeys (hz := hz ▸ hsz) ho hd (hQ _ ⟨_, _, ep + 1, Heap.get?_update_self _ ho (Obj.isFreed_of_dict (Obj.data_mapDictKeys hd _)),
   hc.mapDictKeys _, Obj.data_mapDictKeys hd _, hk.push hkey _, ?_, ?_⟩ (Heap.SameBut.update ..))
  ·rw [stored, if_neg hany, Array.toList_push]
   exact hp.append hkey (knd.hash k) v
  ·rw [stored, if_neg hany, List.map_append]
   exact List.nodup_append.mpr ⟨hn, by simp, fun a ha b hb e => hnot ((e.trans (List.mem_singleton.mp hb) : a = k) ▸ ha)⟩

inductive MergeS (knd : KeyKind prog w K) (d o : Addr) (oo : Obj) (m : Nat) (kvs more : List (K × Value)) (s : Shared) : List Nat → Shared → Prop
 | mk (h' : Heap) (i : Nat) : i ≤ m → h'.DictOf knd d (merged kvs (more.take i)) → h'.get? o = some oo → Heap.SameBut d s.heap h' → MergeS knd d o oo m kvs more s ((List.range m).drop i) { s with heap := h' }
theorem range_cut {m i : Nat} (hi : i < m) : (List.range m).drop i = i :: (List.range m).drop (i + 1) := by
 rw [List.drop_eq_getElem_cons (by rw [List.length_range]; exact hi), List.getElem_range]
theorem range_stop {m i : Nat} (hi : m ≤ i) : (List.range m).drop i = [] := List.drop_eq_nil_of_le (by rw [List.length_range]; exact hi)
theorem merge_step {d : Addr} {oo : Obj} {eso : Array DictEntry} {epo : Nat} {kvs more : List (K × Value)} {x : Nat} {h' : Heap} {Q : Unit → Shared → Prop} (hlt : x < eso.size) (hdo' : oo.data = .dict eso epo) (hko : KeysOf knd eso) (hpo : Pairs knd eso.toList more) (hd' : h'.DictOf knd d (merged kvs (more.take x)))
  (hQ : ∀ h'', h''.DictOf knd d (merged kvs (more.take (x + 1))) → Heap.SameBut d h' h'' → Q () { s with heap := h'' }) (hsz : kvs.length + more.length ≤ sizeLine) :
  wpAny (model prog w) A (dictPut d eso[x].hash eso[x].key eso[x].val) Q E { s with heap := h' } := by
 have hlm : x < more.length := by rw [← hpo.length, Array.length_toList]; exact hlt
 have hkv : more[x]? = some more[x] := List.getElem?_eq_getElem hlm
 obtain ⟨hkey, hval⟩ := hpo.get? (e := eso[x]) (by rw [Array.getElem?_toList]; exact Array.getElem?_eq_getElem hlt) hkv
 obtain ⟨k', hkey', hhash⟩ := hko eso[x] (Array.getElem_mem hlt)
 obtain rfl := knd.inj _ _ _ hkey' hkey
 rw [hhash, hval]
 refine dictPut_pairs (s := { s with heap := h' }) hkey hd' (fun h'' hd'' hs'' => hQ h'' (by rw [merged_take_succ kvs more x more[x] hkv]; exact hd'') hs'') ?_
 have e1 := merged_length_le kvs (more.take x)
 rw [List.length_take] at e1
 lia
theorem merge_pairs {d o : Addr} {kvs more : List (K × Value)} {Q : Unit → Shared → Prop} (hdo : d ≠ o) (hoS : (o == sysModules) = false) (hne : kvs ≠ [])
  (hd : s.heap.DictOf knd d kvs) (ho : s.heap.DictOf knd o more)
  (hQ : ∀ h', h'.DictOf knd d (merged kvs more) → Heap.SameBut d s.heap h' → Q () { s with heap := h' })
  (hsz : kvs.length + more.length ≤ sizeLine) :
  wpAny (model prog w) A (mergeMapping d (.ref o) false) Q E s := by
 have hoT := ho.typeIs
 replace ho := DictD.of ho
 obtain ⟨oo, eso, epo, hoo, hco, hdo', hko, hpo, -, hlen⟩ := ho
 unfold mergeMapping
 refine wpAny_bind (wpAny_isInstance hoT isSubtype_dict_dict ?_)
 rw [if_pos rfl]
 refine wpAny_bind (wpAny_specialOf hoT F.slot_dict_iter.lookup ?_)
 rw [beq_self_eq_true]
 refine wpAny_bind (wpAny_pure ?_)
 refine (?_ : wpAny _ _ (if (o == sysModules) = true then _ else _) _ _ _)
 rw [if_neg (by rw [hoS]; exact Bool.false_ne_true)]
 have fin : ∀ b : PUnit, ∀ s', MergeS knd d o oo eso.size kvs more s [] s' → Q () s' := by
  rintro b s' h
  generalize hr : ([] : List Nat) = r at h
  obtain ⟨h', i, hi, hd', hoo', hs'⟩ := h
  have hin : eso.size ≤ i := Nat.le_of_not_lt fun h => by rw [range_cut h] at hr; exact nomatch hr
  rw [List.take_of_length_le (hlen ▸ hin)] at hd'
  exact hQ h' hd' hs'
 have hd0 := DictD.of hd
 obtain ⟨od, esd, epd, hod, hcd, hdd, hkd, hpd, hnd, hzd⟩ := hd0
 refine wpAny_bind (wpAny_dictEntries hod hdd ?_)
 rw [if_neg (by
  intro h
  have := Array.isEmpty_iff.mp h
  rw [this] at hzd
  exact hne (List.length_eq_zero_iff.mp hzd.symm))]
 refine wpAny_bind (wpAny_dictEntries hoo hdo' (wpAny_bind (wpAny_dictEpoch hoo hdo' ?_)))
 refine wpAny_bind (wpAny_forIn_list _ (fun rest _ s' => MergeS knd d o oo eso.size kvs more s rest s') _ ?_ (fun b s' h => wpAny_pure (fin b s' h)) _ _ (.mk s.heap 0 (Nat.zero_le _) hd hoo (Heap.SameBut.refl _ _)))
 intro x rest b s' h
 generalize hr : x :: rest = r at h
 obtain ⟨h', i, hi, hd', hoo', hs'⟩ := h
 have hlt : i < eso.size := Nat.lt_of_not_le fun h => by rw [range_stop h] at hr; exact nomatch hr
 rw [range_cut hlt] at hr
 obtain ⟨rfl, rfl⟩ := List.cons.inj hr
 refine wpAny_bind (wpAny_dictEntries hoo' hdo' ?_)
 rw [Array.getElem?_eq_getElem hlt]
 refine wpAny_bind (wpAny_holding (m := dictPut d eso[x].hash eso[x].key eso[x].val) (merge_step hlt hdo' hko hpo hd' (fun h'' hd'' hs'' => ?_) hsz))
 have hoo'' : h''.get? o = some oo := (hs''.2 o (Ne.symm hdo)).trans hoo'
 refine wpAny_bind (wpAny_dictEpoch hoo'' hdo' ?_)
 rw [if_neg (by simp)]
 exact wpAny_pure (.mk h'' (x + 1) hlt hd'' hoo'' (hs'.trans hs''))
end

theorem gatherM (main : Option Addr) (f : (Option (Sem Value) × Sem Value) → (Option Addr × List (Sem Value × Sem Value)) → Sem (ForInStep (Option Addr × List (Sem Value × Sem Value))))
  (hf : ∀ (p : Sem Value × Sem Value) (run : List (Sem Value × Sem Value)), run.length + 1 < 17 → f (some p.1, p.2) (main, run) = pure (.yield (main, run ++ [p]))) (suf : List (Option (Sem Value) × Sem Value)) :
  ∀ (items run : List (Sem Value × Sem Value)), run.length + items.length < 17 → forIn ((items.map fun p => (some p.1, p.2)) ++ suf) (main, run) f = forIn suf (main, run ++ items) f := by
 intro items
 induction items with
 | nil => intro run _; rw [List.append_nil]; rfl
 | cons p rest ih =>
  intro run h
  rw [List.length_cons] at h
  rw [List.map_cons, List.cons_append, List.forIn_cons, hf p run (by lia), pure_bind]
  refine (ih (run ++ [p]) (by rw [List.length_append, List.length_singleton]; lia)).trans ?_
  rw [List.append_assoc]; rfl

theorem display_two {X : Cx} {A : Around} {s : Shared} {a b : List (Sem Value × Sem Value)} {Q : Value → Shared → Prop} (ha : a.length = 17) (hb : 0 < b.length ∧ b.length < 17)
  (h : wpAny (model X.prog X.w) A (subDict a) (fun d s₁ => wpAny (model X.prog X.w) A (subDict b) (fun sub s₂ => wpAny (model X.prog X.w) A (mergeMapping d (.ref sub) false) (fun _ s₃ => Q (.ref d) s₃) noE s₂) noE s₁) noE s) :
  wpAny (model X.prog X.w) A (dictDisplay ((a ++ b).map fun p => (some p.1, p.2))) Q noE s := by
 obtain ⟨a', p, rfl⟩ : ∃ a' p, a = a' ++ [p] := by
  have : a ≠ [] := by intro q; rw [q] at ha; cases ha
  exact ⟨a.dropLast, a.getLast this, (List.dropLast_concat_getLast this).symm⟩
 have ha' : a'.length = 16 := by simpa using ha
 unfold dictDisplay
 dsimp only
 rw [List.append_assoc, List.map_append, gatherM none _ (fun p run h => by
  have hne : ((run ++ [(p.1, p.2)]).length == 17) = false := by simp; lia
  simp only [hne, Bool.false_eq_true, if_false]) _ a' [] (by simp; lia)]
 rw [List.nil_append, List.cons_append, List.nil_append, List.map_cons, List.forIn_cons]
 have h17 : ((a' ++ [(p.1, p.2)]).length == 17) = true := by simp [ha']
 have hE : (a' ++ [(p.1, p.2)]).isEmpty = false := by simp
 simp only [h17, hE, if_true, Bool.false_eq_true, if_false]
 refine wpAny_bind (wpAny_bind (wpAny_bind (wpAny_bind (wpAny_mono h (fun d s₁ h₁ => ?_) fun _ _ e => e))))
 refine wpAny_pure (wpAny_pure ?_)
 dsimp only
 have hbE : b.isEmpty = false := by
  cases b with
  | nil => simp at hb
  | cons _ _ => rfl
 rw [show (b.map fun p => (some p.1, p.2)) = (b.map fun p => (some p.1, p.2)) ++ [] from (List.append_nil _).symm, gatherM (some d) _ (fun p run h => by
  have hne : ((run ++ [(p.1, p.2)]).length == 17) = false := by simp; lia
  simp only [hne, Bool.false_eq_true, if_false]) [] b [] (by simp; lia), List.forIn_nil]
 refine wpAny_pure ?_
 simp only [List.nil_append, hbE, Bool.false_eq_true, if_false]
 refine wpAny_bind (wpAny_bind (wpAny_holding (wpAny_mono h₁ (fun sub s₂ h₂ => ?_) fun _ _ e => e)))
 refine wpAny_bind (wpAny_onRaise (wpAny_holding (wpAny_mono h₂ (fun _ s₃ h₃ => ?_) fun _ _ e => e.elim)))
 exact wpAny_pure (wpAny_pure h₃)

inductive CarC (k : Str) (P : D → Value → Prop) (Q : List D → List (Value × Value) → Prop) : List D → List (Value × Value) → Prop | mk (t : Tok) (d : D) (v : Value) (ds : List D) (vs : List (Value × Value)) : P d v → Q ds vs → CarC k P Q (d :: ds) ((.str k t, v) :: vs)
noncomputable def CarR (h : Heap) (ρ : Rho) : List Str → List D → List (Value × Value) → Prop
 | [], ds, vs => ds = [] ∧ vs = []
 | k :: ks, ds, vs => CarC k (VR h ρ) (CarR h ρ ks) ds vs

noncomputable def zipK (ks : List Str) (ds : List D) : List (D × D) := (ks.map .str).zip ds

inductive CarK (X : Cx) (h : Heap) (ρ : Rho) (ks : List Str) (ds : List D) (vs : List (Value × Value)) : Prop | mk (kvs : List (Str × Value)) : Carries (PySem.strKind X.prog X.w) vs kvs → KV h ρ D.str (zipK ks ds) kvs → kvs.map (·.1) = ks → CarK X h ρ ks ds vs
theorem CarR.carries {X : Cx} {h : Heap} {ρ : Rho} {ks : List Str} : ∀ {ds : List D} {vs : List (Value × Value)}, CarR h ρ ks ds vs → CarK X h ρ ks ds vs := by
 induction ks with
 | nil => intro ds vs r; obtain ⟨rfl, rfl⟩ := r; exact ⟨[], trivial, rfl, rfl⟩
 | cons k ks ih =>
  rintro _ _ ⟨t, d, v, ds, vs, hv, r⟩
  obtain ⟨kvs, a, b, c⟩ := ih r
  exact ⟨(k, v) :: kvs, ⟨strKind_is X.prog X.w k t, rfl, a⟩, ⟨k, v, kvs, rfl, hv, b⟩, congrArg (k :: ·) c⟩

theorem KV.one {K : Type} {h : Heap} {ρ : Rho} {enc : K → D} {k : K} {d : D} {v : Value} (x : VR h ρ d v) : KV h ρ enc [(enc k, d)] [(k, v)] := ⟨k, v, [], rfl, x, rfl⟩
theorem KV.append {K : Type} {h : Heap} {ρ : Rho} {enc : K → D} {b : List (D × D)} {d : List (K × Value)} (y : KV h ρ enc b d) {a : List (D × D)} : ∀ {c : List (K × Value)}, KV h ρ enc a c → KV h ρ enc (a ++ b) (c ++ d) := by
 induction a with
 | nil => intro c x; obtain rfl := x; exact y
 | cons e r ih => rintro _ ⟨k, v, q, e1, e2, e3⟩; exact ⟨k, v, q ++ d, e1, e2, ih e3⟩

section
variable {W : Wd} {n : Nat} {c : Callee} {N : Nm} {A : Around} {env : Env} {L : Loc} {ρ : Rho} {σ σ' : St} {s : Shared} {d : D}

inductive KeyC (x : Str) (Q : List (Option Expr) → Prop) : List (Option Expr) → Prop | mk (n : Nat) (p : Pos) (r : List (Option Expr)) : Q r → KeyC x Q (some (.Constant (.str x) n p) :: r)
noncomputable def KeysAre (keys : List (Option Expr)) : List Str → Prop
 | [] => keys = []
 | x :: q => KeyC x (fun r => KeysAre r q) keys

theorem snd_pairs {es : List CE} : ∀ {keys : List (Option Expr)} {ks : List Str} {vals : List Expr} {env : Env} {L : Loc} {ρ : Rho} {σ σ' : St} {s : Shared} {ds : List D} {pos : Pos} {Q : List (Value × Value) → Shared → Prop}, KeysAre keys ks → Js W n c N vals es → keys.length = vals.length → env.scope.names = N →
  At W n A env L ρ σ s → evs c L es σ = some (ds, σ') → (∀ vs ρ' h' t', Inv W.X ρ' σ' h' → Step [] ρ s.heap ρ' h' → CarR h' ρ' ks ds vs → Q vs { s with heap := h', toks := t' }) → wpAny (mdl W) A (evalPairs (pairTrees keys vals env pos)) Q noE s := by
 induction es with
 | nil =>
  intro keys ks vals env L ρ σ σ' s ds pos Q tk j hl hN T h hQ
  obtain ⟨rfl, rfl⟩ := evs_nil h
  cases vals with
  | cons _ _ => exact j.elim
  | nil =>
   cases ks with
   | cons _ _ => obtain ⟨_, _, _, _⟩ := tk; exact nomatch hl
   | nil => obtain rfl := tk; exact pairTrees_nil_walk (hQ [] ρ s.heap s.toks T.inv (Step.refl ..) ⟨rfl, rfl⟩)
 | cons e r ih =>
  intro keys ks vals env L ρ σ σ' s ds pos Q tk j hl hN T h hQ
  cases vals with
  | nil => exact j.elim
  | cons v vals =>
   cases ks with
   | nil => obtain rfl := tk; exact nomatch hl
   | cons x ks =>
    obtain ⟨m, p, keys, tk⟩ := tk
    replace h := evs_cons h
    obtain ⟨d, σ₁, ds', h1, h2⟩ := h
    refine pairTrees_cons_walk (wpAny_Constant_str ?_)
    have T₀ : At W n A env L ρ σ { s with toks := s.toks + 1 } := ⟨T.room, T.fr, T.inv, T.pre⟩
    exact j.1.ev hN T₀ h1 fun v ρ₁ h₁ k₁ I₁ S₁ x => ih tk j.2 (Nat.succ.inj hl) hN (T.next (t' := k₁) I₁ S₁) h2 fun vs ρ₂ h₂ k₂ I₂ S₂ cr => hQ _ ρ₂ h₂ k₂ I₂ (S₁.trans S₂) ⟨_, _, _, _, _, S₂.vr0 I₁ x, cr⟩

noncomputable def SubQ (W : Wd) (ρ : Rho) (s : Shared) (σ' : St) (ks : List Str) (ds : List D) (Q : Addr → Shared → Prop) : Prop :=
 ∀ d ρ' h' t' kvs, Inv W.X ρ' σ' h' → Step [] ρ s.heap ρ' h' → s.heap.get? d = none → NotOwn ρ' d → W.X.B.get? d = none → s.heap.objs.size ≤ d → h'.DictOf (PySem.strKind W.X.prog W.X.w) d kvs → KV h' ρ' D.str (zipK ks ds) kvs → kvs.map (·.1) = ks → Q d { s with heap := h', toks := t' }

theorem noTup_dict {h : Heap} {K : Type} [DecidableEq K] {prog : Program} {w : World} {knd : KeyKind prog w K} {a : Addr} {kvs : List (K × Value)} (x : h.DictOf knd a kvs) : NoTup h a := by
 obtain ⟨o, es, ep, ho, hx, _⟩ := x
 exact noTup_of ho (by rw [hx.1]; simp)
theorem dict_live {h : Heap} {K : Type} [DecidableEq K] {prog : Program} {w : World} {knd : KeyKind prog w K} {a : Addr} {kvs : List (K × Value)} (x : h.DictOf knd a kvs) : ∃ o, h.get? a = some o := by
 obtain ⟨o, es, ep, ho, hx, _⟩ := x
 exact ⟨o, ho⟩

structure FreshD (W : Wd) (n : Nat) (A : Around) (env : Env) (L : Loc) (ρ : Rho) (σ : St) (s : Shared) : Prop where
 at_ : At W n A env L ρ σ { s with heap := s.heap.push { cls := .type "dict", data := .dict #[] } }
 step : Step [] ρ s.heap ρ (s.heap.push { cls := .type "dict", data := .dict #[] })
 fr : s.heap.get? s.heap.objs.size = none
 no : NotOwn ρ s.heap.objs.size
 nb : W.X.B.get? s.heap.objs.size = none
 nf : s.heap.objs.size ∉ frame env
theorem fresh_dict (T : At W n A env L ρ σ s) : FreshD W n A env L ρ σ s := by
 have hk : ∀ a o, s.heap.get? a = some o → (s.heap.push { cls := .type "dict", data := .dict #[] }).get? a = some o := fun a o => Heap.get?_push_of_some _
 have fr : s.heap.get? s.heap.objs.size = none := fresh_size _ 0
 exact ⟨T.next (t' := s.toks) (T.inv.kept hk) (Step.kept hk), Step.kept hk, fr, NotOwn.fresh T.inv fr, T.inv.freshB fr, fun m => (frameLive T _ m).elim fun o e => nomatch fr.symm.trans e⟩

theorem snd_subDict_short {es : List CE} {keys : List (Option Expr)} {ks : List Str} {vals : List Expr} {ds : List D} {pos : Pos} {Q : Addr → Shared → Prop} (tk : KeysAre keys ks) (tr : Js W n c N vals es) (hl : keys.length = vals.length) (hN : env.scope.names = N)
  (T : At W n A env L ρ σ s) (h : evs c L es σ = some (ds, σ')) (hn : ks.Nodup) (h15 : keys.length ≤ 15) (hall : keys.all (·.isSome) = true) (hQ : SubQ W ρ s σ' ks ds Q) : wpAny (mdl W) A (subDict (pairTrees keys vals env pos)) Q noE s := by
 obtain ⟨T₀, S₀, fr, no, nb, nf⟩ := fresh_dict T
 refine wpAny_subDict (knd := PySem.strKind W.X.prog W.X.w) (by rw [pairTrees_length _ _ _ _ hall hl]; exact h15) (snd_pairs tk tr hl hN T₀ h fun vs ρ₁ h₁ k₁ I₁ S₁ cr => ?_)
 obtain ⟨kvs, hc, hkv, hks⟩ := CarR.carries (X := W.X) cr
 have hd₀ : (s.heap.push { cls := .type "dict", data := .dict #[] }).get? s.heap.objs.size = some { cls := .type "dict", data := .dict #[] } := Heap.get?_push_size _ rfl
 have hd₁ : h₁.get? s.heap.objs.size = some { cls := .type "dict", data := .dict #[] } := S₁.keep _ _ hd₀ (fun m => nomatch m) no
 have hD₁ : h₁.DictOf (PySem.strKind W.X.prog W.X.w) s.heap.objs.size [] := dictOf_empty.mpr ⟨_, _, hd₁, ⟨rfl, rfl, rfl⟩, rfl⟩
 refine ⟨kvs, hc, hD₁, fun h₂ hD₂ sb => ?_⟩
 have hm : merged [] kvs = kvs := merged_nil_of_nodup kvs (by rw [hks]; exact hn)
 rw [hm] at hD₂
 have nt := noTup_dict hD₁
 have no₁ : NotOwn ρ₁ s.heap.objs.size := no.step S₁ ⟨_, hd₀⟩
 have IS := (dict_live hD₂).elim fun _ => I₁.butAt sb no₁ nb nt
 have S : Step [] ρ s.heap ρ₁ h₂ := ((S₀.toF.trans S₁.toF).trans IS.2).start (fun _ _ e => e) (one_all (.inr fr))
 exact hQ _ ρ₁ h₂ _ kvs IS.1 S fr no₁ nb (Nat.le_refl _) hD₂ (KV.mono (fun _ _ e => e) (samebut_tup sb nt) _ _ hkv) hks

theorem stored_new {k : Str} {v : Value} {kvs : List (Str × Value)} {ks : List Str} (hn : (kvs.map (·.1) ++ k :: ks).Nodup) : stored kvs k v = kvs ++ [(k, v)] := by
 refine if_neg fun h => ?_
 obtain ⟨kv, hm, he⟩ := List.any_eq_true.mp h
 exact (List.nodup_append.mp hn).2.2 kv.1 (List.mem_map.mpr ⟨kv, hm, rfl⟩) k (.head _) (of_decide_eq_true he)
theorem snd_fill {D₀ : Addr} {es : List CE} : ∀ {keys : List (Option Expr)} {ks : List Str} {vals : List Expr} {L : Loc} {ρ : Rho} {σ σ' : St} {s : Shared} {ds : List D} {pos : Pos} {zs : List (D × D)} {kvs : List (Str × Value)} {Q : PUnit → Shared → Prop}, KeysAre keys ks → Js W n c N vals es → keys.length = vals.length → env.scope.names = N →
  At W n A env L ρ σ s → evs c L es σ = some (ds, σ') → NotOwn ρ D₀ → W.X.B.get? D₀ = none → D₀ ∉ frame env → s.heap.DictOf (PySem.strKind W.X.prog W.X.w) D₀ kvs → KV s.heap ρ D.str zs kvs → (kvs.map (·.1) ++ ks).Nodup → kvs.length + ks.length ≤ 100 →
  (∀ ρ' h' t' kvs', Inv W.X ρ' σ' h' → Step [D₀] ρ s.heap ρ' h' → NotOwn ρ' D₀ → h'.DictOf (PySem.strKind W.X.prog W.X.w) D₀ kvs' → KV h' ρ' D.str (zs ++ zipK ks ds) kvs' → kvs'.map (·.1) = kvs.map (·.1) ++ ks → Q ⟨⟩ { s with heap := h', toks := t' }) →
  wpAny (mdl W) A (forIn (pairTrees keys vals env pos) PUnit.unit fun (x : Sem Value × Sem Value) (_ : PUnit) => (do let kv ← x.1; let vv ← holding [kv] x.2; holding [kv, vv] (dictSet D₀ kv vv); pure (ForInStep.yield PUnit.unit) : Sem (ForInStep PUnit))) Q noE s := by
 induction es with
 | nil =>
  intro keys ks vals L ρ σ σ' s ds pos zs kvs Q tk j hl hN T h no nb nf hD hkv hn hsz hQ
  obtain ⟨rfl, rfl⟩ := evs_nil h
  cases vals with
  | cons _ _ => exact j.elim
  | nil =>
   cases ks with
   | cons _ _ => obtain ⟨_, _, _, _⟩ := tk; exact nomatch hl
   | nil =>
    obtain rfl := tk
    refine (?_ : wpAny _ _ (forIn ([] : List (Sem Value × Sem Value)) _ _) _ _ _)
    rw [List.forIn_nil]
    exact wpAny_pure (hQ ρ s.heap s.toks kvs T.inv (Step.refl ..) no hD ((List.append_nil zs).symm ▸ hkv) (List.append_nil _).symm)
 | cons e r ih =>
  intro keys ks vals L ρ σ σ' s ds pos zs kvs Q tk j hl hN T h no nb nf hD hkv hn hsz hQ
  cases vals with
  | nil => exact j.elim
  | cons v vals =>
   cases ks with
   | nil => obtain rfl := tk; exact nomatch hl
   | cons k ks =>
    obtain ⟨m, p, keys, tk⟩ := tk
    replace h := evs_cons h
    obtain ⟨d, σ₁, ds', h1, h2⟩ := h
    rw [pairTrees, List.forIn_cons]
    have T₀ : At W n A env L ρ σ { s with toks := s.toks + 1 } := ⟨T.room, T.fr, T.inv, T.pre⟩
    refine wpAny_bind (wpAny_bind (wpAny_Constant_str (env := env) (k := m) (pos := p) (wpAny_bind (wpAny_holding (wpAny_bind (j.1.ev hN T₀ h1 fun v ρ₁ h₁ k₁ I₁ S₁ x => ?_))))))
    have no₁ := no.step S₁ (dict_live hD)
    have hD₁ : h₁.DictOf (PySem.strKind W.X.prog W.X.w) D₀ kvs := hD.at fun o e => S₁.keep _ _ e (not_none _) no
    have hkv₁ := KV.mono (fun _ _ e => S₁.get e) (fun a its t => S₁.tup T.inv none_mem t) _ _ hkv
    have nl : kvs.length ≤ sizeLine := by rw [sizeLine_eq]; lia
    refine wpAny_bind (wpAny_standAt (wpAny_pure (wpAny_bind (wpAny_holding (wpAny_dictSet_pairs (strKind_is W.X.prog W.X.w k _) hD₁ (fun h₂ hD₂ sb => wpAny_pure ?_) nl)))))
    have nt := noTup_dict hD₁
    have IS := (dict_live hD₂).elim fun _ => I₁.butAt sb no₁ nb nt
    have T₁ := T.next (t' := k₁) I₁ S₁
    have F₂ : FrR W.X h₂ ρ₁ env L := T₁.fr.stepF I₁ IS.2 (one_all ⟨nt, nf⟩)
    rw [stored_new hn] at hD₂
    have tup := samebut_tup sb nt
    exact ih (L := L) (zs := zs ++ [(.str k, d)]) tk j.2 (Nat.succ.inj hl) hN (s := { s with heap := h₂, toks := k₁ + 1 }) ⟨T.room, F₂, IS.1, T₁.pre⟩ h2 no₁ nb nf hD₂ (KV.append (KV.one (VR.mono (fun _ _ e => e) tup _ _ x)) (KV.mono (fun _ _ e => e) tup _ _ hkv₁))
     (by rw [List.map_append, List.append_assoc]; exact hn) (by rw [List.length_append, List.length_singleton]; rw [List.length_cons] at hsz; lia)
     fun ρ₃ h₃ k₃ kvs₃ I₃ S₃ no₃ hD₃ hkv₃ hks₃ => hQ ρ₃ h₃ k₃ kvs₃ I₃ ((S₁.toF.trans IS.2).trans S₃) no₃ hD₃ (by rw [List.append_assoc] at hkv₃; exact hkv₃) (by rw [List.map_append, List.append_assoc] at hks₃; exact hks₃)

theorem snd_subDict_long {es : List CE} {keys : List (Option Expr)} {ks : List Str} {vals : List Expr} {ds : List D} {pos : Pos} {Q : Addr → Shared → Prop} (tk : KeysAre keys ks) (tr : Js W n c N vals es) (hl : keys.length = vals.length) (hN : env.scope.names = N)
  (T : At W n A env L ρ σ s) (h : evs c L es σ = some (ds, σ')) (hn : ks.Nodup) (h15 : 15 < keys.length ∧ ks.length ≤ 100) (hall : keys.all (·.isSome) = true) (hQ : SubQ W ρ s σ' ks ds Q) : wpAny (mdl W) A (subDict (pairTrees keys vals env pos)) Q noE s := by
 obtain ⟨T₀, S₀, fr, no, nb, nf⟩ := fresh_dict T
 unfold subDict
 refine wpAny_bind (wpAny_alloc (wpAny_bind (wpAny_holding ?_)))
 rw [if_neg (by rw [pairTrees_length _ _ _ _ hall hl]; lia)]
 refine wpAny_bind (wpAny_rule ?_)
 refine wpAny_bind (snd_fill (D₀ := s.heap.objs.size) (zs := []) (kvs := []) tk tr hl hN T₀ h no nb nf (Heap.DictOf.new _) rfl hn (by rw [List.length_nil, Nat.zero_add]; exact h15.2) fun ρ₁ h₁ k₁ kvs I₁ S₁ no₁ hD hkv hks => ?_)
 refine wpAny_pure (wpAny_pure (hQ _ ρ₁ h₁ k₁ kvs I₁ ((S₀.toF.trans S₁).start (fun _ _ e => e) (one_all (.inr fr))) fr no₁ nb (Nat.le_refl _) hD hkv hks))
end


section
variable {W : Wd} {n : Nat} {c : Callee} {N : Nm} {A : Around} {env : Env} {L : Loc} {ρ : Rho} {σ σ' : St} {s : Shared} {d : D}

theorem KeysAre.all {ks : List Str} : ∀ {keys : List (Option Expr)}, KeysAre keys ks → keys.all (·.isSome) = true ∧ keys.length = ks.length := by
 induction ks with
 | nil => intro keys h; obtain rfl := h; exact ⟨rfl, rfl⟩
 | cons x q ih => rintro _ ⟨n, p, r, h⟩; exact ⟨(ih h).1, congrArg Nat.succ (ih h).2⟩
theorem KeysAre.split (m : Nat) : ∀ {keys : List (Option Expr)} {ks : List Str}, KeysAre keys ks → KeysAre (keys.take m) (ks.take m) ∧ KeysAre (keys.drop m) (ks.drop m) := by
 induction m with
 | zero => intro keys ks h; exact ⟨rfl, h⟩
 | succ m ih =>
  intro keys ks h
  cases ks with
  | nil => obtain rfl := h; exact ⟨rfl, rfl⟩
  | cons x q => obtain ⟨n, p, r, h⟩ := h; exact ⟨⟨n, p, _, (ih h).1⟩, (ih h).2⟩
theorem Js.split (m : Nat) : ∀ {es : List Expr} {es' : List CE}, Js W n c N es es' → Js W n c N (es.take m) (es'.take m) ∧ Js W n c N (es.drop m) (es'.drop m) := by
 induction m with
 | zero => intro keys ks h; exact ⟨trivial, h⟩
 | succ m ih =>
  intro keys ks h
  cases keys with
  | nil => cases ks <;> first | exact ⟨trivial, trivial⟩ | exact h.elim
  | cons k r =>
   cases ks with
   | nil => exact h.elim
   | cons x q => exact ⟨⟨h.1, (ih h.2).1⟩, (ih h.2).2⟩
inductive EvsS (c : Callee) (L : Loc) (m : Nat) (es : List CE) (σ σ' : St) (ds : List D) : Prop | mk (σ₁ : St) : evs c L (es.take m) σ = some (ds.take m, σ₁) → evs c L (es.drop m) σ₁ = some (ds.drop m, σ') → EvsS c L m es σ σ' ds
theorem evs_split (m : Nat) : ∀ {es : List CE} {σ σ' : St} {ds : List D}, evs c L es σ = some (ds, σ') → EvsS c L m es σ σ' ds := by
 induction m with
 | zero => intro es σ σ' ds h; exact ⟨σ, rfl, h⟩
 | succ m ih =>
  intro es σ σ' ds h
  cases es with
  | nil => obtain ⟨rfl, rfl⟩ := evs_nil h; exact ⟨σ', rfl, rfl⟩
  | cons e r =>
   obtain ⟨d, σ₁, ds', h1, h2⟩ := evs_cons h
   obtain ⟨σ₂, h3, h4⟩ := ih h2
   exact ⟨σ₂, by rw [List.take_succ_cons, evs_c, h1]; exact congrArg (bnd · fun ds σ => some (d :: ds, σ)) h3, h4⟩
theorem pairTrees_split {env : Env} {pos : Pos} (m : Nat) : ∀ {ks : List Str} (keys : List (Option Expr)) (vals : List Expr), KeysAre keys ks → keys.length = vals.length → pairTrees keys vals env pos = pairTrees (keys.take m) (vals.take m) env pos ++ pairTrees (keys.drop m) (vals.drop m) env pos := by
 induction m with
 | zero => intro ks keys vals _ _; rfl
 | succ m ih =>
  intro ks keys vals h hl
  cases ks with
  | nil =>
   obtain rfl := h
   cases vals with
   | nil => rfl
   | cons => exact nomatch hl
  | cons x q =>
   obtain ⟨n, p, r, h⟩ := h
   cases vals with
   | nil => exact nomatch hl
   | cons v vals =>
    rw [List.take_succ_cons, List.take_succ_cons, List.drop_succ_cons, List.drop_succ_cons, pairTrees, pairTrees, List.cons_append, ih r vals h (Nat.succ.inj hl)]

theorem fin_dict (O : W.Ok) {Dd : Addr} {ρ' : Rho} {h' : Heap} {t' : Nat} {zs : List (D × D)} {kvs : List (Str × Value)} {Q : Value → Shared → Prop} (T : At W n A env L ρ σ s) (I : Inv W.X ρ' σ' h') (S : Step [] ρ s.heap ρ' h') (fr : s.heap.get? Dd = none) (no : NotOwn ρ' Dd) (nb : W.X.B.get? Dd = none) (hge : s.heap.objs.size ≤ Dd)
  (hD : h'.DictOf (PySem.strKind W.X.prog W.X.w) Dd kvs) (hkv : KV h' ρ' D.str zs kvs) (hQ : EvP W.X ρ s (.ref σ'.length) (σ' ++ [.dict zs]) Q) : Q (.ref Dd) { s with heap := h', toks := t' } := by
 have lo : (Dd == sysModules) = false := beq_eq_false_iff_ne.mpr (Nat.ne_of_gt (Nat.lt_of_lt_of_le (modules_low (O.lim.keeps T.inv.keepB)) hge))
 obtain ⟨I', S'⟩ := I.adopt (p := (Dd, Dd)) (ob := .dict zs) S no no nb nb fr fr ⟨rfl, lo, .str kvs hD (KV.mono (fun _ _ => snoc_old) (fun _ _ t => t) _ _ hkv)⟩
 exact hQ _ _ _ t' I' S' ⟨(Dd, Dd), by rw [← I.len]; exact List.getElem?_concat_length⟩

theorem J_dict (O : W.Ok) {keys : List (Option Expr)} {vals : List Expr} {ks : List Str} {es : List CE} {p : Pos} (hl : ((keys.length ≤ 15 ∨ 18 ≤ keys.length) ∧ keys.length ≤ 25) ∧ keys.length = vals.length ∧ keys ≠ []) (tk : KeysAre keys ks) (t1 : Js W n c N vals es) : J W n c N (.Dict keys vals p) (.dict ks es) := J.mk0 (by intro _ _; rfl) (by intro _ _ _; rfl) (by intro _ _ h; cases h) (by
 intro A env L ρ σ s d σ' Q hN T h hQ
 replace h := bnd_eq h; obtain ⟨ds, σ₁, h1, h⟩ := h
 replace h := gd_of h; obtain ⟨hk, h⟩ := h
 replace h := sp h; obtain ⟨rfl, rfl⟩ := h
 obtain ⟨hll, hl2, hl3⟩ := hl
 obtain ⟨hall, hkl⟩ := tk.all
 have pl := pairTrees_length keys vals env p hall hl2
 rw [arm_eval_Dict, zip_pairTrees keys vals env p hall hl2]
 refine wpAny_bind (wpAny_standAt ?_)
 by_cases h17 : keys.length < 17
 ·rw [dictDisplay_pairs _ (fun q => hl3 (List.length_eq_zero_iff.mp (pl.symm.trans (congrArg List.length q)))) (by rw [pl]; exact h17)]
  exact wpAny_bind (snd_subDict_short tk t1 hl2 hN T h1 hk.2 (by lia) hall fun Dd ρ' h' t' kvs I S fr no nb hge hD hkv _ => wpAny_pure (fin_dict O T I S fr no nb hge hD hkv hQ))
 ·obtain ⟨σ₂, e1, e2⟩ := evs_split 17 h1
  obtain ⟨tk1, tk2⟩ := tk.split 17
  obtain ⟨j1, j2⟩ := t1.split 17
  have l1 : (keys.take 17).length = (vals.take 17).length := by rw [List.length_take, List.length_take, hl2]
  have l2 : (keys.drop 17).length = (vals.drop 17).length := by rw [List.length_drop, List.length_drop, hl2]
  have kt : (keys.take 17).length = 17 := by rw [List.length_take]; lia
  have kd : (keys.drop 17).length = keys.length - 17 := List.length_drop ..
  have nd : (ks.take 17 ++ ks.drop 17).Nodup := by rw [List.take_append_drop]; exact hk.2
  have ndd := List.nodup_append.mp nd
  rw [pairTrees_split 17 keys vals tk hl2]
  refine display_two ((pairTrees_length _ _ _ _ tk1.all.1 l1).trans kt) (by rw [pairTrees_length _ _ _ _ tk2.all.1 l2, kd]; lia) ?_
  refine snd_subDict_long tk1 j1 l1 hN T e1 ndd.1 ⟨by lia, by rw [List.length_take]; lia⟩ tk1.all.1 fun D₁ ρ₁ h₁ k₁ kvs₁ I₁ S₁ fr₁ no₁ nb₁ hge₁ hD₁ hkv₁ hks₁ => ?_
  have T₁ := T.next (t' := k₁) I₁ S₁
  refine snd_subDict_short tk2 j2 l2 hN T₁ e2 ndd.2.1 (by lia) tk2.all.1 fun D₂ ρ₂ h₂ k₂ kvs₂ I₂ S₂ fr₂ no₂ nb₂ hge₂ hD₂ hkv₂ hks₂ => ?_
  have hne : D₁ ≠ D₂ := (dict_live hD₁).elim fun o e => getNone e fr₂
  have lo₂ : (D₂ == sysModules) = false := beq_eq_false_iff_ne.mpr (Nat.ne_of_gt (Nat.lt_of_lt_of_le (modules_low (O.lim.keeps T₁.inv.keepB)) hge₂))
  have hD₁' : h₂.DictOf (PySem.strKind W.X.prog W.X.w) D₁ kvs₁ := hD₁.at fun o e => S₂.keep _ _ e (not_none _) no₁
  have len1 : kvs₁.length = 17 := by have := congrArg List.length hks₁; rw [List.length_map, List.length_take] at this; lia
  have len2 : kvs₂.length ≤ 25 := by have := congrArg List.length hks₂; rw [List.length_map, List.length_drop] at this; lia
  have hmer : merged kvs₁ kvs₂ = kvs₁ ++ kvs₂ := merged_append_of_fresh kvs₁ kvs₂ (by rw [List.map_append, hks₁, hks₂]; exact nd)
  refine merge_pairs (s := { s with heap := h₂, toks := k₂ }) hne lo₂ (fun q => by rw [q] at len1; exact nomatch len1) hD₁' hD₂ (fun h₃ hD₃ sb => ?_) (by rw [sizeLine_eq]; lia)
  rw [hmer] at hD₃
  have nt := noTup_dict hD₁'
  have no₁' := no₁.step S₂ (dict_live hD₁)
  have IS := (dict_live hD₃).elim fun _ => I₂.butAt sb no₁' nb₁ nt
  have S : Step [] ρ s.heap ρ₂ h₃ := ((S₁.toF.trans S₂.toF).trans IS.2).start (fun _ _ e => e) (one_all (.inr fr₁))
  have tup := samebut_tup sb nt
  have hz : (ks.map D.str).zip ds = zipK (ks.take 17) (ds.take 17) ++ zipK (ks.drop 17) (ds.drop 17) := by
   unfold zipK
   rw [← List.zip_append (by rw [List.length_map, List.length_take, List.length_take, ← hk.1]), ← List.map_append, List.take_append_drop, List.take_append_drop]
  exact fin_dict O (s := s) (σ' := σ₁) (t' := k₂) (zs := (ks.map .str).zip ds) T IS.1 S fr₁ no₁' nb₁ hge₁ hD₃ (by rw [hz]; exact KV.append (KV.mono (fun _ _ e => e) tup _ _ hkv₂) (KV.mono (fun _ _ e => e) tup _ _ (KV.mono (fun _ _ e => S₂.get e) (fun a its t => S₂.tup I₁ none_mem t) _ _ hkv₁))) hQ)

theorem J_dict0 (O : W.Ok) {p : Pos} : J W n c N (.Dict [] [] p) (.dict [] []) := J.mk0 (by intro _ _; rfl) (by intro _ _ _; rfl) (by intro _ _ h; cases h) (by
 intro A env L ρ σ s d σ' Q hN T h hQ
 replace h := bnd_eq h; obtain ⟨ds, σ₁, h1, h⟩ := h
 obtain ⟨rfl, rfl⟩ := evs_nil h1
 replace h := gd_of h; obtain ⟨_, h⟩ := h
 replace h := sp h; obtain ⟨rfl, rfl⟩ := h
 rw [arm_eval_Dict]
 refine wpAny_bind (wpAny_standAt ?_)
 show wpAny _ _ newDict _ _ _
 refine wpAny_newObj_type ?_
 obtain ⟨T₀, S₀, fr, no, nb, nf⟩ := fresh_dict T
 exact fin_dict O (t' := s.toks) (zs := []) T T₀.inv S₀ fr no nb (Nat.le_refl _) (kvs := []) (Heap.DictOf.new _) rfl hQ)
end
end Mine
end

section
namespace Mine
inductive ExtOk (W : Wd) (fd : FuncData) (fn : Fn) (vs : List Value) : Prop | mk (ex : List Value) : (∀ h ρ, VRs h ρ fn.extra ex) → (∀ s : Shared, (∀ b o, W.X.B.get? b = some o → s.heap.get? b = some o) → BindsTo s fd ⟨vs, []⟩ ((fn.params.map Str.ofString).zip (vs ++ ex))) → ExtOk W fd fn vs
noncomputable def Local (names : Nm) (x : Str) : Prop := names.lookup x = some .local ∨ names.lookup x = some .cell
structure FdOk (W : Wd) (o : Obj) (fd : FuncData) (body : List Stmt) (fn : Fn) : Prop where
 data : o.data = .func fd
 co : fd.scope.isCoroutine = false
 gen : fd.scope.isGenerator = false
 kind : fd.scope.kind = .function
 clo : fd.closure = []
 glob : fd.globals = mainGlobals
 blt : fd.builtins = builtinsNs
 bd : fd.body = .stmts body
 code : W.X.B.CodeRec fd.code fd.qualname
 tr : ∀ n c, FnSnd W n c → JSs W n c fd.scope.names body fn.body
 nd : (fd.scope.names.map (·.1)).Nodup
 nofree : ∀ x ∈ fd.scope.names, x.2 ≠ .free
 par : ∀ p ∈ fn.params, Local fd.scope.names (Str.ofString p)
 pn : fn.params.Nodup
 bind : ∀ vs : List Value, vs.length + fn.extra.length = fn.params.length → ExtOk W fd fn vs
inductive FnOk (W : Wd) (a : Addr) (fn : Fn) : Prop | mk (o : Obj) (fd : FuncData) (body : List Stmt) : W.X.B.get? a = some o → FdOk W o fd body fn → FnOk W a fn

theorem cellsFrom_keys (names : Nm) : ∀ (n : Nat) (acc : List (Str × Addr)), (names.map (·.1) ++ acc.map (·.1)).Nodup → ((cellsFrom n names acc).map (·.1)).Nodup := by
 induction names with
 | nil => exact fun _ _ h => h
 | cons x r ih =>
  intro n acc h
  obtain ⟨x, k⟩ := x
  unfold cellsFrom
  have h := List.nodup_cons.mp (show (x :: (r.map (·.1) ++ acc.map (·.1))).Nodup from h)
  split
  ·exact ih _ _ ((List.perm_middle.nodup_iff).mpr (List.nodup_cons.mpr h))
  ·exact ih _ _ h.2

theorem cellsFrom_has {x : Str} (names : Nm) : ∀ (n : Nat) (acc : List (Str × Addr)), ((x, NameKind.cell) ∈ names ∨ ∃ c, (x, c) ∈ acc) → ∃ c, (x, c) ∈ cellsFrom n names acc := by
 induction names with
 | nil => exact fun _ _ h => h.elim (fun h => nomatch h) id
 | cons y r ih =>
  intro n acc h
  obtain ⟨y, k⟩ := y
  unfold cellsFrom
  split
  ·rename_i hk
   refine ih _ _ ?_
   rcases h with h | ⟨c, h⟩
   ·rcases List.mem_cons.mp h with e | h
    ·obtain ⟨rfl, rfl⟩ := Prod.mk.inj e; exact .inr ⟨_, .head _⟩
    ·exact .inl h
   ·exact .inr ⟨c, .tail _ h⟩
  ·rename_i hk
   refine ih _ _ (h.imp_left fun h => (List.mem_cons.mp h).resolve_left fun e => hk ?_)
   rw [← (Prod.mk.inj e).2]; rfl

theorem lookup_of_mem {α : Type} {n : Str} {c : α} {l : List (Str × α)} : (l.map (·.1)).Nodup → (n, c) ∈ l → l.lookup n = some c := by
 induction l with
 | nil => exact fun _ h => nomatch h
 | cons y r ih =>
  intro hn h
  obtain ⟨m, d⟩ := y
  replace hn := List.nodup_cons.mp hn
  rcases List.mem_cons.mp h with e | h'
  ·obtain ⟨rfl, rfl⟩ := Prod.mk.inj e; exact look_hit
  ·rw [look_miss (by rintro rfl; exact hn.1 (List.mem_map.mpr ⟨(n, c), h', rfl⟩))]; exact ih hn.2 h'

section
variable {kindOf : Str → Option NameKind} {m : Str → Option Value} {y : Str} {v : Value} {binds : List (Str × Value)}
theorem bindL_skip : y ∉ binds.map (·.1) → bindL kindOf binds m y = m y := by
 induction binds generalizing m with
 | nil => exact fun _ => rfl
 | cons b r ih =>
  intro h
  obtain ⟨n, u⟩ := b
  have h := not_or.mp (mt List.mem_cons.mpr h)
  unfold bindL
  rw [ih h.2]
  split
  ·exact if_neg h.1
  ·rfl
theorem bindL_get : (binds.map (·.1)).Nodup → (y, v) ∈ binds → kindOf y = some .local → bindL kindOf binds m y = some v := by
 induction binds generalizing m with
 | nil => exact fun _ h => nomatch h
 | cons b r ih =>
  intro hn h hk
  obtain ⟨n, u⟩ := b
  replace hn := List.nodup_cons.mp hn
  unfold bindL
  rcases List.mem_cons.mp h with e | h
  ·obtain ⟨rfl, rfl⟩ := Prod.mk.inj e
   rw [bindL_skip hn.1, if_pos hk]
   exact if_pos rfl
  ·exact ih hn.2 h hk
theorem bindC_skip : y ∉ binds.map (·.1) → bindC kindOf binds m y = m y := by
 induction binds generalizing m with
 | nil => exact fun _ => rfl
 | cons b r ih =>
  intro h
  obtain ⟨n, u⟩ := b
  have h := not_or.mp (mt List.mem_cons.mpr h)
  unfold bindC
  rw [ih h.2]
  split
  ·rfl
  ·exact if_neg h.1
theorem bindC_get : (binds.map (·.1)).Nodup → (y, v) ∈ binds → kindOf y ≠ some .local → bindC kindOf binds m y = some v := by
 induction binds generalizing m with
 | nil => exact fun _ h => nomatch h
 | cons b r ih =>
  intro hn h hk
  obtain ⟨n, u⟩ := b
  replace hn := List.nodup_cons.mp hn
  unfold bindC
  rcases List.mem_cons.mp h with e | h
  ·obtain ⟨rfl, rfl⟩ := Prod.mk.inj e
   rw [bindC_skip hn.1, if_neg hk]
   exact if_pos rfl
  ·exact ih hn.2 h hk
end

theorem param_get {h : Heap} {ρ : Rho} {x : String} {d : D} {ps : List String} : ∀ {ds : List D} {vs : List Value}, VRs h ρ ds vs → (ps.zip ds).lookup x = some d → Has Value (fun v => (Str.ofString x, v) ∈ (ps.map Str.ofString).zip vs) (VR h ρ d) := by
 induction ps with
 | nil => exact fun _ e => nomatch e
 | cons p ps ih =>
  intro ds vs r e
  cases ds with
  | nil => exact nomatch e
  | cons a ds =>
   obtain ⟨v, q, hv, hr⟩ := r
   rw [List.zip_cons_cons] at e
   by_cases hb : p = x
   ·subst hb
    rw [lookup_hit] at e
    exact ⟨v, .head _, s1 e ▸ hv⟩
   ·rw [lookup_miss hb] at e
    obtain ⟨u, hu, hr'⟩ := ih hr e
    exact ⟨u, .tail _ hu, hr'⟩

theorem fn_frame {W : Wd} {s : Shared} {ρ : Rho} {σ : St} {fd : FuncData} {o : Obj} {body : List Stmt} {fn : Fn} {env : Env} {ds : List D} {vs : List Value} {h' : Heap} {m1 : Str → Option Value} {m2 : Str → Option Value} (k : FdOk W o fd body fn) (I : Inv W.X ρ σ s.heap) (keep : ∀ b o, s.heap.get? b = some o → h'.get? b = some o) (hall : VRs h' ρ ds vs)
  (hkn : (((fn.params.map Str.ofString).zip vs).map (·.1)).Nodup)
  (eL : env.locals = s.heap.objs.size) (eC : env.cells = cellsFrom (s.heap.objs.size + 1) fd.scope.names []) (eS : env.scope = fd.scope) (eG : env.globals = mainGlobals) (eB : env.builtins = builtinsNs)
  (ns : h'.Ns env.locals (bindL env.kindOf ((fn.params.map Str.ofString).zip vs) m1)) (cell : ∀ m c, env.cells.lookup m = some c → h'.IsCell c (bindC env.kindOf ((fn.params.map Str.ofString).zip vs) m2 m)) (apart : env.cells.Pairwise fun x y => x.2 ≠ y.2) (above : ∀ m c, (m, c) ∈ env.cells → env.locals < c) : FrR W.X h' ρ env (fn.params.zip ds) := by
 have eK : ∀ y, env.kindOf y = fd.scope.names.lookup y := fun y => by unfold Env.kindOf; rw [eS]
 have knd := cellsFrom_keys fd.scope.names (s.heap.objs.size + 1) [] (by rw [List.map_nil, List.append_nil]; exact k.nd)
 have khas : ∀ x, env.kindOf x = some .cell → ∃ c, env.cells.lookup x = some c := fun x hx => by
  rw [eC]
  exact (cellsFrom_has fd.scope.names _ [] (.inl (mem_of_lookup (eK x ▸ hx)))).imp fun c hc => lookup_of_mem knd hc
 have notFree : ∀ x, env.kindOf x ≠ some .free := fun x q => k.nofree _ (mem_of_lookup (eK x ▸ q)) rfl
 have off : ∀ a, s.heap.objs.size ≤ a → NotOwn ρ a ∧ W.X.B.get? a = none := fun a ha => ⟨NotOwn.fresh I (freshOf _ _ ha), I.freshB (freshOf _ _ ha)⟩
 refine ⟨eG, eB, by rw [eS]; exact k.kind, ⟨_, ns, fun y e hy hky _ => ?_⟩, fun y e hy hky => ?_, fun m c hm => ?_, fun m m' c h1 h2 => name_of_addr apart h1 h2, off _ (Nat.le_of_eq eL.symm), fun m hm => khas m (hm.resolve_right (notFree m))⟩
 ·obtain ⟨v, hv, hr⟩ := param_get hall hy
  exact ⟨v, bindL_get hkn hv hky, hr⟩
 ·have hcell := hky.resolve_right (notFree _)
  obtain ⟨v, hv, hr⟩ := param_get hall hy
  obtain ⟨c, hc⟩ := khas _ hcell
  have hcl := cell _ _ hc
  rw [bindC_get hkn hv (by rw [hcell]; decide)] at hcl
  exact ⟨c, v, hc, hcl, hr⟩
 ·have ab := above m c hm
  rw [eL] at ab
  rw [eC] at hm
  have hl : env.cells.lookup m = some c := by rw [eC]; exact lookup_of_mem knd hm
  have := off c (Nat.le_of_lt ab)
  exact ⟨⟨_, cell _ _ hl⟩, this.1, this.2⟩

theorem fn_snd {W : Wd} (O : W.Ok) {fns : String → Option Fn} (hfn : ∀ f a fn, W.X.fa f = some a → fns f = some fn → FnOk W a fn) (n : Nat) : FnSnd W n (callF fns n) := by
 induction n with
 | zero => intro f args σ d σ' fa h; exact nomatch h
 | succ n ih =>
  intro f args σ d σ' fa h hfa A ρ s vs R room I pre hv hQ
  replace h := bi_of h; obtain ⟨fn, hf, h⟩ := h
  replace h := gd_of h; obtain ⟨hlen, h⟩ := h
  replace h := bnd_eq h; obtain ⟨fl, σ₁, hx, h⟩ := h
  obtain ⟨o, fd, body, ho, k⟩ := hfn f fa fn hfa hf
  have hvl := hv.length
  obtain ⟨ex, hex, hb⟩ := k.bind vs (by rw [List.length_append] at hlen; lia)
  have hall : VRs s.heap ρ (args ++ fn.extra) (vs ++ ex) := VRs.append (hex _ _) hv
  have hal := hall.length
  have hkeys : (((fn.params.map Str.ofString).zip (vs ++ ex)).map (·.1)) = fn.params.map Str.ofString := by
   rw [List.map_fst_zip (by rw [List.length_map]; lia)]
  have hkn : (((fn.params.map Str.ofString).zip (vs ++ ex)).map (·.1)).Nodup := by
   rw [hkeys]
   exact List.Pairwise.map _ (fun a b hne e => hne (ofString_inj e)) k.pn
  have hmem : ∀ x ∈ (fn.params.map Str.ofString).zip (vs ++ ex), Local fd.scope.names x.1 := fun x hx => by
   have : x.1 ∈ fn.params.map Str.ofString := by rw [← hkeys]; exact List.mem_map.mpr ⟨x, hx, rfl⟩
   obtain ⟨p, hp, e⟩ := List.mem_map.mp this
   exact e ▸ k.par p hp
  have knd : ∀ m : Nat, ((cellsFrom m fd.scope.names []).map (·.1)).Nodup := fun m => cellsFrom_keys _ _ _ (by rw [List.map_nil, List.append_nil]; exact k.nd)
  refine codeAny_call_function (by have := room.2.1; lia) (I.keepB _ _ ho) k.data k.co k.gen k.bd (k.code.keeps I.keepB) (hb s I.keepB _ _ _ _ ?_)
  rw [k.clo]
  refine wpAny_newFunctionEnv_cells k.kind (fun x hx => (hmem x hx).imp id fun e => ⟨e, by obtain ⟨c, hc⟩ := cellsFrom_has fd.scope.names (s.heap.objs.size + 1) [] (.inl (mem_of_lookup e)); rw [lookup_of_mem (knd _) hc]; rfl⟩) fun env he s' x => ?_
  refine ⟨(O.lim.keeps I.keepB).keeps x.toInCall.keep, codeAny_func ?_⟩
  have cells := x.cell
  have apart := x.apart
  have above := x.above
  obtain ⟨⟨h', t', rfl⟩, ns, keep, fresh⟩ := x.toInCall
  have Fr' : FrR W.X h' ρ env (fn.params.zip (args ++ fn.extra)) := fn_frame k I keep (hall.grow keep) hkn (by rw [he]; rfl) (by rw [he]; rfl) (by rw [he]; rfl) (by rw [he, ← k.glob]; rfl) (by rw [he, ← k.blt]; rfl) ns cells apart above
  have T : At W n (A.deeper env) env (fn.params.zip (args ++ fn.extra)) ρ σ { s with heap := h', toks := t' } :=
   ⟨⟨room.1, by have := room.2.1; show A.depth + 1 + 2 * n + 4 ≤ _; lia, by have := room.2.2; show A.units + 3 + 40 * n + 200 ≤ _; lia⟩, Fr', I.kept keep, pre⟩
  have eL : env.locals = s.heap.objs.size := by rw [he]; rfl
  have frameFresh : ∀ a ∈ frame env, s.heap.get? a = none := fun a ha => by
   rcases List.mem_cons.mp ha with rfl | ha
   ·exact freshOf _ _ (Nat.le_of_eq eL.symm)
   ·obtain ⟨⟨m, a'⟩, hm, rfl⟩ := List.mem_map.mp ha
    exact freshOf _ _ (Nat.le_of_lt (eL ▸ above m a' hm))
  have toStart : ∀ {ρ₁ h₁}, Step (frame env) ρ h' ρ₁ h₁ → Step [] ρ s.heap ρ₁ h₁ := fun S => S.start keep fun a ha => .inr (frameFresh a ha)
  refine wpAny_mono ((k.tr n _ ih).run (by rw [he]; rfl) T hx (Q := fun f s' => R (.ok (.ret (match f with | .ret v => v | _ => .none))) s') ?_) (fun _ _ q => q) fun _ _ q => q.elim
  cases fl with
  | next L' =>
   replace h := sp h; obtain ⟨rfl, rfl⟩ := h
   exact fun ρ₁ h₁ k₁ F₁ I₁ S₁ => hQ _ ρ₁ h₁ k₁ I₁ (toStart S₁) VR_none
  | cont L' => exact nomatch h
  | ret dd =>
   replace h := sp h; obtain ⟨rfl, rfl⟩ := h
   exact fun v ρ₁ h₁ k₁ I₁ S₁ y => hQ v ρ₁ h₁ k₁ I₁ (toStart S₁) y
end Mine
end

section
namespace Mine
structure Tb where
 nms : List String
 fnl : List String
 cll : List String
 atl : List String
 mtl : List (String × List (String × String))
 consT : String → Option D

noncomputable def nameOf (T : Tb) (id : Str) : Option String := T.nms.find? fun x => Str.ofString x == id
theorem nameOf_ok {T : Tb} {id : Str} {x : String} (h : nameOf T id = some x) : Str.ofString x = id := beq_iff_eq.mp (List.find?_some (p := fun x => Str.ofString x == id) h)

inductive V
 | name (x : Str) (p : Pos) | const (c : Const) (k : Nat) (p : Pos) | tup (es : List Expr) (k : Nat) (p : Pos) | slice (lo hi st : Option Expr) (q : Pos) | un (op : UnaryOp) (e : Expr) (q : Pos)
 | call (f : Expr) (es : List Expr) (ks : List Keyword) (q : Pos) | attr (o : Expr) (m : Str) (p : Pos) | sub (o i : Expr) (p : Pos) | other
noncomputable def V.of : Expr → V
 | .Name x p => .name x p | .Constant c k p => .const c k p | .Tuple es k p => .tup es k p | .Slice lo hi st q => .slice lo hi st q | .UnaryOp op e q => .un op e q
 | .Call f es ks q => .call f es ks q | .Attribute o m p => .attr o m p | .Subscript o i p => .sub o i p | _ => .other
noncomputable def V.ex : V → Option Expr
 | .name x p => some (.Name x p) | .const c k p => some (.Constant c k p) | .tup es k p => some (.Tuple es k p) | .slice lo hi st q => some (.Slice lo hi st q) | .un op e q => some (.UnaryOp op e q)
 | .call f es ks q => some (.Call f es ks q) | .attr o m p => some (.Attribute o m p) | .sub o i p => some (.Subscript o i p) | .other => none
theorem V.of_ex (e : Expr) : (V.of e).ex = none ∨ (V.of e).ex = some e := by cases e <;> first | exact .inr rfl | exact .inl rfl
theorem V.of_ok {e : Expr} {v : V} (h : V.of e = v) {x : Expr} (hx : v.ex = some x) : e = x := by
 subst h
 rcases V.of_ex e with k | k
 ·exact nomatch k.symm.trans hx
 ·exact s1 (k.symm.trans hx)

theorem bnot {b : Bool} (h : (!b) = true) : b = false := by cases b <;> first | rfl | exact nomatch h
noncomputable def om {α : Type} (o : Option α) (f : α → CE) : CE := match o with | some a => f a | none => .stuck
noncomputable def isImp (N : Nm) (id : Str) : Bool := N.lookup id == some .globalImplicit && !(id == ("__debug__" : Str))
noncomputable def opOf (op : Operator) : Option BOp := [BOp.add, .sub, .mul, .fdiv, .mod].find? fun o => opB o == op
noncomputable def copOf (op : CmpOp) : Option COp := [COp.eq, .ne, .lt, .gt, .ge, .isin, .notin].find? fun o => opC o == op
noncomputable def biOf (x : String) : Option Bi := [Bi.len, .any, .all, .sorted, .tuple, .str].find? fun b => biName b == x
noncomputable def trConst : Const → CE
 | .int i => .lit (.int i) | .bool b => .lit (.bool b) | .none => .lit .none | .str s => .lit (.str s) | _ => .stuck
noncomputable def isLoc : NameKind → Bool | .local => true | .cell => true | .free => true | .globalExplicit => false | .globalImplicit => false
noncomputable def trKind (T : Tb) (x : String) (k : NameKind) : CE := if k = .globalImplicit then om (T.consT x) .lit
 else if (isLoc k && !(x == ".0") && !(Str.ofString x == ("__classdict__" : Str))) = true then .var x else .stuck
noncomputable def trName (T : Tb) (N : Nm) (id : Str) : CE := om (nameOf T id) fun x => if (id == ("__debug__" : Str)) = true then .stuck else om (N.lookup id) (trKind T x)
noncomputable def isNoneK : Const → Bool
 | .none => true
 | _ => false
noncomputable def isNoneC (e : Expr) : Bool := match V.of e with | .const c _ _ => isNoneK c | _ => false
noncomputable def trCmp1 (rec : Nm → Expr → CE) (N : Nm) (l : Expr) (op : CmpOp) (r : Expr) : CE := match copOf op with
 | some o => if behindInMarks op r = true then .stuck else .cmp o (rec N l) (rec N r)
 | none => if isNoneC r = true then (if op = .Is then .isNone (rec N l) true else if op = .IsNot then .isNone (rec N l) false else .stuck) else .stuck
noncomputable def trCompare (rec : Nm → Expr → CE) (N : Nm) (l : Expr) (ops : List CmpOp) (rs : List Expr) : CE := match ops with
 | [] => .stuck
 | op :: ops => match ops with
  | _ :: _ => .stuck
  | [] => match rs with
   | [] => .stuck
   | r :: rs => match rs with
    | _ :: _ => .stuck
    | [] => trCmp1 rec N l op r
noncomputable def strK : Const → Option Str
 | .str s => some s
 | _ => none
noncomputable def keyE (e : Expr) : Option Str := match V.of e with | .const c _ _ => strK c | _ => none
noncomputable def keyStr (k : Option Expr) : Option Str := k.bind keyE
noncomputable def keysStr : List (Option Expr) → Option (List Str)
 | [] => some []
 | k :: r => (keyStr k).bind fun s => (keysStr r).bind fun q => some (s :: q)
noncomputable def trDict (rec : Nm → Expr → CE) (N : Nm) (keys : List (Option Expr)) (vals : List Expr) : CE := if keys.isEmpty && vals.isEmpty then .dict [] [] else om (keysStr keys) fun ks => if ((keys.length ≤ 15 ∨ 18 ≤ keys.length) ∧ keys.length ≤ 25) ∧ keys.length = vals.length ∧ !keys.isEmpty then .dict ks (vals.map (rec N)) else .stuck
noncomputable def is1K : Const → Bool
 | .int i => i == 1
 | _ => false
noncomputable def is1E (e : Expr) : Bool := match V.of e with | .const c _ _ => is1K c | _ => false
noncomputable def isMinus1 (e : Expr) : Bool := match V.of e with | .un op e _ => op == .USub && is1E e | _ => false
noncomputable def trSlice (rec : Nm → Expr → CE) (N : Nm) (e : Expr) (lo hi st : Option Expr) : CE := match st with
 | none => .slice (rec N e) (lo.map (rec N)) (hi.map (rec N))
 | some st => if (lo.isNone && hi.isNone && isMinus1 st) = true then .rev (rec N e) else .stuck
noncomputable def trSub (rec : Nm → Expr → CE) (N : Nm) (e i : Expr) : CE := match V.of i with
 | .slice lo hi st _ => trSlice rec N e lo hi st
 | _ => .sub (rec N e) (rec N i)
noncomputable def notStarred (e : Expr) : Bool := e.ctorIdx != 22
noncomputable def trArgs (rec : Nm → Expr → CE) (N : Nm) (x : String) (es : List Expr) : CE := match es with
 | [] => .stuck
 | a :: es => match es with
  | [] => om (biOf x) fun b => .bi b (rec N a)
  | b :: es => match es with
   | [] => if x = "max" then .max (rec N a) (rec N b) else .stuck
   | _ :: _ => .stuck
noncomputable def trFn (T : Tb) (rec : Nm → Expr → CE) (N : Nm) (f : Str) (es : List Expr) : CE := om (nameOf T f) fun x => if isImp N f = false then .stuck else if T.fnl.contains x = true then .call x (es.map (rec N)) else if T.cll.contains x = true then .new x (es.map (rec N)) else trArgs rec N x es
noncomputable def trOwn (rec : Nm → Expr → CE) (N : Nm) (o : Expr) (x : String) (es : List Expr) : CE := match es with
 | [] => .stuck
 | e :: es => match es with
  | [] => if x = "append" then .append (rec N o) (rec N e) else if x = "extend" then .extend (rec N o) (rec N e) else .stuck
  | k :: es => match es with
   | [] => if x = "get" then .dget (rec N o) (rec N e) (rec N k) else .stuck
   | _ :: _ => .stuck
noncomputable def trMeth (T : Tb) (rec : Nm → Expr → CE) (N : Nm) (o : Expr) (m : Str) (apos pos : Pos) (es : List Expr) : CE := om (nameOf T m) fun x => if (plainBase o && apos.endLine == pos.line && es.length < 29 && es.all notStarred) = false then .stuck else match T.mtl.lookup x with
  | some ms => .meth (rec N o) x ms (es.map (rec N))
  | none => trOwn rec N o x es
noncomputable def trCall (T : Tb) (rec : Nm → Expr → CE) (N : Nm) (f : Expr) (es : List Expr) (pos : Pos) : CE := match V.of f with
 | .name f _ => trFn T rec N f es
 | .attr o m apos => trMeth T rec N o m apos pos es
 | _ => .stuck
noncomputable def nameE (e : Expr) : Option Str := match V.of e with | .name x _ => some x | _ => none
noncomputable def tgt2 (T : Tb) (a b : Expr) : Option Tgt := (nameE a).bind fun x => (nameE b).bind fun y => (nameOf T x).bind fun a => (nameOf T y).map fun b => .two a b
noncomputable def tgtOf (T : Tb) (e : Expr) : Option Tgt := match V.of e with
 | .name x _ => (nameOf T x).map .one
 | .tup es _ _ => (match es with
  | [] => none
  | a :: es => (match es with
   | [] => none
   | b :: es => (match es with
    | [] => tgt2 T a b
    | _ :: _ => none)))
 | _ => none
noncomputable def notSet (e : Expr) : Bool := e.ctorIdx != 7
noncomputable def isRng (N : Nm) (e : Expr) : Bool := match V.of e with
 | .name f _ => f == Str.ofString "range" && isImp N f
 | _ => false
noncomputable def oneArg : List Expr → Option Expr
 | [] => none
 | a :: es => (match es with
  | [] => some a
  | _ :: _ => none)
noncomputable def rngOf (N : Nm) (e : Expr) : Option Expr := match V.of e with
 | .call f es ks _ => gd ((isRng N f && ks.isEmpty) = true) (oneArg es)
 | _ => none
noncomputable def itOf (N : Nm) (e : Expr) : Bool × Expr := match rngOf N e with
 | some a => (true, a)
 | none => (false, e)
noncomputable def compOk (N : Nm) (sc : Scope) (t : Tgt) : Bool :=
 sc.kind == .function && sc.names.all (fun x => x.2 != .cell && (x.2 != .local || (sc.names.lookup x.1 == some .local && (x.1 == Str.ofString ".0" || (tgtNames t).any fun y => x.1 == Str.ofString y))) && (x.2 != .free || N.lookup x.1 == some .cell || N.lookup x.1 == some .free)) &&
  (tgtNames t).all fun y => sc.names.lookup (Str.ofString y) == some .local && !(y == ".0")
noncomputable def trComp1 (rec : Nm → Expr → CE) (N : Nm) (elt it : Expr) (sc : Scope) (t : Tgt) (ifs : List Expr) : CE := match ifs with
 | [] => .comp (rec (innerN N sc.names) elt) t (itOf N it).1 (rec N (itOf N it).2) none
 | cd :: r => match r with
  | [] => .comp (rec (innerN N sc.names) elt) t (itOf N it).1 (rec N (itOf N it).2) (some (rec (innerN N sc.names) cd))
  | _ :: _ => .stuck
noncomputable def trComp (T : Tb) (rec : Nm → Expr → CE) (N : Nm) (elt : Expr) (gens : List Comprehension) (sc : Scope) : CE := match gens with
 | [] => .stuck
 | g :: gs => match gs with
  | _ :: _ => .stuck
  | [] => om (tgtOf T g.target) fun t => if (g.is_async == 0 && compOk N sc t && notSet g.iter) = false then .stuck else trComp1 rec N elt g.iter sc t g.ifs
noncomputable def trStep (T : Tb) (rec : Nm → Expr → CE) (N : Nm) : Expr → CE
 | .Constant c _ _ => trConst c
 | .Name id _ => trName T N id
 | .BinOp l op r _ => om (opOf op) fun o => .bin o (rec N l) (rec N r)
 | .UnaryOp op e _ => if op = .USub then .neg (rec N e) else if op = .Not then .not (rec N e) else .stuck
 | .Compare l ops rs _ => trCompare rec N l ops rs
 | .BoolOp op es _ => (match op with | .And => .and (es.map (rec N)) | .Or => .or (es.map (rec N)))
 | .IfExp t b o _ => .ite (rec N t) (rec N b) (rec N o)
 | .Tuple es _ _ => if es.length ≤ 100 then .tup (es.map (rec N)) else .stuck
 | .List es _ => if es.length ≤ 100 then .list (es.map (rec N)) else .stuck
 | .Dict keys vals _ => trDict rec N keys vals
 | .Subscript e i _ => trSub rec N e i
 | .Attribute e a _ => om (nameOf T a) fun x => if (plainBase e && T.atl.contains x) = true then .attr (rec N e) x else .stuck
 | .Call f es ks pos => (match ks with | [] => trCall T rec N f es pos | _ :: _ => .stuck)
 | .ListComp elt gens sc _ => trComp T rec N elt gens sc
 | _ => .stuck
noncomputable def trE (T : Tb) : Nat → Nm → Expr → CE
 | 0 => fun _ _ => .stuck
 | k + 1 => trStep T (trE T k)

inductive FnIs (X : Cx) (f : String) : Prop | mk (a : Addr) : X.fa f = some a → nsIn X.K mainGlobals (Str.ofString f) = some (some (.ref a)) → keepIn X.K (.ref a) = true → FnIs X f
inductive ClsIs (X : Cx) (C : String) : Prop | mk (fI : Addr) : nsIn X.K mainGlobals (Str.ofString C) = some (some (.ref (X.cl C))) → keepIn X.K (.ref (X.cl C)) = true → makesIn X.K (X.cl C) = true → findIn X.K (.ref (X.cl C)) "__init__" = some (some (.ref fI)) → typeIn X.K (.ref fI) = some (.type "function") → X.fa (C ++ ".__init__") = some fI → ClsIs X C
structure Tb.Ok (T : Tb) (W : Wd) : Prop where
 con : ∀ x d, T.consT x = some d → W.X.consts x = some d
 fn : ∀ f ∈ T.fnl, FnIs W.X f
 cl : ∀ C ∈ T.cll, ClsIs W.X C
 at_ : ∀ a ∈ T.atl, ∀ C, findIn W.X.K (.ref (W.X.cl C)) (Str.ofString a) = some none ∧ takerIn W.X.K (W.X.cl C) (Str.ofString a) = some none
 mt : ∀ m ms, T.mtl.lookup m = some ms → ∀ C f, ms.lookup C = some f → MethIs W.X m C f
 bi : ∀ x ∈ ["len", "any", "all", "sorted", "tuple", "str", "max", "range"], nsIn W.X.K mainGlobals (Str.ofString x) = some none

section
variable {T : Tb} {W : Wd} {n : Nat} {c : Callee} {N : Nm}

theorem isImp_ok {id : Str} (h : isImp N id = true) : N.lookup id = some .globalImplicit ∧ dbg id :=
 (Bool.and_eq_true_iff.mp h).imp beq_iff_eq.mp bnot
theorem find_ok {α β : Type} [BEq β] [LawfulBEq β] {l : List α} {f : α → β} {b : β} {a : α} (h : (l.find? fun x => f x == b) = some a) : b = f a := (eq_of_beq (List.find?_some (p := fun x => f x == b) h)).symm
theorem opOf_ok {op : Operator} {o : BOp} (h : opOf op = some o) : op = opB o := find_ok h
theorem copOf_ok {op : CmpOp} {o : COp} (h : copOf op = some o) : op = opC o := find_ok h
theorem biOf_ok {x : String} {b : Bi} (h : biOf x = some b) : x = biName b := find_ok h
theorem boot_bi (b : Bi) : bootBuiltins (Str.ofString (biName b)) = some (biVal b) := by cases b <;> (unfold biName biVal; kernel_rfl)
theorem boot_max : bootBuiltins (Str.ofString "max") = some (.builtin "max") := by kernel_rfl
theorem boot_range : bootBuiltins (Str.ofString "range") = some (.type "range") := by kernel_rfl
theorem bi_mem (b : Bi) : biName b ∈ ["len", "any", "all", "sorted", "tuple", "str", "max", "range"] := by
 cases b
 ·exact .head _
 ·exact .tail _ (.head _)
 ·exact .tail _ (.tail _ (.head _))
 ·exact .tail _ (.tail _ (.tail _ (.head _)))
 ·exact .tail _ (.tail _ (.tail _ (.tail _ (.head _))))
 ·exact .tail _ (.tail _ (.tail _ (.tail _ (.tail _ (.head _)))))
theorem not_name {x : String} (h : (x == "__name__") = false) : Str.ofString x ≠ "__name__" := fun e => by
 rw [ofString_inj (b := "__name__") e] at h; exact nomatch h
theorem bi_name (b : Bi) : Str.ofString (biName b) ≠ "__name__" := by cases b <;> exact not_name (by decide)
theorem J.none_of {α : Type} {e : Expr} {o : Option α} {f : α → CE} (k : ∀ a, o = some a → J W n c N e (f a)) : J W n c N e (om o f) := by
 cases o with
 | none => exact J.stuck
 | some a => exact k a rfl
theorem J.if_of {e : Expr} {p : Prop} [Decidable p] {a b : CE} (h : p → J W n c N e a) (k : ¬ p → J W n c N e b) : J W n c N e (if p then a else b) := by
 by_cases q : p
 ·rw [if_pos q]; exact h q
 ·rw [if_neg q]; exact k q
theorem J.name_of {e : Expr} {id : Str} {f : String → CE} (k : ∀ x, Str.ofString x = id → J W n c N e (f x)) : J W n c N e (om (nameOf T id) f) := J.none_of fun x h => k x (nameOf_ok h)

theorem trConst_ok {cn : Const} {k : Nat} {p : Pos} : J W n c N (.Constant cn k p) (trConst cn) := by
 cases cn <;> first | exact J_int | exact J_bool | exact J_none | exact J_str | exact J.stuck
theorem isLoc_ok {k : NameKind} (h : isLoc k = true) : k = .local ∨ k = .cell ∨ k = .free := by
 cases k <;> first | exact .inl rfl | exact .inr (.inl rfl) | exact .inr (.inr rfl) | exact nomatch h
theorem trName_ok (O : W.Ok) (G : T.Ok W) {id : Str} {p : Pos} : J W n c N (.Name id p) (trName T N id) := by
 refine J.name_of fun x e => ?_
 subst e
 refine J.if_of (fun _ => J.stuck) fun h1 => J.none_of fun k hk => J.if_of (fun q => J.none_of fun d hd => ?_) fun q => J.if_of (fun h => ?_) fun _ => J.stuck
 ·subst q
  exact J_const O hk (Bool.eq_false_iff.mpr h1) (G.con _ _ hd)
 ·have h := Bool.and_eq_true_iff.mp h
  have h' := Bool.and_eq_true_iff.mp h.1
  exact J_var (k := k) hk (isLoc_ok h'.1) (Bool.eq_false_iff.mpr h1) (beq_eq_false_iff_ne.mp (bnot h'.2)) (bnot h.2)
theorem map_ok {rec : Nm → Expr → CE} (R : ∀ N e, J W n c N e (rec N e)) (es : List Expr) : Js W n c N es (es.map (rec N)) := Js.map fun e _ => R N e
theorem isNoneK_ok {c : Const} (h : isNoneK c = true) : c = .none := by cases c <;> first | rfl | exact nomatch h
theorem strK_ok {c : Const} {s : Str} (h : strK c = some s) : c = .str s := by cases c <;> first | exact congrArg _ (s1 h) | exact nomatch h
theorem is1K_ok {c : Const} (h : is1K c = true) : c = .int 1 := by cases c <;> first | exact congrArg _ (eq_of_beq h) | exact nomatch h
inductive IsC (c : Const) : Expr → Prop | mk (k : Nat) (p : Pos) : IsC c (.Constant c k p)
theorem const_of {α : Type} {e : Expr} {f : Const → α} {a b : α} (h : (match V.of e with | .const c _ _ => f c | _ => b) = a) (n : b ≠ a) {c : Const} (k : ∀ c', f c' = a → c' = c) : IsC c e := by
 cases hv : V.of e with
 | const c' i p => rw [hv] at h; rw [V.of_ok hv rfl, k c' h]; exact ⟨i, p⟩
 | _ => rw [hv] at h; exact (n h).elim
theorem isNoneC_ok {r : Expr} (h : isNoneC r = true) : IsC .none r := const_of h Bool.false_ne_true fun _ => isNoneK_ok
theorem keyE_ok {e : Expr} {s : Str} (h : keyE e = some s) : IsC (.str s) e := const_of h nofun fun _ => strK_ok
theorem is1E_ok {e : Expr} (h : is1E e = true) : IsC (.int 1) e := const_of h Bool.false_ne_true fun _ => is1K_ok
theorem trCmp1_ok {rec : Nm → Expr → CE} (R : ∀ N e, J W n c N e (rec N e)) {l r : Expr} {op : CmpOp} {p : Pos} : J W n c N (.Compare l [op] [r] p) (trCmp1 rec N l op r) := by
 unfold trCmp1
 cases ho : copOf op with
 | some o =>
  obtain rfl := copOf_ok ho
  exact J.if_of (fun _ => J.stuck) fun hb => J_cmp (Bool.eq_false_iff.mpr hb) (R N l) (R N _)
 | none =>
  refine J.if_of (fun h => ?_) fun _ => J.stuck
  obtain ⟨k, q⟩ := isNoneC_ok h
  refine J.if_of (fun q => ?_) fun _ => J.if_of (fun q => ?_) fun _ => J.stuck
  ·subst q; exact J_isNone (b := true) (R N l)
  ·subst q; exact J_isNone (b := false) (R N l)
theorem trCompare_ok {rec : Nm → Expr → CE} (R : ∀ N e, J W n c N e (rec N e)) {l : Expr} {ops : List CmpOp} {rs : List Expr} {p : Pos} : J W n c N (.Compare l ops rs p) (trCompare rec N l ops rs) := by
 cases ops with
 | nil => exact J.stuck
 | cons op ops =>
  cases ops with
  | cons => exact J.stuck
  | nil =>
   cases rs with
   | nil => exact J.stuck
   | cons r rs =>
    cases rs with
    | cons => exact J.stuck
    | nil => exact trCmp1_ok R
theorem keysStr_ok {keys : List (Option Expr)} : ∀ {ks : List Str}, keysStr keys = some ks → KeysAre keys ks := by
 induction keys with
 | nil => intro ks h; replace h := s1 h; obtain rfl := h; rfl
 | cons k r ih =>
  intro ks h
  replace h := bi_of h; obtain ⟨s, hs, h⟩ := h
  replace h := bi_of h; obtain ⟨q, hq, h⟩ := h
  replace h := s1 h; obtain rfl := h
  replace hs := bi_of hs; obtain ⟨e, rfl, hs⟩ := hs
  obtain ⟨i, p⟩ := keyE_ok hs
  exact ⟨i, p, r, ih hq⟩
theorem trDict_ok (O : W.Ok) {rec : Nm → Expr → CE} (R : ∀ N e, J W n c N e (rec N e)) {keys : List (Option Expr)} {vals : List Expr} {p : Pos} : J W n c N (.Dict keys vals p) (trDict rec N keys vals) := by
 refine J.if_of (fun h0 => ?_) fun _ => J.none_of fun ks hk => J.if_of (fun hc => ?_) fun _ => J.stuck
 ·have h0 := Bool.and_eq_true_iff.mp h0
  obtain rfl := List.isEmpty_iff.mp h0.1
  obtain rfl := List.isEmpty_iff.mp h0.2
  exact J_dict0 O
 ·exact J_dict O ⟨hc.1, hc.2.1, fun q => by rw [q] at hc; exact nomatch hc.2.2⟩ (keysStr_ok hk) (map_ok R vals)
theorem JO.map {rec : Nm → Expr → CE} (R : ∀ N e, J W n c N e (rec N e)) (e : Option Expr) : JO W n c N e (e.map (rec N)) := by
 cases e with
 | none => trivial
 | some e => exact R N e
inductive IsM : Expr → Prop | mk (k : Nat) (p q : Pos) : IsM (.UnaryOp .USub (.Constant (.int 1) k p) q)
theorem isMinus1_ok {st : Expr} (h : isMinus1 st = true) : IsM st := by
 unfold isMinus1 at h
 cases hv : V.of st with
 | un op e q =>
  rw [hv] at h
  have h := Bool.and_eq_true_iff.mp h
  obtain rfl := V.of_ok hv rfl
  obtain rfl := eq_of_beq h.1
  obtain ⟨k, p⟩ := is1E_ok h.2
  exact ⟨k, p, q⟩
 | _ => rw [hv] at h; exact nomatch h
theorem trSub_ok {rec : Nm → Expr → CE} (R : ∀ N e, J W n c N e (rec N e)) {e i : Expr} {p : Pos} : J W n c N (.Subscript e i p) (trSub rec N e i) := by
 unfold trSub
 cases hv : V.of i with
 | slice lo hi st q =>
  obtain rfl := V.of_ok hv rfl
  cases st with
  | none => exact J_slice (R N e) (JO.map R _) (JO.map R _)
  | some st =>
   refine J.if_of (fun h => ?_) fun _ => J.stuck
   have h := Bool.and_eq_true_iff.mp h
   have h' := Bool.and_eq_true_iff.mp h.1
   obtain rfl := Option.isNone_iff_eq_none.mp h'.1
   obtain rfl := Option.isNone_iff_eq_none.mp h'.2
   obtain ⟨_, _, _⟩ := isMinus1_ok h.2
   exact J_rev (R N e)
 | _ => exact J_sub (R N e) (R N _)
theorem trArgs_ok (O : W.Ok) (G : T.Ok W) {rec : Nm → Expr → CE} (R : ∀ N e, J W n c N e (rec N e)) {x : String} {es : List Expr} {p q : Pos} (hl : N.lookup (Str.ofString x) = some .globalImplicit) (hd : dbg (Str.ofString x)) : J W n c N (.Call (.Name (Str.ofString x) p) es [] q) (trArgs rec N x es) := by
 cases es with
 | nil => exact J.stuck
 | cons a es =>
  cases es with
  | nil =>
   refine J.none_of fun b hb => ?_
   obtain rfl := biOf_ok hb
   exact J_bi O ⟨hl, hd, G.bi _ (bi_mem b), boot_bi b, bi_name b⟩ (R N _)
  | cons b es =>
   cases es with
   | nil =>
    refine J.if_of (fun e => ?_) fun _ => J.stuck
    subst e
    exact J_max O ⟨hl, hd, G.bi _ (.tail _ (.tail _ (.tail _ (.tail _ (.tail _ (.tail _ (.head _))))))), boot_max, not_name (by decide)⟩ (R N _) (R N _)
   | cons => exact J.stuck
theorem trFn_ok (O : W.Ok) (G : T.Ok W) (H : FnSnd W n c) {rec : Nm → Expr → CE} (R : ∀ N e, J W n c N e (rec N e)) {f : Str} {es : List Expr} {p q : Pos} : J W n c N (.Call (.Name f p) es [] q) (trFn T rec N f es) := by
 refine J.name_of fun x e => ?_
 subst e
 refine J.if_of (fun _ => J.stuck) fun hi => ?_
 have hi := isImp_ok (Bool.not_eq_false _ ▸ hi)
 refine J.if_of (fun hf => ?_) fun _ => J.if_of (fun hc => ?_) fun _ => trArgs_ok O G R hi.1 hi.2
 ·obtain ⟨a, h1, h2, h3⟩ := G.fn x (List.contains_iff_mem.mp hf)
  exact J_call O H ⟨hi.1, hi.2, h2⟩ h1 h3 (map_ok R es)
 ·obtain ⟨fI, h1, h2, h3, h4, h5, h6⟩ := G.cl x (List.contains_iff_mem.mp hc)
  exact J_new O H ⟨hi.1, hi.2, h1⟩ h2 h3 h4 h5 h6 (map_ok R es)
theorem noStar {e : Expr} (h : notStarred e = true) : NoStar e := fun x y q => by rw [q] at h; exact nomatch h
theorem starred_all {es : List Expr} {pos : Pos} {env : Env} : es.all notStarred = true → (backTo pos (starEach es env)).all (!·.1) = true := by
 induction es with
 | nil => exact fun _ => rfl
 | cons e r ih =>
  intro h
  have h := Bool.and_eq_true_iff.mp h
  rw [starEach_cons (noStar h.1)]
  exact ih h.2
theorem callM_ok {o : Expr} {name : Str} {apos pos : Pos} {es : List Expr} (h : (plainBase o && apos.endLine == pos.line && es.length < 29 && es.all notStarred) = true) : CallM o name apos pos es := by
 have h := Bool.and_eq_true_iff.mp h
 have h3 := Bool.and_eq_true_iff.mp h.1
 have h2 := Bool.and_eq_true_iff.mp h3.1
 intro env
 refine ⟨(do return (← importBound o env).getD true), ?_⟩
 rw [arm_eval_Call]
 have hf : methodCallForm (es.length + ([] : List Keyword).length) (backTo pos (starEach es env)) (backToKw pos (keywordEach [] env)) = true := by
  unfold methodCallForm
  rw [starred_all h.2]
  exact decide_eq_true (by have := of_decide_eq_true h3.2; show es.length + 0 + 0 < 30; lia)
 rw [base_eq h2.1]
 refine congrArg (eval o env >>= ·) (funext fun ov => congrArg (standAt apos.atName >>= ·) (funext fun _ => ?_))
 unfold methodCall
 rw [hf]
 refine congrArg (holding [ov] (getMethod ov name _) >>= ·) (funext fun fx => ?_)
 unfold methodCallPos
 rw [if_pos (show (!true || apos.endLine == pos.line) = true from h2.2)]
 rfl
theorem trOwn_ok {rec : Nm → Expr → CE} (R : ∀ N e, J W n c N e (rec N e)) {o : Expr} {x : String} {apos pos : Pos} {es : List Expr} (hc : CallM o (Str.ofString x) apos pos es) : J W n c N (.Call (.Attribute o (Str.ofString x) apos) es [] pos) (trOwn rec N o x es) := by
 cases es with
 | nil => exact J.stuck
 | cons e es =>
  cases es with
  | nil =>
   refine J.if_of (fun q => ?_) fun _ => J.if_of (fun q => ?_) fun _ => J.stuck
   ·subst q; exact J_append hc (R N o) (R N _)
   ·subst q; exact J_extend hc (R N o) (R N _)
  | cons k es =>
   cases es with
   | nil =>
    refine J.if_of (fun q => ?_) fun _ => J.stuck
    subst q; exact J_dget hc (R N o) (R N _) (R N _)
   | cons => exact J.stuck
theorem trMeth_ok (O : W.Ok) (G : T.Ok W) (H : FnSnd W n c) {rec : Nm → Expr → CE} (R : ∀ N e, J W n c N e (rec N e)) {o : Expr} {m : Str} {apos pos : Pos} {es : List Expr} : J W n c N (.Call (.Attribute o m apos) es [] pos) (trMeth T rec N o m apos pos es) := by
 refine J.name_of fun x e => ?_
 subst e
 refine J.if_of (fun _ => J.stuck) fun hc => ?_
 have hc := callM_ok (name := Str.ofString x) (Bool.not_eq_false _ ▸ hc)
 cases hm : T.mtl.lookup x with
 | some ms => exact J_meth O H hc (G.mt x ms hm) (R N o) (map_ok R es)
 | none => exact trOwn_ok R hc
inductive IsN (x : Str) : Expr → Prop | mk (p : Pos) : IsN x (.Name x p)
theorem nameE_ok {e : Expr} {x : Str} (h : nameE e = some x) : IsN x e := by
 unfold nameE at h
 cases hv : V.of e with
 | name y p => rw [hv] at h; replace h := s1 h; obtain rfl := h; rw [V.of_ok hv rfl]; exact ⟨p⟩
 | _ => rw [hv] at h; exact nomatch h
theorem tgt2_ok {a b : Expr} {i : Nat} {p : Pos} {t : Tgt} (h : tgt2 T a b = some t) : TrT (.Tuple [a, b] i p) t := by
 replace h := bi_of h; obtain ⟨x, hx, h⟩ := h
 replace h := bi_of h; obtain ⟨y, hy, h⟩ := h
 replace h := bi_of h; obtain ⟨u, hu, h⟩ := h
 replace h := mp_of h; obtain ⟨v, hv, h⟩ := h
 replace h := s1 h; obtain rfl := h
 obtain ⟨_⟩ := nameE_ok hx
 obtain ⟨_⟩ := nameE_ok hy
 obtain rfl := nameOf_ok hu
 obtain rfl := nameOf_ok hv
 exact .two
theorem tgtOf_ok {tg : Expr} {t : Tgt} (h : tgtOf T tg = some t) : TrT tg t := by
 unfold tgtOf at h
 cases hv : V.of tg with
 | name x p =>
  rw [hv] at h
  obtain rfl := V.of_ok hv rfl
  replace h := mp_of h; obtain ⟨x, hx, h⟩ := h
  replace h := s1 h; obtain rfl := h
  obtain rfl := nameOf_ok hx
  exact .one
 | tup es i p =>
  rw [hv] at h
  obtain rfl := V.of_ok hv rfl
  cases es with
  | nil => exact nomatch h
  | cons a es =>
   cases es with
   | nil => exact nomatch h
   | cons b es =>
    cases es with
    | nil => exact tgt2_ok h
    | cons => exact nomatch h
 | _ => rw [hv] at h; exact nomatch h
inductive IsR (N : Nm) (a : Expr) : Expr → Prop | mk (p q : Pos) : isImp N (Str.ofString "range") = true → IsR N a (.Call (.Name (Str.ofString "range") p) [a] [] q)
theorem oneArg_ok {es : List Expr} {a : Expr} (h : oneArg es = some a) : es = [a] := by
 cases es with
 | nil => exact nomatch h
 | cons b es => cases es with
  | nil => rw [s1 h]
  | cons => exact nomatch h
theorem isRng_ok {e : Expr} (h : isRng N e = true) : IsN (Str.ofString "range") e ∧ isImp N (Str.ofString "range") = true := by
 unfold isRng at h
 cases hv : V.of e with
 | name x p =>
  rw [hv] at h
  have h := Bool.and_eq_true_iff.mp h
  obtain rfl := eq_of_beq h.1
  rw [V.of_ok hv rfl]
  exact ⟨⟨p⟩, h.2⟩
 | _ => rw [hv] at h; exact nomatch h
theorem rngOf_ok {it a : Expr} (h : rngOf N it = some a) : IsR N a it := by
 unfold rngOf at h
 cases hv : V.of it with
 | call f es ks q =>
  rw [hv] at h
  obtain rfl := V.of_ok hv rfl
  replace h := gd_of h; obtain ⟨hc, h⟩ := h
  have hc := Bool.and_eq_true_iff.mp hc
  obtain rfl := List.isEmpty_iff.mp hc.2
  obtain rfl := oneArg_ok h
  obtain ⟨⟨p⟩, k⟩ := isRng_ok hc.1
  exact ⟨p, q, k⟩
 | _ => rw [hv] at h; exact nomatch h
theorem notSet_ok {it : Expr} (hs : notSet it = true) : ∀ x env, foldedSetIterable it env x = pure x := by
 intro x env
 cases it <;> first | rfl | exact (Bool.false_ne_true hs).elim
theorem itOf_ok (G : T.Ok W) {rec : Nm → Expr → CE} (R : ∀ N e, J W n c N e (rec N e)) {it : Expr} (hs : notSet it = true) : JIt W n c N it (itOf N it).1 (rec N (itOf N it).2) := by
 refine ⟨notSet_ok hs, ?_⟩
 unfold itOf
 cases hr : rngOf N it with
 | none => exact R N _
 | some a =>
  obtain ⟨p, q, k⟩ := rngOf_ok hr
  have k := isImp_ok k
  exact ⟨_, _, _, ⟨k.1, k.2, G.bi _ (.tail _ (.tail _ (.tail _ (.tail _ (.tail _ (.tail _ (.tail _ (.head _)))))))), boot_range, not_name (by decide)⟩, R N _⟩
theorem bor {a b : Bool} (h : (a || b) = true) (n : a = false) : b = true := by rw [n] at h; exact h
theorem bne_self {k l : NameKind} (h : k = l) : (k != l) = false := by rw [h]; exact bne_self_eq_false l
theorem compOk_ok {sc : Scope} {t : Tgt} (h : compOk N sc t = true) : CompOk N sc t := by
 have h := Bool.and_eq_true_iff.mp h
 have h1 := Bool.and_eq_true_iff.mp h.1
 have h2 := fun x hx => (Bool.and_eq_true_iff.mp (List.all_eq_true.mp h1.2 x hx)).imp_left Bool.and_eq_true_iff.mp
 have h3 := fun x hx hl => Bool.and_eq_true_iff.mp (bor (h2 x hx).1.2 (bne_self hl))
 have h4 := fun x hx => Bool.and_eq_true_iff.mp (List.all_eq_true.mp h.2 x hx)
 exact ⟨eq_of_beq h1.1, fun x hx => bne_iff_ne.mp (h2 x hx).1.1, fun x hx hl => eq_of_beq (h3 x hx hl).1, fun x hx => ⟨eq_of_beq (h4 x hx).1, beq_eq_false_iff_ne.mp (bnot (h4 x hx).2)⟩,
  fun x hx hl => (Bool.or_eq_true_iff.mp (h3 x hx hl).2).imp eq_of_beq fun h => (List.any_eq_true.mp h).imp fun _ => And.imp_right eq_of_beq,
  fun x hx hf => (Bool.or_eq_true_iff.mp (h2 x hx).2).imp (fun h => eq_of_beq (bor h (bne_self hf))) eq_of_beq⟩
theorem trComp_ok (O : W.Ok) (G : T.Ok W) {rec : Nm → Expr → CE} (R : ∀ N e, J W n c N e (rec N e)) {elt : Expr} {gens : List Comprehension} {sc : Scope} {p : Pos} : J W n c N (.ListComp elt gens sc p) (trComp T rec N elt gens sc) := by
 cases gens with
 | nil => exact J.stuck
 | cons g gs =>
  cases gs with
  | cons => exact J.stuck
  | nil =>
   obtain ⟨tg, it, ifs, a⟩ := g
   refine J.none_of fun t ht => J.if_of (fun _ => J.stuck) fun hc => ?_
   have hc := Bool.and_eq_true_iff.mp (Bool.not_eq_false _ ▸ hc)
   have h0 := Bool.and_eq_true_iff.mp hc.1
   obtain rfl := eq_of_beq h0.1
   cases ifs with
   | nil => exact J_comp O (tgtOf_ok ht) (compOk_ok h0.2) (itOf_ok G R hc.2) rfl (R _ _)
   | cons cd r => cases r with
    | nil => exact J_comp O (tgtOf_ok ht) (compOk_ok h0.2) (itOf_ok G R hc.2) ⟨_, rfl, R _ _⟩ (R _ _)
    | cons => exact J.stuck
theorem trE_ok (O : W.Ok) (G : T.Ok W) (H : FnSnd W n c) (k : Nat) : ∀ (N : Nm) (e : Expr), J W n c N e (trE T k N e) := by
 induction k with
 | zero => intro N e; exact J.stuck
 | succ k R =>
  intro N e
  cases e with
  | Constant => exact trConst_ok
  | Name => exact trName_ok O G
  | BinOp l op r p =>
   refine J.none_of fun o ho => ?_
   obtain rfl := opOf_ok ho
   exact J_bin (R N _) (R N _)
  | UnaryOp op e p =>
   refine J.if_of (fun q => ?_) fun _ => J.if_of (fun q => ?_) fun _ => J.stuck
   ·subst q; exact J_neg (R N _)
   ·subst q; exact J_not (R N _)
  | Compare => exact trCompare_ok R
  | BoolOp op es p =>
   cases op with
   | And => exact J_and (map_ok R _)
   | Or => exact J_or (map_ok R _)
  | IfExp => exact J_ite (R N _) (R N _) (R N _)
  | Tuple es i p => exact J.if_of (fun h => J_tup h (map_ok R _)) fun _ => J.stuck
  | List es p => exact J.if_of (fun h => J_list h (map_ok R _)) fun _ => J.stuck
  | Dict => exact trDict_ok O R
  | Subscript => exact trSub_ok R
  | Attribute e a p =>
   refine J.none_of fun x hx => J.if_of (fun hb => ?_) fun _ => J.stuck
   obtain rfl := nameOf_ok hx
   have hb := Bool.and_eq_true_iff.mp hb
   exact J_attr O hb.1 (fun C => (G.at_ x (List.contains_iff_mem.mp hb.2) C).1) (R N _)
  | Call f es ks pos =>
   cases ks with
   | cons => exact J.stuck
   | nil =>
    refine (?_ : J W n c N _ (trCall T (trE T k) N f es pos))
    unfold trCall
    cases hv : V.of f with
    | name => obtain rfl := V.of_ok hv rfl; exact trFn_ok O G H R
    | attr => obtain rfl := V.of_ok hv rfl; exact trMeth_ok O G H R
    | _ => exact J.stuck
  | ListComp => exact trComp_ok O G R
  | _ => exact J.stuck
end
end Mine
end

section
namespace Mine
noncomputable def notComp (e : Expr) : Bool := e.ctorIdx != 8 && e.ctorIdx != 9 && e.ctorIdx != 10
theorem noSw {e : Expr} (h : notComp e = true) : NoSw e := by
 intro t l env
 cases e <;> first | rfl | exact (Bool.false_ne_true h).elim
noncomputable def storeOk (N : Nm) (x : Str) : Bool := N.lookup x == some .local || N.lookup x == some .cell
noncomputable def notTup (e : Expr) : Bool := e.ctorIdx != 25
noncomputable def os {α : Type} (o : Option α) (f : α → CS) : CS := match o with | some a => f a | none => .stuck
noncomputable def trAss2 (T : Tb) (tr : Expr → CE) (N : Nm) (a b e : Expr) : CS := os (nameE a) fun x => os (nameE b) fun y => os (nameOf T x) fun a => os (nameOf T y) fun b => if (storeOk N x && storeOk N y && notComp e && notTup e) = true then .assign2 a b (tr e) else .stuck
noncomputable def trAssign (T : Tb) (tr : Expr → CE) (N : Nm) (tg e : Expr) : CS := match V.of tg with
 | .name x _ => os (nameOf T x) fun a => if storeOk N x = true then .assign a (tr e) else .stuck
 | .tup es _ _ => (match es with
  | [] => .stuck
  | a :: es => (match es with
   | [] => .stuck
   | b :: es => (match es with
    | [] => trAss2 T tr N a b e
    | _ :: _ => .stuck)))
 | .sub o i _ => if notComp e = true then .setItem (tr o) (tr i) (tr e) else .stuck
 | .attr o a _ => os (nameOf T a) fun x => if (notComp e && T.atl.contains x) = true then .setAttr (tr o) x (tr e) else .stuck
 | _ => .stuck
noncomputable def trFor (T : Tb) (tr : Expr → CE) (N : Nm) (tg it : Expr) (b : List CS) : CS := os (tgtOf T tg) fun t => if (notSet it && (tgtNames t).all (fun x => storeOk N (Str.ofString x))) = true then .loop t (itOf N it).1 (tr (itOf N it).2) b else .stuck
noncomputable def trStStep (T : Tb) (tr : Expr → CE) (rec : Stmt → CS) (N : Nm) : Stmt → CS
 | .Expr e _ => if notComp e = true then .expr (tr e) else .stuck
 | .Assign tgs e _ => (match tgs with
  | [] => .stuck
  | tg :: tgs => (match tgs with
   | [] => trAssign T tr N tg e
   | _ :: _ => .stuck))
 | .Return e _ => os e fun e => .ret (tr e)
 | .If t b o _ => .ite (tr t) (b.map rec) (o.map rec)
 | .For tg it b o _ => (match o with
  | [] => trFor T tr N tg it (b.map rec)
  | _ :: _ => .stuck)
 | .Continue _ => .cont
 | _ => .stuck
noncomputable def trSt (T : Tb) (k : Nat) (N : Nm) : Nat → Stmt → CS
 | 0 => fun _ => .stuck
 | m + 1 => trStStep T (trE T k N) (trSt T k N m) N

section
variable {T : Tb} {W : Wd} {n : Nat} {c : Callee} {N : Nm}
theorem JS.none_of {α : Type} {e : Stmt} {o : Option α} {f : α → CS} (k : ∀ a, o = some a → JS W n c N e (f a)) : JS W n c N e (os o f) := by
 cases o with
 | none => exact JS.stuck
 | some a => exact k a rfl
theorem JS.if_of {e : Stmt} {p : Prop} [Decidable p] {a : CS} (h : p → JS W n c N e a) : JS W n c N e (if p then a else .stuck) := by
 by_cases q : p
 ·rw [if_pos q]; exact h q
 ·rw [if_neg q]; exact JS.stuck
theorem JS.name_of {e : Stmt} {id : Str} {f : String → CS} (k : ∀ x, Str.ofString x = id → JS W n c N e (f x)) : JS W n c N e (os (nameOf T id) f) := JS.none_of fun x h => k x (nameOf_ok h)
theorem storeOk_ok {x : String} (h : storeOk N (Str.ofString x) = true) : StoreOk N x := (Bool.or_eq_true_iff.mp h).imp eq_of_beq eq_of_beq
theorem notTup_ok {x y : String} {q₁ q₂ r : Pos} {k : Nat} {e : Expr} (h : notTup e = true) (env : Env) : swappedStores [.Tuple [.Name (Str.ofString x) q₁, .Name (Str.ofString y) q₂] k r] e env = pure none := by cases e <;> first | rfl | exact (Bool.false_ne_true h).elim
theorem trAss2_ok {tr : Expr → CE} (R : ∀ e, J W n c N e (tr e)) {a b e : Expr} {i : Nat} {p q : Pos} : JS W n c N (.Assign [.Tuple [a, b] i q] e p) (trAss2 T tr N a b e) := by
 refine JS.none_of fun x ha => JS.none_of fun y hb => ?_
 obtain ⟨_⟩ := nameE_ok ha
 obtain ⟨_⟩ := nameE_ok hb
 refine JS.name_of fun u e1 => JS.name_of fun v e2 => ?_
 subst e1 e2
 refine JS.if_of fun h => ?_
 have h := Bool.and_eq_true_iff.mp h
 have h3 := Bool.and_eq_true_iff.mp h.1
 have h2 := Bool.and_eq_true_iff.mp h3.1
 exact JS_assign2 (storeOk_ok h2.1) (storeOk_ok h2.2) (noSw h3.2) (notTup_ok h.2) (R e)
theorem trAssign_ok (O : W.Ok) (G : T.Ok W) {tr : Expr → CE} (R : ∀ e, J W n c N e (tr e)) {tg e : Expr} {p : Pos} : JS W n c N (.Assign [tg] e p) (trAssign T tr N tg e) := by
 unfold trAssign
 cases hv : V.of tg with
 | name x q =>
  obtain rfl := V.of_ok hv rfl
  refine JS.name_of fun a e1 => ?_
  subst e1
  exact JS.if_of fun h => JS_assign (storeOk_ok h) (R e)
 | tup es i q =>
  obtain rfl := V.of_ok hv rfl
  cases es with
  | nil => exact JS.stuck
  | cons a es =>
   cases es with
   | nil => exact JS.stuck
   | cons b es =>
    cases es with
    | nil => exact trAss2_ok R
    | cons => exact JS.stuck
 | sub o i q =>
  obtain rfl := V.of_ok hv rfl
  exact JS.if_of fun h => JS_setItem (noSw h) (R _) (R _) (R e)
 | attr o a q =>
  obtain rfl := V.of_ok hv rfl
  refine JS.name_of fun x e1 => ?_
  subst e1
  refine JS.if_of fun h => ?_
  have h := Bool.and_eq_true_iff.mp h
  exact JS_setAttr O (fun C => (G.at_ x (List.contains_iff_mem.mp h.2) C).2) (noSw h.1) (R _) (R e)
 | _ => exact JS.stuck
theorem trSt_ok (O : W.Ok) (G : T.Ok W) (H : FnSnd W n c) (k m : Nat) : ∀ st : Stmt, JS W n c N st (trSt T k N m st) := by
 have R := trE_ok O G H k N
 induction m with
 | zero => intro st; exact JS.stuck
 | succ m ih =>
  intro st
  cases st with
  | Expr e p => exact JS.if_of fun h => JS_expr (noSw h) (R _)
  | Assign tgs e p =>
   cases tgs with
   | nil => exact JS.stuck
   | cons tg tgs =>
    cases tgs with
    | nil => exact trAssign_ok O G R
    | cons => exact JS.stuck
  | Return e p =>
   cases e with
   | none => exact JS.stuck
   | some e => exact JS_ret (R _)
  | If t b o p => exact JS_ite (R _) (JSs.map fun e _ => ih e) (JSs.map fun e _ => ih e)
  | For tg it b o p =>
   cases o with
   | cons => exact JS.stuck
   | nil =>
    refine JS.none_of fun t ht => JS.if_of fun h => ?_
    have h := Bool.and_eq_true_iff.mp h
    exact JS_loop O (tgtOf_ok ht) (fun x hx => storeOk_ok (List.all_eq_true.mp h.2 x hx)) (itOf_ok G (rec := trE T k) (trE_ok O G H k) h.1) (JSs.map fun e _ => ih e)
  | Continue => exact JS_cont
  | _ => exact JS.stuck
end
end Mine
end

section
namespace Mine
noncomputable def ints0 : List (String × Int) := [("Y_KEY", 1), ("Y_BOOL", 2), ("Y_STR", 3), ("Y_NUM", 4), ("Y_ENUM", 5), ("Y_UNION", 6), ("Y_INTER", 7), ("Y_OBJ", 8), ("Y_PARAM", 10), ("Y_ARRAY", 11), ("Y_SIG", 13), ("Y_KEYOF", 14), ("Y_INDEX", 15), ("Y_COND", 16), ("Y_TPL", 18),
 ("ANY", 0), ("UNKNOWN", 1), ("NEVER", 2), ("VOID", 3), ("UNDEF", 4), ("NULLT", 5), ("STRING", 6), ("NUMBER", 7), ("FALSE_T", 8), ("TRUE_T", 9), ("OBJECTT", 10), ("EMPTY", 11), ("ERR", 13), ("FRESH_F", 14), ("FRESH_T", 15),
 ("FAM_OTHER", 0), ("FAM_STR", 1), ("FAM_NUM", 2), ("FAM_BOOL", 3), ("FAM_OBJ", 7), ("FAM_VOID", 6), ("MAX_UNION", 400), ("MOST_BOUNDS", 12), ("MOST_ROUNDS", 200), ("MOST_SHAPES", 40),
 ("Q_TRUTH", 1), ("Q_TYPEOF", 2), ("Q_EQUAL", 3), ("Q_THERE", 4), ("Q_IN", 5), ("Q_INSTANCE", 6), ("Q_PRED", 7)]
noncomputable def S (s : String) : D := .str (Str.ofString s)
noncomputable def I (i : Int) : D := .int i
noncomputable def tupI (l : List Int) : D := .tup (l.map .int)
noncomputable def keyRow (s : String) : D := .tup [I 1, S s]
noncomputable def firstRows : List D := [keyRow "any", keyRow "unknown", keyRow "never", keyRow "void", keyRow "undefined", keyRow "null", keyRow "string", keyRow "number", tupI [2, 0, 0], tupI [2, 1, 0], keyRow "object",
 .tup [I 8, .tup [], .tup [], .tup [], .tup [], .tup [], I 0], .tup [I 6, tupI [8, 9]], keyRow "error", tupI [2, 0, 1], tupI [2, 1, 1]]
noncomputable def others0 : List (String × D) := [("FIRST_ROWS", .tup firstRows), ("MARKED_ROWS", tupI [2, 3, 4, 5, 8]), ("OBJECT_ROWS", tupI [8, 9, 11, 12, 13]), ("FREE_ROWS", tupI [10, 15, 16]), ("KEY_FAMILIES", .ref 1),
 ("_law_tops", .tup [S "any", S "unknown", S "error"]), ("_law_void", .tup [S "a", S "void"])]
noncomputable def cons0 (x : String) : Option D := match ints0.lookup x with
 | some i => some (.int i)
 | none => others0.lookup x
noncomputable def fnl0 : List String := ["_law_atoms", "_law_bare", "_law_bounds", "_law_cut", "_law_holds", "_law_loses", "_law_meet", "_law_name", "_law_opened", "_law_pieces", "_law_right", "_law_round", "_law_rounds", "_law_spelt", "_law_take", "_law_template", "_law_term", "_law_top", "_law_type", "_law_union", "_law_words",
 "bound_of", "bound_parts", "common_family", "equals_void", "family", "holds_void", "join_bools", "kind_of", "loses_void", "may_spell", "meet_family", "meet_holds_void", "new_param", "parts_of", "regular_twin", "stays_beside", "top_of", "union", "whole_of_row", "without_templates"]
noncomputable def atl0 : List String := ["rows", "index", "decls", "bounds", "defaults", "names", "origins", "renamed", "shaping", "putting", "tab", "deep", "most_rounds", "most_deep", "lib"]
noncomputable def mtl0 : List (String × List (String × String)) := [("put", [("TypeTable", "TypeTable.put")]), ("force", [("BoundHost", "Thin.force")]), ("bound", [("BoundHost", "BoundHost.bound")]), ("tpl_fits", [("BoundHost", "Thin.tpl_fits")])]
noncomputable def loc0 : List String := ["at", "back", "bound", "count", "d", "deep", "default", "empty", "end", "fam", "fewer", "flat", "form", "found", "free", "go", "gone", "got", "held", "hole", "holes", "host", "kept", "kind", "kinds", "later", "left", "lone", "many", "n", "name", "nums", "on", "one", "other", "others", "out", "params", "part", "parts",
 "pick", "pid", "pieces", "place", "plain", "question", "row", "s", "said", "same", "script", "self", "shape", "sort", "t", "term", "terms", "test", "text", "texts", "told", "top", "w", "what", "whole", "wide", "word", "law",
 "all", "any", "len", "max", "range", "sorted", "str", "tuple", "append", "extend", "get", "put", "force", "tpl_fits", "TypeTable", "BoundHost"]
noncomputable def T0 : Tb := { nms := loc0 ++ atl0 ++ fnl0 ++ ints0.map (·.1) ++ others0.map (·.1), fnl := fnl0, cll := ["TypeTable", "BoundHost"], atl := atl0, mtl := mtl0, consT := cons0 }

noncomputable def extra0 (f : String) : List D := if f = "new_param" then [.int (-1), .int (-1)] else []
noncomputable def allSome : List (Option String) → Option (List String)
 | [] => some []
 | some x :: r => (allSome r).map (x :: ·)
 | none :: _ => none
noncomputable def toFn (f : String) (d : Arguments × List Stmt × Scope) : Option Fn :=
 (allSome (d.1.args.map fun a => nameOf T0 a.arg)).map fun ps => { params := ps, extra := extra0 f, body := d.2.1.map (trSt T0 20 d.2.2.names 10) }
noncomputable def famDict : List (D × D) := [(I 3, I 6), (I 4, I 5), (I 5, I 4), (I 6, I 1), (I 7, I 2), (I 10, I 7)]
noncomputable def σ0 (ns : List Int) : St := [.list (ns.map .int), .dict famDict]
end Mine
end

section
namespace Mine
noncomputable def asRef : Value → Option Addr | .ref a => some a | _ => none
theorem asRef_ok {v : Value} {a : Addr} (h : asRef v = some a) : v = .ref a := by cases v <;> first | exact congrArg _ (s1 h) | exact none_some h
noncomputable def refOf (x : Option (Option Value)) : Option Addr := x.bind fun y => y.bind asRef
theorem refOf_ok {x : Option (Option Value)} {a : Addr} (h : refOf x = some a) : x = some (some (.ref a)) := by
 replace h := bi_of h; obtain ⟨y, rfl, h⟩ := h
 replace h := bi_of h; obtain ⟨z, rfl, h⟩ := h
 rw [asRef_ok h]
noncomputable def addrOf (K : Frag) (x : String) : Addr := (refOf (nsIn K mainGlobals (Str.ofString x))).getD 0
noncomputable def clOf (K : Frag) (C : String) : Addr := if C = "TypeTable" then addrOf K "TypeTable" else addrOf K "BoundHost"
noncomputable def metT : List (String × String × String) := [("TypeTable.__init__", "TypeTable", "__init__"), ("TypeTable.put", "TypeTable", "put"), ("BoundHost.__init__", "BoundHost", "__init__"), ("Thin.force", "BoundHost", "force"), ("BoundHost.bound", "BoundHost", "bound"), ("Thin.tpl_fits", "BoundHost", "tpl_fits")]
noncomputable def faM (K : Frag) (p : String × String) : Option Addr := refOf (findIn K (.ref (clOf K p.1)) (Str.ofString p.2))
noncomputable def faN (K : Frag) (f : String) : Option Addr := gd (fnl0.contains f = true) (refOf (nsIn K mainGlobals (Str.ofString f)))
noncomputable def faOf (K : Frag) (f : String) : Option Addr := match metT.lookup f with
 | some p => faM K p
 | none => faN K f
noncomputable def asFunc : Data → Option FuncData | .func fd => some fd | _ => none
noncomputable def asStmts : FuncBody → Option (List Stmt) | .stmts b => some b | _ => none
theorem asFunc_ok {d : Data} {fd : FuncData} (h : asFunc d = some fd) : d = .func fd := by cases d <;> first | exact congrArg _ (s1 h) | exact none_some h
theorem asStmts_ok {d : FuncBody} {b : List Stmt} (h : asStmts d = some b) : d = .stmts b := by cases d <;> first | exact congrArg _ (s1 h) | exact none_some h
noncomputable def fdOf (K : Frag) (a : Addr) : Option FuncData := (K.lookup a).bind fun o => asFunc o.data
noncomputable def fnsK (K : Frag) (f : String) : Option Fn := (faOf K f).bind fun a => (fdOf K a).bind fun fd => (asStmts fd.body).bind fun b => toFn f (fd.params, b, fd.scope)

noncomputable def tupL : Data → Option (List Value) | .seq items _ => some items.toList | _ => none
noncomputable def tupItems (o : Option Obj) : Option (List Value) := o.bind fun o => gd (o.cls = .type "tuple" ∧ o.dict = none ∧ o.slots = #[]) (tupL o.data)
inductive TupK (h : Heap) (a : Addr) : List Value → Prop | mk (items : Array Value) : TupAt h a items → TupK h a items.toList
theorem tupItems_ok {K : Frag} {h : Heap} (X : K.In h) {a : Addr} {l : List Value} (e : tupItems (K.lookup a) = some l) : TupK h a l := by
 replace e := bi_of e; obtain ⟨o, ho, e⟩ := e
 replace e := gd_of e; obtain ⟨h3, e⟩ := e
 obtain ⟨c, d, dt, sl⟩ := o
 obtain ⟨rfl, rfl, rfl⟩ := h3
 cases dt <;> first | exact s1 e ▸ ⟨_, _, X _ _ ho⟩ | exact none_some e

noncomputable def exOf (K : Frag) (fd : FuncData) : List Value := ((asRef fd.defaults).bind fun T => tupItems (K.lookup T)).getD []
noncomputable def arOf (f : String) (fd : FuncData) : Nat := fd.params.args.length - (extra0 f).length
noncomputable def bdF (K : Frag) (f : String) (a b c d : Value) (S : Setting) : Option (List (Str × Value)) := (faOf K f).bind fun A => (fdOf K A).bind fun fd => peek K S (bindArgs fd ⟨[a, b, c, d].take (arOf f fd), []⟩)
noncomputable def bdG (K : Frag) (f : String) (a b c d : Value) (_ : Setting) : Option (List (Str × Value)) := (faOf K f).bind fun A => (fdOf K A).bind fun fd => some ((fd.params.args.map (·.arg)).zip ([a, b, c, d].take (arOf f fd) ++ exOf K fd))
noncomputable def names0 : List String := fnl0 ++ metT.map (·.1)
noncomputable def BndOk (K : Frag) : Prop := names0.map (bdF K) = names0.map (bdG K)

noncomputable def vInt (i : Int) : Value → Bool | .int j _ => i == j | _ => false
noncomputable def vStr (s : Str) : Value → Bool | .str t _ => s == t | _ => false
theorem vInt_ok {i : Int} {v : Value} (h : vInt i v = true) : IntV i v := by cases v <;> first | exact eq_of_beq h ▸ ⟨_⟩ | exact nof _ h
theorem vStr_ok {i : Str} {v : Value} (h : vStr i v = true) : StrV i v := by cases v <;> first | exact eq_of_beq h ▸ ⟨_⟩ | exact nof _ h
noncomputable def onT (o : Option (List Value)) (f : List Value → Bool) : Bool := match o with | some l => f l | none => false
theorem onT_ok {o : Option (List Value)} {f : List Value → Bool} (h : onT o f = true) : ∃ l, o = some l ∧ f l = true := by
 cases o with
 | none => exact nof _ h
 | some l => exact ⟨l, rfl, h⟩
mutual
noncomputable def rd (K : Frag) (aF : Addr) : D → Value → Bool
 | .int i, v => vInt i v
 | .str s, v => vStr s v
 | .ref i, v => i == 1 && asRef v == some aF
 | .tup ds, v => onT ((asRef v).bind fun a => tupItems (K.lookup a)) (rds K aF ds)
 | .none, _ => false
 | .bool _, _ => false
noncomputable def rds (K : Frag) (aF : Addr) : List D → List Value → Bool
 | [], vs => vs.isEmpty
 | d :: ds, vs => (match vs with | v :: vs => rd K aF d v && rds K aF ds vs | [] => false)
end
mutual
theorem rd_ok {K : Frag} {aF : Addr} {h : Heap} {ρ : Rho} (X : K.In h) (hρ : ρ[1]? = some (aF, aF)) : ∀ (d : D) (v : Value), rd K aF d v = true → VR h ρ d v
 | .int i, v, e => vInt_ok e
 | .str i, v, e => vStr_ok e
 | .none, v, e => nof _ e
 | .bool b, v, e => nof _ e
 | .ref i, v, e => by
  have e := Bool.and_eq_true_iff.mp e
  rw [eq_of_beq e.1, asRef_ok (eq_of_beq e.2)]
  exact ⟨_, hρ⟩
 | .tup ds, v, e => by
  obtain ⟨l, e, k⟩ := onT_ok e
  replace e := bi_of e; obtain ⟨a, ha, e⟩ := e
  obtain ⟨items, ht⟩ := tupItems_ok X e
  rw [asRef_ok ha]
  exact ⟨a, items, ht, rds_ok X hρ ds items.toList k⟩
theorem rds_ok {K : Frag} {aF : Addr} {h : Heap} {ρ : Rho} (X : K.In h) (hρ : ρ[1]? = some (aF, aF)) : ∀ (ds : List D) (vs : List Value), rds K aF ds vs = true → VRs h ρ ds vs
 | [], vs, e => List.isEmpty_iff.mp e
 | d :: ds, vs, e => by
  cases vs with
  | nil => exact nof _ e
  | cons v vs =>
   have e := Bool.and_eq_true_iff.mp e
   exact VRs.cons (rd_ok X hρ d v e.1) (rds_ok X hρ ds vs e.2)
end

noncomputable def fdChk (K : Frag) (fd : FuncData) : Bool :=
 !fd.scope.isCoroutine && (!fd.scope.isGenerator && (fd.scope.kind == .function && (fd.closure.isEmpty && (fd.globals == mainGlobals && (fd.builtins == builtinsNs && (codeIn K fd.code fd.qualname &&
  (decide (fd.scope.names.map (·.1)).Nodup && (fd.scope.names.all (fun x => x.2 != .free) && (fd.params.args.all (fun p => storeOk fd.scope.names p.arg) && decide (fd.params.args.map (·.arg)).Nodup)))))))))
noncomputable def fnOk (K : Frag) (f : String) (a : Addr) (fd : FuncData) : Bool := keepIn K (.ref a) && (typeIn K (.ref a) == some (.type "function") && (rds K 0 (extra0 f) (exOf K fd) && ((arOf f fd + (extra0 f).length == fd.params.args.length && decide (arOf f fd ≤ 4)) && fdChk K fd)))
noncomputable def isOk {α : Type} (o : Option α) (f : α → Bool) : Bool := match o with | some a => f a | none => false
theorem isOk_ok {α : Type} {o : Option α} {f : α → Bool} (h : isOk o f = true) : ∃ l, o = some l ∧ f l = true := by
 cases o with
 | none => exact nof _ h
 | some l => exact ⟨l, rfl, h⟩
noncomputable def fnChk (K : Frag) (f : String) : Bool := isOk (faOf K f) fun a => isOk (fdOf K a) (fnOk K f a)
noncomputable def clsChk (K : Frag) (C : String) : Bool :=
 nsIn K mainGlobals (Str.ofString C) == some (some (.ref (clOf K C))) && (keepIn K (.ref (clOf K C)) && (makesIn K (clOf K C) &&
  (findIn K (.ref (clOf K C)) "__getattribute__" == some (some (.builtin "object.__getattribute__")) && (findIn K (.ref (clOf K C)) "__getattr__" == some none && (findIn K (.ref (clOf K C)) "__setattr__" == some (some (.builtin "object.__setattr__")) && (plainOver K (clOf K C) && (hasDictIn K (clOf K C) &&
  atl0.all fun a => findIn K (.ref (clOf K C)) (Str.ofString a) == some none && takerIn K (clOf K C) (Str.ofString a) == some none)))))))
noncomputable def biChk (K : Frag) : Bool := ["len", "any", "all", "sorted", "tuple", "str", "max", "range"].all fun x => nsIn K mainGlobals (Str.ofString x) == some none
noncomputable def chk (K : Frag) : Bool := names0.all (fnChk K) && ((clsChk K "TypeTable" && clsChk K "BoundHost") && biChk K)
end Mine
end

section
namespace Mine
noncomputable def constOk (K : Frag) (aF : Addr) (x : String × D) : Bool := isOk (nsIn K mainGlobals (Str.ofString x.1)) fun o => isOk o (rd K aF x.2)
noncomputable def constChk (K : Frag) (aF : Addr) : Bool := (ints0.map fun x => (x.1, D.int x.2)).all (constOk K aF) && others0.all (constOk K aF)

theorem lookup_mem {α : Type} {x : String} {c : α} {l : List (String × α)} : l.lookup x = some c → (x, c) ∈ l := by
 induction l with
 | nil => exact fun h => none_some h
 | cons y r ih =>
  intro h
  obtain ⟨k, v⟩ := y
  by_cases hb : k = x
  ·subst hb; rw [lookup_hit] at h; rw [s1 h]; exact .head _
  ·rw [lookup_miss hb] at h; exact .tail _ (ih h)

theorem constChk_ok {K : Frag} {aF : Addr} (h : constChk K aF = true) {x : String} {d : D} (hc : cons0 x = some d) : ∃ v, nsIn K mainGlobals (Str.ofString x) = some (some v) ∧ rd K aF d v = true := by
 have h := Bool.and_eq_true_iff.mp h
 have key : constOk K aF (x, d) = true := by
  unfold cons0 at hc
  cases hi : ints0.lookup x with
  | some i =>
   rw [hi] at hc
   replace hc := s1 hc; obtain rfl := hc
   exact List.all_eq_true.mp h.1 _ (List.mem_map.mpr ⟨_, lookup_mem hi, rfl⟩)
  | none =>
   rw [hi] at hc
   exact List.all_eq_true.mp h.2 _ (lookup_mem hc)
 obtain ⟨o, e, k⟩ := isOk_ok key
 obtain ⟨v, rfl, k⟩ := isOk_ok k
 exact ⟨v, e, k⟩

noncomputable abbrev X0 (prog : Program) (w : World) (K : Frag) (B : Heap) : Cx := { prog, w, K, B, cl := clOf K, consts := cons0, fa := faOf K, fns := fnsK K }
noncomputable abbrev W0 (prog : Program) (w : World) (K : Frag) (B : Heap) (aS aF : Addr) (mg : Str → Option Value) : Wd := { X := X0 prog w K B, ρ₀ := [(aS, aS), (aF, aF)], mg }

section
variable {prog : Program} {w : World} {K : Frag} {B : Heap} {aS aF : Addr} {mg mb : Str → Option Value}

theorem clOf_two (K : Frag) (C : String) : clOf K C = clOf K "TypeTable" ∨ clOf K C = clOf K "BoundHost" := by
 by_cases h : C = "TypeTable"
 ·exact .inl (by rw [h])
 ·exact .inr (if_neg h)
structure ChkP (K : Frag) : Prop where
 fn : ∀ f ∈ names0, fnChk K f = true
 tt : clsChk K "TypeTable" = true
 bh : clsChk K "BoundHost" = true
 bi : biChk K = true
theorem chkP (h : chk K = true) : ChkP K := by
 have h := Bool.and_eq_true_iff.mp h
 have h2 := Bool.and_eq_true_iff.mp h.2
 have h3 := Bool.and_eq_true_iff.mp h2.1
 exact ⟨List.all_eq_true.mp h.1, h3.1, h3.2, h2.2⟩

structure ClsF (K : Frag) (C : String) (a : Addr) : Prop where
 keep : keepIn K (.ref a) = true
 make : makesIn K a = true
 ok : ClsOk K a
 at_ : ∀ x ∈ atl0, findIn K (.ref a) (Str.ofString x) = some none ∧ takerIn K a (Str.ofString x) = some none
theorem clsF_of {C : String} (h : clsChk K C = true) : ClsF K C (clOf K C) ∧ nsIn K mainGlobals (Str.ofString C) = some (some (.ref (clOf K C))) := by
 obtain ⟨h1, h⟩ := Bool.and_eq_true_iff.mp h
 obtain ⟨h2, h⟩ := Bool.and_eq_true_iff.mp h
 obtain ⟨h3, h⟩ := Bool.and_eq_true_iff.mp h
 obtain ⟨h4, h⟩ := Bool.and_eq_true_iff.mp h
 obtain ⟨h5, h⟩ := Bool.and_eq_true_iff.mp h
 obtain ⟨h6, h⟩ := Bool.and_eq_true_iff.mp h
 obtain ⟨h7, h⟩ := Bool.and_eq_true_iff.mp h
 obtain ⟨h8, h9⟩ := Bool.and_eq_true_iff.mp h
 exact ⟨⟨h2, h3, ⟨eq_of_beq h4, eq_of_beq h5, eq_of_beq h6, h7, h8⟩, fun x hx => (Bool.and_eq_true_iff.mp (List.all_eq_true.mp h9 x hx)).imp eq_of_beq eq_of_beq⟩, eq_of_beq h1⟩
theorem clsF_all (h : chk K = true) (C : String) : ClsF K "" (clOf K C) := by
 rcases clOf_two K C with e | e
 ·rw [e]; have k := (clsF_of (chkP h).tt).1; exact ⟨k.keep, k.make, k.ok, k.at_⟩
 ·rw [e]; have k := (clsF_of (chkP h).bh).1; exact ⟨k.keep, k.make, k.ok, k.at_⟩

theorem world_ok (h : chk K = true) (hc : constChk K aF = true) (X : K.In B) (G : B.Ns mainGlobals mg) (Bn : B.Ns builtinsNs mb) (hb : ∀ x : Str, x ≠ "__name__" → mb x = bootBuiltins x) (hl : B.NoLimit) : (W0 prog w K B aS aF mg).Ok where
 kin := X
 gns := G
 bns := ⟨mb, Bn, hb⟩
 lim := hl
 cls := fun C => (clsF_all h C).ok
 const := fun x d hd => by
  obtain ⟨v, h1, h2⟩ := constChk_ok hc hd
  refine ⟨v, mg_of X G h1, fun h ρ hk hρ => rd_ok (X.keeps hk) ?_ d v h2⟩
  obtain ⟨t, rfl⟩ := hρ
  rfl

structure FdP (K : Frag) (fd : FuncData) : Prop where
 co : fd.scope.isCoroutine = false
 gen : fd.scope.isGenerator = false
 kind : fd.scope.kind = .function
 clo : fd.closure = []
 glob : fd.globals = mainGlobals
 blt : fd.builtins = builtinsNs
 code : codeIn K fd.code fd.qualname = true
 nd : (fd.scope.names.map (·.1)).Nodup
 nofree : ∀ x ∈ fd.scope.names, x.2 ≠ .free
 par : ∀ p ∈ fd.params.args, storeOk fd.scope.names p.arg = true
 pn : (fd.params.args.map (·.arg)).Nodup
theorem fdP {fd : FuncData} (h : fdChk K fd = true) : FdP K fd := by
 obtain ⟨h1, h⟩ := Bool.and_eq_true_iff.mp h
 obtain ⟨h2, h⟩ := Bool.and_eq_true_iff.mp h
 obtain ⟨h3, h⟩ := Bool.and_eq_true_iff.mp h
 obtain ⟨h4, h⟩ := Bool.and_eq_true_iff.mp h
 obtain ⟨h5, h⟩ := Bool.and_eq_true_iff.mp h
 obtain ⟨h6, h⟩ := Bool.and_eq_true_iff.mp h
 obtain ⟨h7, h⟩ := Bool.and_eq_true_iff.mp h
 obtain ⟨h8, h⟩ := Bool.and_eq_true_iff.mp h
 obtain ⟨h9, h⟩ := Bool.and_eq_true_iff.mp h
 obtain ⟨h10, h11⟩ := Bool.and_eq_true_iff.mp h
 exact ⟨bnot h1, bnot h2, eq_of_beq h3, List.isEmpty_iff.mp h4, eq_of_beq h5, eq_of_beq h6, h7, of_decide_eq_true h8, fun x hx => bne_iff_ne.mp (List.all_eq_true.mp h9 x hx), List.all_eq_true.mp h10, of_decide_eq_true h11⟩
inductive FnP (K : Frag) (f : String) : Prop | mk (a : Addr) (fd : FuncData) : faOf K f = some a → keepIn K (.ref a) = true → typeIn K (.ref a) = some (.type "function") → fdOf K a = some fd → rds K 0 (extra0 f) (exOf K fd) = true → arOf f fd + (extra0 f).length = fd.params.args.length → arOf f fd ≤ 4 → FdP K fd → FnP K f
theorem fnChk_ok {f : String} (h : fnChk K f = true) : FnP K f := by
 obtain ⟨a, ha, h⟩ := isOk_ok h
 obtain ⟨fd, hfd, h⟩ := isOk_ok h
 obtain ⟨h1, h⟩ := Bool.and_eq_true_iff.mp h
 obtain ⟨h2, h⟩ := Bool.and_eq_true_iff.mp h
 obtain ⟨h3, h⟩ := Bool.and_eq_true_iff.mp h
 obtain ⟨h4, h5⟩ := Bool.and_eq_true_iff.mp h
 obtain ⟨h4, h6⟩ := Bool.and_eq_true_iff.mp h4
 exact ⟨a, fd, ha, h1, eq_of_beq h2, hfd, h3, eq_of_beq h4, of_decide_eq_true h6, fdP h5⟩

theorem metT_find {f C m : String} {a : Addr} (e : metT.lookup f = some (C, m)) (h : faOf K f = some a) : findIn K (.ref (clOf K C)) (Str.ofString m) = some (some (.ref a)) := by
 unfold faOf at h
 rw [e] at h
 exact refOf_ok h
theorem fnl_find {f : String} {a : Addr} (e : metT.lookup f = none) (h : faOf K f = some a) : nsIn K mainGlobals (Str.ofString f) = some (some (.ref a)) := by
 unfold faOf at h
 rw [e] at h
 exact refOf_ok (gd_of h).2
theorem met_mem {f : String} {a : Addr} (h : faOf K f = some a) : f ∈ names0 := by
 cases e : metT.lookup f with
 | some p => exact List.mem_append_right _ (List.mem_map.mpr ⟨_, lookup_mem e, rfl⟩)
 | none =>
  unfold faOf at h
  rw [e] at h
  exact List.mem_append_left _ (List.contains_iff_mem.mp (gd_of h).1)
theorem fnl_none : ∀ f ∈ fnl0, metT.lookup f = none := by decide +kernel
theorem met_one {f C m : String} (h : chk K = true) (hm : metT.lookup f = some (C, m)) (hf : f ∈ names0) : MethIs (X0 prog w K B) m C f := by
 obtain ⟨a, fd, h1, h2, h3, _⟩ := fnChk_ok ((chkP h).fn f hf)
 exact ⟨a, h1, metT_find hm h1, h3, h2⟩
theorem cls_one {C : String} (h : chk K = true) (k : clsChk K C = true) (hm : metT.lookup (C ++ ".__init__") = some (C, "__init__")) (hf : C ++ ".__init__" ∈ names0) : ClsIs (X0 prog w K B) C := by
 have F := clsF_of k
 obtain ⟨a, h1, h2, h3, _⟩ := met_one (prog := prog) (w := w) (B := B) h hm hf
 exact ⟨a, F.2, F.1.keep, F.1.make, h2, h3, h1⟩

theorem tb_ok (h : chk K = true) : T0.Ok (W0 prog w K B aS aF mg) where
 con := fun x d hd => hd
 fn := fun f hf => by
  obtain ⟨a, fd, h1, h2, _⟩ := fnChk_ok ((chkP h).fn f (List.mem_append_left _ hf))
  exact ⟨a, h1, fnl_find (fnl_none f hf) h1, h2⟩
 cl := List.forall_mem_cons.mpr ⟨cls_one h (chkP h).tt (by decide +kernel) (by decide +kernel), one_all (cls_one h (chkP h).bh (by decide +kernel) (by decide +kernel))⟩
 at_ := fun a ha C => (clsF_all h C).at_ a ha
 mt := fun m ms hm C f hf => by
  have key : ∀ y ∈ mtl0, ∀ z ∈ y.2, metT.lookup z.2 = some (z.1, y.1) ∧ z.2 ∈ names0 := by decide +kernel
  obtain ⟨k1, k2⟩ := key (m, ms) (lookup_mem hm) (C, f) (lookup_mem hf)
  exact met_one h k1 k2
 bi := fun x hx => eq_of_beq (List.all_eq_true.mp (chkP h).bi x hx)
end
end Mine
end

section
namespace Mine
section
variable {prog : Program} {w : World} {K : Frag} {B : Heap} {aS aF : Addr} {mg mb : Str → Option Value}

theorem allSome_ok {α : Type} {g : α → Option String} {k : α → Str} (hk : ∀ a x, g a = some x → Str.ofString x = k a) {l : List α} : ∀ {ps : List String}, allSome (l.map g) = some ps → l.map k = ps.map Str.ofString := by
 induction l with
 | nil => intro ps h; replace h := s1 h; obtain rfl := h; rfl
 | cons a r ih =>
  intro ps h
  rw [List.map_cons] at h
  cases hg : g a with
  | none => rw [hg] at h; exact none_some h
  | some x =>
   rw [hg] at h
   replace h := mp_of h; obtain ⟨q, hq, h⟩ := h
   replace h := s1 h; obtain rfl := h
   rw [List.map_cons, List.map_cons, hk a x hg, ih hq]

theorem take4 {vs : List Value} (h : vs.length ≤ 4) : [vs.getD 0 .none, vs.getD 1 .none, vs.getD 2 .none, vs.getD 3 .none].take vs.length = vs := by
 match vs, h with
 | [], _ => rfl
 | [_], _ => rfl
 | [_, _], _ => rfl
 | [_, _, _], _ => rfl
 | [_, _, _, _], _ => rfl
 | _ :: _ :: _ :: _ :: _ :: _, h => simp at h
theorem bnd_of (hB : BndOk K) {f : String} {a : Addr} {fd : FuncData} (ha : faOf K f = some a) (hfd : fdOf K a = some fd) {vs : List Value} (hl : vs.length = arOf f fd) (h4 : arOf f fd ≤ 4) {s : Shared} (X : K.In s.heap) : BindsTo s fd ⟨vs, []⟩ ((fd.params.args.map (·.arg)).zip (vs ++ exOf K fd)) := by
 intro M A E Q q
 have e := congrFun (congrFun (congrFun (congrFun (congrFun (List.map_eq_map_iff.mp hB f (met_mem ha)) (vs.getD 0 .none)) (vs.getD 1 .none)) (vs.getD 2 .none)) (vs.getD 3 .none)) ⟨M.prog, M.w.params⟩
 rw [bdF, bdG, ha, Option.bind_some, Option.bind_some, hfd, Option.bind_some, Option.bind_some, ← hl, take4 (hl ▸ h4)] at e
 exact (Looks.of_peek (M := M) X e).here q

theorem ints_ok {is : List Int} : ∀ {vs : List Value}, rds K 0 (is.map .int) vs = true → ∀ h ρ, VRs h ρ (is.map .int) vs := by
 induction is with
 | nil => intro vs e h ρ; exact List.isEmpty_iff.mp e
 | cons i r ih =>
  intro vs e h ρ
  cases vs with
  | nil => exact nof _ e
  | cons v vs =>
   have e := Bool.and_eq_true_iff.mp e
   exact VRs.cons (vInt_ok e.1) (ih e.2 h ρ)
theorem ext_ok {f : String} {vs : List Value} (e : rds K 0 (extra0 f) vs = true) {h : Heap} {ρ : Rho} : VRs h ρ (extra0 f) vs := by
 unfold extra0 at e ⊢
 by_cases q : f = "new_param"
 ·rw [if_pos q] at e ⊢; exact ints_ok (is := [-1, -1]) e h ρ
 ·rw [if_neg q] at e ⊢; exact ints_ok (is := []) e h ρ
theorem fnOk_of (h : chk K = true) (hB : BndOk K) (O : (W0 prog w K B aS aF mg).Ok) {f : String} {a : Addr} {fn : Fn} (hf : faOf K f = some a) (hfn : fnsK K f = some fn) : FnOk (W0 prog w K B aS aF mg) a fn := by
 have hm := met_mem hf
 obtain ⟨a', fd, h1, -, -, h4, h5, h6, h7, P⟩ := fnChk_ok ((chkP h).fn f hm)
 obtain rfl := s1 (h1.symm.trans hf)
 replace hfn := bi_of hfn; obtain ⟨a, ha, hfn⟩ := hfn
 obtain rfl := s1 (hf.symm.trans ha)
 replace hfn := bi_of hfn; obtain ⟨fd', hfd, hfn⟩ := hfn
 obtain rfl := s1 (h4.symm.trans hfd)
 replace hfn := bi_of hfn; obtain ⟨body, hbody, hfn⟩ := hfn
 replace hfn := mp_of hfn; obtain ⟨ps, hps, hfn⟩ := hfn
 replace hfn := s1 hfn; obtain rfl := hfn
 have hpar : fd.params.args.map (·.arg) = ps.map Str.ofString := allSome_ok (g := fun a : Arg => nameOf T0 a.arg) (k := fun a : Arg => a.arg) (fun a x hx => (nameOf_ok hx)) hps
 have hlen : fd.params.args.length = ps.length := by have := congrArg List.length hpar; rw [List.length_map, List.length_map] at this; exact this
 have h4' := h4
 obtain ⟨o, ho, hd⟩ := bi_of h4'
 refine ⟨o, fd, body, O.kin _ _ ho, asFunc_ok hd, P.co, P.gen, P.kind, P.clo, P.glob, P.blt, asStmts_ok hbody, codeRec_of O.kin P.code, fun n c H => JSs.map fun e _ => trSt_ok O (tb_ok h) H 20 10 e, P.nd, P.nofree, fun p hp => ?_, ?_, fun vs hvs => ⟨exOf K fd, ?_, fun s hk => ?_⟩⟩
 ·have hmem : Str.ofString p ∈ fd.params.args.map (·.arg) := by rw [hpar]; exact List.mem_map.mpr ⟨p, hp, rfl⟩
  obtain ⟨x, hx, e⟩ := List.mem_map.mp hmem
  have := P.par x hx
  rw [e] at this
  exact storeOk_ok this
 ·have := P.pn
  rw [hpar] at this
  exact List.Pairwise.of_map _ (fun a b hne e => hne (by rw [e])) this
 ·refine fun h ρ => ext_ok (f := f) h5
 ·have hl : vs.length = arOf f fd := Nat.add_right_cancel (hvs.trans (hlen.symm.trans h6.symm))
  exact hpar ▸ bnd_of hB hf h4 hl h7 (O.kin.keeps hk)

theorem sound (h : chk K = true) (hB : BndOk K) (O : (W0 prog w K B aS aF mg).Ok) (n : Nat) : FnSnd (W0 prog w K B aS aF mg) n (callF (fnsK K) n) :=
 fn_snd O (fun _ _ _ hf hfn => fnOk_of h hB O hf hfn) n
end
end Mine
end

section
namespace Mine
noncomputable def famI : List (Int × Int) := [(3, 6), (4, 5), (5, 4), (6, 1), (7, 2), (10, 7)]
noncomputable def famEntry (e : DictEntry) (x : Int × Int) : Bool := vInt x.1 e.key && (vInt x.2 e.val && e.hash == hashInt x.1)
noncomputable def famEntries : List DictEntry → List (Int × Int) → Bool
 | [], l => l.isEmpty
 | e :: r, l => match l with | x :: q => famEntry e x && famEntries r q | [] => false
noncomputable def dictL : Data → Option (List DictEntry) | .dict es _ => some es.toList | _ => none
noncomputable def famChk (K : Frag) (aF : Addr) : Bool := !(aF == sysModules) && isOk (K.lookup aF) fun o => decide (o.cls = .type "dict" ∧ o.dict = none ∧ o.slots = #[]) && isOk (dictL o.data) fun es => famEntries es famI
inductive FamE (prog : Program) (w : World) (h : Heap) (ρ : Rho) (es : List DictEntry) (l : List (Int × Int)) : Prop | mk (kvs : List (Int × Value)) : Pairs (intKind prog w) es kvs → KV h ρ D.int (l.map fun x => (D.int x.1, D.int x.2)) kvs → kvs.map (·.1) = l.map (·.1) → (∀ e ∈ es, ∃ k, (intKind prog w).is k e.key = true ∧ e.hash = (intKind prog w).hash k) → FamE prog w h ρ es l
theorem IntV.ex {i : Int} {v : Value} (x : IntV i v) : ∃ t, v = .int i t := by obtain ⟨t⟩ := x; exact ⟨t, rfl⟩
theorem famEntries_ok {prog : Program} {w : World} {h : Heap} {ρ : Rho} {es : List DictEntry} : ∀ {l : List (Int × Int)}, famEntries es l = true → FamE prog w h ρ es l := by
 induction es with
 | nil => intro l h; obtain rfl := List.isEmpty_iff.mp h; exact ⟨[], .nil, rfl, rfl, fun _ he => nomatch he⟩
 | cons e r ih =>
  intro l hh
  cases l with
  | nil => exact nof _ hh
  | cons x q =>
   obtain ⟨h1, h2⟩ := Bool.and_eq_true_iff.mp hh
   obtain ⟨h3, h4⟩ := Bool.and_eq_true_iff.mp h1
   obtain ⟨h4, h5⟩ := Bool.and_eq_true_iff.mp h4
   obtain ⟨kvs, p1, p2, p3, p4⟩ := ih h2
   have hk : (intKind prog w).is x.1 e.key = true := by obtain ⟨t, e⟩ := (vInt_ok h3).ex; rw [e]; exact intKind_is _ _ _ _
   exact ⟨(x.1, e.val) :: kvs, .cons hk rfl p1, ⟨x.1, e.val, kvs, rfl, vInt_ok h4, p2⟩, congrArg (x.1 :: ·) p3, List.forall_mem_cons.mpr ⟨⟨x.1, hk, eq_of_beq h5⟩, p4⟩⟩
theorem dictL_ok {d : Data} {l : List DictEntry} (h : dictL d = some l) : ∃ es n, d = .dict es n ∧ es.toList = l := by cases d <;> first | exact ⟨_, _, rfl, s1 h⟩ | exact none_some h
structure FamOk (prog : Program) (w : World) (h : Heap) (ρ : Rho) (aF : Addr) : Prop where
 low : (aF == sysModules) = false
 ok : IsOf (Int × Value) (h.DictOf (intKind prog w) aF) (KV h ρ D.int famDict)
theorem fam_ok {prog : Program} {w : World} {K : Frag} {h : Heap} {ρ : Rho} {aF : Addr} (X : K.In h) (hc : famChk K aF = true) : FamOk prog w h ρ aF := by
 obtain ⟨h0, hc⟩ := Bool.and_eq_true_iff.mp hc
 obtain ⟨o, ho, hc⟩ := isOk_ok hc
 obtain ⟨h1, hc⟩ := Bool.and_eq_true_iff.mp hc
 obtain ⟨l, hl, hc⟩ := isOk_ok hc
 obtain ⟨es, n, hd, rfl⟩ := dictL_ok hl
 obtain ⟨kvs, p1, p2, p3, p4⟩ := famEntries_ok (prog := prog) (w := w) (h := h) (ρ := ρ) hc
 have h1 := of_decide_eq_true h1
 exact ⟨bnot h0, kvs, ⟨o, es, n, X _ _ ho, h1, hd, fun e he => p4 e (Array.mem_toList_iff.mpr he), p1, by rw [p3]; decide⟩, p2⟩

section
variable {prog : Program} {w : World} {K : Frag} {B h : Heap} {aS aF : Addr} {mg mb : Str → Option Value} {vs : List Value} {ns : List Int}

theorem start_inv (X : K.In B) (hk : ∀ b o, B.get? b = some o → h.get? b = some o) (hL : B.IsList aS vs.toArray) (hI : IntsAre vs ns) (hF : famChk K aF = true) : Inv (X0 prog w K B) [(aS, aS), (aF, aF)] (σ0 ns) h := by
 have F := fam_ok (prog := prog) (w := w) (ρ := [(aS, aS), (aF, aF)]) (X.keeps hk) hF
 obtain ⟨oL, e1, e2, e3⟩ := hL
 have hne : aS ≠ aF := by
  rintro rfl
  obtain ⟨o, ho, hc⟩ := isOk_ok (Bool.and_eq_true_iff.mp hF).2
  rw [get2 e1 (X _ _ ho), (of_decide_eq_true (Bool.and_eq_true_iff.mp hc).1).1] at e2
  exact nomatch e2
 refine ⟨hk, rfl, fun i p ob hp hob => ?_, fun i j p q hp hq hij => ?_, fun i p hp hi => ?_⟩
 ·cases i with
  | zero =>
   replace hp := s1 hp; obtain rfl := hp
   replace hob := s1 hob; obtain rfl := hob
   exact ⟨vs.toArray, rfl, fun hn => (nomatch hn.symm.trans e1), ⟨oL, hk _ _ e1, e2, e3⟩, of_intsAre hI⟩
  | succ i =>
   cases i with
   | zero =>
    replace hp := s1 hp; obtain rfl := hp
    replace hob := s1 hob; obtain rfl := hob
    obtain ⟨kvs, f2, f3⟩ := F.ok
    exact ⟨rfl, F.low, .int kvs f2 f3⟩
   | succ i => exact none_some hp
 ·have two : ∀ (i : Nat) (p : Addr × Addr), [(aS, aS), (aF, aF)][i]? = some p → (i = 0 ∧ p = (aS, aS)) ∨ (i = 1 ∧ p = (aF, aF)) := fun i p hp => by
   cases i with
   | zero => exact .inl ⟨rfl, (s1 hp).symm⟩
   | succ i => cases i with
    | zero => exact .inr ⟨rfl, (s1 hp).symm⟩
    | succ i => exact none_some hp
  rcases two i p hp with ⟨rfl, rfl⟩ | ⟨rfl, rfl⟩ <;> rcases two j q hq with ⟨rfl, rfl⟩ | ⟨rfl, rfl⟩
  ·exact absurd rfl hij
  ·exact ⟨hne, hne, hne, hne⟩
  ·exact ⟨hne.symm, hne.symm, hne.symm, hne.symm⟩
  ·exact absurd rfl hij
 ·match i, hi with
  | i + 2, _ => exact none_some hp

theorem start_fr {name : Str} {scope : Scope} {L a : Addr} {cd : Value} {n : Str} (F : Fr B L h (fun x => List.lookup x [(n, Value.ref aS)].reverse)) (hn : n = Str.ofString "script") (hB1 : ∃ o, B.get? aS = some o) (hB2 : ∃ o, B.get? aF = some o)
  (hk : scope.kind = .function) (hc : ∀ x ∈ scope.names, x.2 ≠ .cell ∧ x.2 ≠ .free) : FrR (X0 prog w K B) h [(aS, aS), (aF, aF)] (envOf name scope L a cd) [("script", .ref 0)] := by
 have no : ∀ k, (envOf name scope L a cd).kindOf k = some .cell ∨ (envOf name scope L a cd).kindOf k = some .free → False := fun k e => e.elim (fun e => (hc (_, _) (mem_of_lookup e)).1 rfl) fun e => (hc (_, _) (mem_of_lookup e)).2 rfl
 have hno : B.get? L = none := freshOf _ _ F.above
 have ne : ∀ {b : Addr}, (∃ o, B.get? b = some o) → L ≠ b := fun l => (l.elim fun o e => getNone e hno).symm
 refine ⟨rfl, rfl, hk, ⟨_, F.ns, fun x d hx hkd h0 => ?_⟩, fun x d hx hkd => (no _ hkd).elim, fun n c hm => (nomatch hm), fun n n' c hm => (nomatch hm), ⟨List.forall_mem_cons.mpr ⟨⟨ne hB1, ne hB1⟩, one_all ⟨ne hB2, ne hB2⟩⟩, hno⟩, fun n hkd => (no _ hkd).elim⟩
 by_cases hb : "script" = x
 ·subst hb
  rw [lookup_hit] at hx
  rw [← s1 hx, hn]
  exact ⟨.ref aS, look_hit, RefV.mk (ρ := [(aS, aS), (aF, aF)]) (i := 0) (aS, aS) rfl⟩
 ·rw [lookup_miss hb] at hx; exact none_some hx
end
end Mine
end

section
namespace Mine
section
variable {prog : Program} {w : World} {K : Frag} {B h : Heap} {aS aF : Addr} {mg mb : Str → Option Value} {vs : List Value} {ns : List Int}

noncomputable def bodyOf (names : Nm) (body : List Stmt) : List CS := body.map (trSt T0 20 names 10)
noncomputable def allChk (K : Frag) (aF : Addr) : Bool := chk K && (constChk K aF && famChk K aF)

inductive EndP (s₁ : Shared) : Flow → Shared → Prop | mk (s' : Shared) : (∀ b o, s₁.heap.get? b = some o → s'.heap.get? b = some o) → s'.gens = #[] → s'.os = s₁.os → EndP s₁ (.ret (.bool true)) s'
theorem join {s₁ s : Shared} {name : Str} {scope : Scope} {L a : Addr} {cd : Value} {body : List Stmt} {x : Str} {c : ClaimW} {cl : Str → Option Addr} {mean : ExcName → Option Value} {args : List WData} {E : Value → Shared → Prop} {N : Nat}
  (hC : allChk K aF = true) (hB : BndOk K) (X : K.In s₁.heap) (G : s₁.heap.Ns mainGlobals mg) (Bn : s₁.heap.Ns builtinsNs mb) (hb : ∀ x : Str, x ≠ "__name__" → mb x = bootBuiltins x) (hl : s₁.heap.NoLimit)
  (hL : s₁.heap.IsList aS vs.toArray) (hI : IntsAre vs ns) (F : Fr s₁.heap L s.heap (fun y => List.lookup y [(x, Value.ref aS)].reverse)) (hg : s.gens = #[]) (hos : s.os = s₁.os)
  (run : ∃ σ', exs (callF (fnsK K) N) (bodyOf scope.names body) [("script", .ref 0)] (σ0 ns) = some (.ret (.bool true), σ'))
  (hn : ∀ cls, c.raises args cls = false) (hp : c.post args (.bool true) args = true)
  (hx : x = Str.ofString "script") (hk : scope.kind = .function) (hc : ∀ x ∈ scope.names, x.2 ≠ .cell ∧ x.2 ≠ .free) (hR : N ≤ 200) :
  wpAny (model prog w) (callerA.deeper (envOf name scope L a cd)) (execs body (envOf name scope L a cd)) (fun f s' => GoodW c cl mean args s₁ (.ok (.ret (match f with | .ret v => v | _ => .none))) s') E s := by
 obtain ⟨σ', run⟩ := run
 obtain ⟨h1, hC⟩ := Bool.and_eq_true_iff.mp hC
 obtain ⟨h2, h3⟩ := Bool.and_eq_true_iff.mp hC
 have O : (W0 prog w K s₁.heap aS aF mg).Ok := world_ok h1 h2 X G Bn hb hl
 have H : FnSnd (W0 prog w K s₁.heap aS aF mg) N (callF (fnsK K) N) := sound h1 hB O N
 have I := start_inv (prog := prog) (w := w) X F.keep hL hI h3
 have hB2 : ∃ o, s₁.heap.get? aF = some o := by
  obtain ⟨o, ho, _⟩ := isOk_ok (Bool.and_eq_true_iff.mp h3).2
  exact ⟨o, X _ _ ho⟩
 have R := start_fr (prog := prog) (w := w) (K := K) (aF := aF) (scope := scope) (name := name) (a := a) (cd := cd) F hx (hL.imp fun _ => And.left) hB2 hk hc
 have J : JSs (W0 prog w K s₁.heap aS aF mg) N (callF (fnsK K) N) scope.names body (bodyOf scope.names body) := JSs.map fun e _ => trSt_ok O (tb_ok h1) H 20 10 e
 have hR' : Room N (callerA.deeper (envOf name scope L a cd)) := ⟨rfl, by show 302 + 2 * N + 4 ≤ 1000; lia, by show 7 + 40 * N + 200 ≤ 9900; lia⟩
 refine wpAny_mono (J.run (Q := EndP s₁) rfl ⟨hR', R, I, List.prefix_refl _⟩ run ?_) (fun f s' => ?_) (fun _ _ h => h.elim)
 ·intro v ρ' h' t' I' S' y
  obtain rfl := y
  exact ⟨_, I'.keepB, hg, hos⟩
 ·rintro ⟨_, k1, k2, k3⟩
  exact ⟨.inl ⟨_, .bool true, [], rfl, hn, .bool true, hp, unshared_nil⟩, k1, k3, k2⟩
end
end Mine
end

section
namespace Mine
inductive E1C8 {τ0 : Type} (A0 A1 A2 A3 A4 A5 A6 A7 : τ0 → Prop) : Prop | mk (a : τ0) : A0 a → A1 a → A2 a → A3 a → A4 a → A5 a → A6 a → A7 a → E1C8 A0 A1 A2 A3 A4 A5 A6 A7
inductive E1C7 {τ0 : Type} (A0 A1 A2 A3 A4 A5 A6 : τ0 → Prop) : Prop | mk (a : τ0) : A0 a → A1 a → A2 a → A3 a → A4 a → A5 a → A6 a → E1C7 A0 A1 A2 A3 A4 A5 A6
noncomputable def W {α : Type} (r : Option (α × St)) (Q : α → St → Prop) : Prop := ∃ a σ', r = some (a, σ') ∧ Q a σ'
noncomputable def Wm {α : Type} (o : Option α) (P : α → Prop) : Prop := ∃ t, o = some t ∧ P t
noncomputable def Br (o : Option Bool) (A B : Prop) : Prop := ∃ v, o = some v ∧ (v = true → A) ∧ (v = false → B)

section
variable {α β : Type} {Q Q' : α → St → Prop} {R : β → St → Prop} {σ : St} {c : Callee} {L : Loc}
theorem W.ret {a : α} (h : Q a σ) : W (some (a, σ)) Q := ⟨a, σ, rfl, h⟩
theorem W.mono {r : Option (α × St)} (h : W r Q) (k : ∀ a σ, Q a σ → Q' a σ) : W r Q' := by
 obtain ⟨a, σ', e, q⟩ := h; exact ⟨a, σ', e, k _ _ q⟩
theorem W.eqn {r r' : Option (α × St)} (e : r = r') (h : W r' Q) : W r Q := e ▸ h
theorem W.bnd {m : Option (β × St)} {f : β → St → Option (α × St)} (h : W m fun b σ => W (f b σ) Q) : W (bnd m f) Q := by
 obtain ⟨b, σ', rfl, q⟩ := h; exact q
theorem W.bi {m : Option β} {f : β → Option (α × St)} {a : β} (e : m = some a) (h : W (f a) Q) : W (m.bind f) Q := by rw [e]; exact h
theorem W.gd {p : Prop} [Decidable p] {x : Option (α × St)} (k : p) (h : W x Q) : W (gd p x) Q := by rw [gd_pos k]; exact h
theorem put_at {i : Nat} {o : Ob} (l : 2 ≤ i) : put σ i o = some (σ.set i o) := if_neg (Nat.not_lt.mpr l)
theorem W.put {i : Nat} {o : Ob} {a : α} (l : 2 ≤ i) (h : Q a (σ.set i o)) : W ((put σ i o).map fun σ => (a, σ)) Q := by rw [put_at l]; exact W.ret h
theorem W.gm {p : Prop} [Decidable p] {d : α} (k : p) (h : Q d σ) : W (Option.map (fun d => (d, σ)) (Mine.gd p (some d))) Q := by rw [gd_pos k]; exact W.ret h
theorem Wm.bi {α β : Type} {m : Option β} {f : β → Option α} {P : α → Prop} {a : β} (e : m = some a) (h : Wm (f a) P) : Wm (m.bind f) P := by rw [e]; exact h
theorem Wm.gd {α : Type} {p : Prop} [Decidable p] {x : Option α} {P : α → Prop} (k : p) (h : Wm x P) : Wm (gd p x) P := by rw [gd_pos k]; exact h
theorem Wm.ret {a : α} {P : α → Prop} (h : P a) : Wm (some a) P := ⟨a, rfl, h⟩
theorem Wm.of {a : α} {o : Option α} {P : α → Prop} (e : o = some a) (h : P a) : Wm o P := ⟨a, e, h⟩
theorem Wm.map {o : Option β} {f : β → α × St} (h : Wm o fun b => Q (f b).1 (f b).2) : W (o.map f) Q := by
 obtain ⟨b, rfl, q⟩ := h; exact ⟨_, _, rfl, q⟩

theorem Br.dec {p : Prop} [Decidable p] {A B : Prop} (a : p → A) (b : ¬ p → B) : Br (truth σ (.bool (decide p))) A B :=
 ⟨_, rfl, fun h => a (of_decide_eq_true h), fun h => b (of_decide_eq_false h)⟩
theorem Br.ndec {p : Prop} [Decidable p] {A B : Prop} (a : ¬ p → A) (b : p → B) : Br (truth σ (.bool (!decide p))) A B :=
 ⟨_, rfl, fun h => a (by simpa using h), fun h => b (by simpa using h)⟩
theorem Br.bool {v : Bool} {A B : Prop} (a : v = true → A) (b : v = false → B) : Br (truth σ (.bool v)) A B := ⟨_, rfl, a, b⟩
theorem Br.T {A B : Prop} (a : A) : Br (truth σ (.bool true)) A B := ⟨_, rfl, fun _ => a, nofun⟩
theorem Br.F {A B : Prop} (b : B) : Br (truth σ (.bool false)) A B := ⟨_, rfl, nofun, fun _ => b⟩
theorem Br.Tt {v : Bool} {A B : Prop} (h : v = true) (a : A) : Br (truth σ (.bool v)) A B := by subst h; exact .T a
theorem Br.Ff {v : Bool} {A B : Prop} (h : v = false) (a : B) : Br (truth σ (.bool v)) A B := by subst h; exact .F a
theorem Br.Td {p : Prop} [Decidable p] {A B : Prop} (h : p) (a : A) : Br (truth σ (.bool (decide p))) A B := .Tt (decide_eq_true h) a
theorem Br.Fd {p : Prop} [Decidable p] {A B : Prop} (h : ¬ p) (a : B) : Br (truth σ (.bool (decide p))) A B := .Ff (decide_eq_false h) a
theorem empty_iff {xs : List D} {A B : Prop} (a : xs ≠ [] → A) (b : xs = [] → B) : ((!xs.isEmpty) = true → A) ∧ ((!xs.isEmpty) = false → B) := by
 cases xs with
 | nil => exact ⟨fun h => nof _ h, fun _ => b rfl⟩
 | cons => exact ⟨fun _ => a nofun, fun h => nof _ h.symm⟩
theorem Br.tup {xs : List D} {A B : Prop} (l : xs.length ≤ big) (a : xs ≠ [] → A) (b : xs = [] → B) : Br (truth σ (.tup xs)) A B :=
 ⟨!xs.isEmpty, gd_pos l, empty_iff a b⟩
theorem Br.lst {i : Nat} {xs : List D} {A B : Prop} (e : σ[i]? = some (.list xs)) (l : xs.length ≤ big) (a : xs ≠ [] → A) (b : xs = [] → B) : Br (truth σ (.ref i)) A B :=
 ⟨!xs.isEmpty, Eq.trans (bi_eq (at_lst e)) (gd_pos l), empty_iff a b⟩
theorem Br.mono {o : Option Bool} {A B A' B' : Prop} (h : Br o A B) (a : A → A') (b : B → B') : Br o A' B' := by
 obtain ⟨v, e, x, y⟩ := h; exact ⟨v, e, fun h => a (x h), fun h => b (y h)⟩
end

noncomputable def New (σ : St) (o : Ob) (i : Nat) (σ' : St) : Prop := i = σ.length ∧ σ' = σ ++ [o]
noncomputable def Upd (σ : St) (i : Nat) (o : Ob) (σ' : St) : Prop := σ' = σ.set i o
noncomputable def Wn (σ : St) (o : Ob) (Q : D → St → Prop) : Prop := ∀ i σ', New σ o i σ' → Q (.ref i) σ'
noncomputable def Wu (σ : St) (i : Nat) (o : Ob) (P : St → Prop) : Prop := ∀ σ', Upd σ i o σ' → P σ'
theorem Wn.it {σ : St} {o : Ob} {Q : D → St → Prop} (h : Wn σ o Q) : Q (.ref σ.length) (σ ++ [o]) := h _ _ ⟨rfl, rfl⟩
theorem Wu.it {σ : St} {i : Nat} {o : Ob} {P : St → Prop} (h : Wu σ i o P) : P (σ.set i o) := h _ rfl

noncomputable def Hg {α : Type} (Q' Q : α → St → Prop) : Prop := ∀ a σ, Q a σ → Q' a σ
noncomputable def Hc (Q' : Fl → St → Prop) (M : Loc → St → Prop) : Prop := ∀ L σ, M L σ → Q' (.next L) σ
theorem Hg.go {α : Type} {Q' Q : α → St → Prop} {a : α} {σ : St} (h : Hg Q' Q) (q : Q a σ) : Q' a σ := h a σ q
theorem Hc.go {Q' : Fl → St → Prop} {M : Loc → St → Prop} {L : Loc} {σ : St} (h : Hc Q' M) (q : M L σ) : Q' (.next L) σ := h L σ q
theorem gen {α : Type} {r : Option (α × St)} {Q : α → St → Prop} (h : ∀ Q', Hg Q' Q → W r Q') : W r Q := h Q fun _ _ h => h
theorem W.m1 {α : Type} {r : Option (α × St)} {Q : α → St → Prop} {σ0 : St} {d : α} (h : W r fun v σ' => σ' = σ0 ∧ v = d) (k : Q d σ0) : W r Q := h.mono fun _ _ h => by rw [h.1, h.2]; exact k
theorem W.m2 {α : Type} {r : Option (α × St)} {Q : α → St → Prop} {A : St → Prop} {d : α} (h : W r fun v σ' => A σ' ∧ v = d) (k : ∀ σ', A σ' → Q d σ') : W r Q := h.mono fun _ _ h => by rw [h.2]; exact k _ h.1
theorem W.m3 {α β : Type} {r : Option (α × St)} {Q : α → St → Prop} {A : St → Prop} {f : β → α} {P : β → St → Prop} (h : W r fun v σ' => A σ' ∧ ∃ a, v = f a ∧ P a σ') (k : ∀ σ' a, A σ' → P a σ' → Q (f a) σ') : W r Q := h.mono fun _ _ ⟨h, a, e, p⟩ => by rw [e]; exact k _ a h p
theorem W.m4 {α β γ : Type} {r : Option (α × St)} {Q : α → St → Prop} {A : γ → St → Prop} {B : γ → Prop} {f : β → α} {P : γ → β → St → Prop} (h : W r fun v σ' => ∃ R a, A R σ' ∧ B R ∧ v = f a ∧ P R a σ') (k : ∀ σ' R a, A R σ' → B R → P R a σ' → Q (f a) σ') : W r Q := h.mono fun _ _ ⟨R, a, h, b, e, p⟩ => by rw [e]; exact k _ R a h b p

inductive PNeg (d : D) (K : Int → Prop) : Prop | mk (i : Int) : d = .int i → K i → PNeg d K
inductive PRev (σ : St) (d : D) (K : List D → Prop) : Prop | mk (i : Nat) (xs : List D) : d = .ref i → σ[i]? = some (.list xs) → xs.length ≤ big → K xs → PRev σ d K
inductive PAttr (σ : St) (a : String) (d : D) (K : D → Prop) : Prop | mk (i : Nat) (C : String) (fs : List (String × D)) (v : D) : d = .ref i → σ[i]? = some (.inst C fs) → fs.lookup a = some v → K v → PAttr σ a d K
inductive PMeth (σ : St) (m : String) (ms : List (String × String)) (d : D) (K : Nat → String → Prop) : Prop | mk (i : Nat) (C : String) (fs : List (String × D)) (f : String) : d = .ref i → σ[i]? = some (.inst C fs) → fs.lookup m = none → ms.lookup C = some f → K i f → PMeth σ m ms d K
inductive PMax (x y : D) (K : Int → Prop) : Prop | mk (i j : Int) : x = .int i → y = .int j → K (max i j) → PMax x y K
inductive PApp (σ : St) (d : D) (K : Nat → Prop) : Prop | mk (i : Nat) (xs : List D) : d = .ref i → 2 ≤ i → σ[i]? = some (.list xs) → K i → PApp σ d K
inductive PApp2 (σ : St) (i : Nat) (x : D) (K : St → Prop) : Prop | mk (xs : List D) : σ[i]? = some (.list xs) → xs.length ≤ big → Wu σ i (.list (xs ++ [x])) K → PApp2 σ i x K
inductive PExt2 (σ : St) (i : Nat) (x : D) (K : St → Prop) : Prop | mk (xs ys : List D) : σ[i]? = some (.list xs) → seqOf σ x = some ys → (xs.length + ys.length ≤ big ∧ x ≠ .ref i ∧ x ≠ .ref 0 ∧ x ≠ .ref 1) → Wu σ i (.list (xs ++ ys)) K → PExt2 σ i x K
inductive PDget (σ : St) (d : D) (K : Nat → Prop) : Prop | mk (i : Nat) (es : List (D × D)) : d = .ref i → σ[i]? = some (.dict es) → K i → PDget σ d K
inductive PDget2 (σ : St) (i : Nat) (x y : D) (K : D → Prop) : Prop | mk (es : List (D × D)) : σ[i]? = some (.dict es) → (isInt x && es.all (fun e => isInt e.1)) = true → K ((dfind es x).getD y) → PDget2 σ i x y K
inductive PAs2 (d : D) (K : D → D → Prop) : Prop | mk (a b : D) : d = .tup [a, b] → K a b → PAs2 d K
inductive PSetI (σ : St) (d k v : D) (K : St → Prop) : Prop
 | list (j : Nat) (xs : List D) (n : Int) : d = .ref j → k = .int n → σ[j]? = some (.list xs) → 2 ≤ j → (0 ≤ n ∧ n.toNat < xs.length ∧ xs.length ≤ big) → Wu σ j (.list (xs.set n.toNat v)) K → PSetI σ d k v K
 | dict (j : Nat) (es : List (D × D)) : d = .ref j → σ[j]? = some (.dict es) → 2 ≤ j → (keysOk es k = true ∧ es.length ≤ big) → Wu σ j (.dict (dput es k v)) K → PSetI σ d k v K
inductive PSetA (σ : St) (d : D) (a : String) (v : D) (K : St → Prop) : Prop | mk (j : Nat) (C : String) (fs : List (String × D)) : d = .ref j → σ[j]? = some (.inst C fs) → 2 ≤ j → fs.length ≤ 100 → Wu σ j (.inst C (setL a v fs)) K → PSetA σ d a v K

mutual
inductive Pv (L : Loc) : CE → D → Prop
 | lit {d : D} : Pv L (.lit d) d
 | var {x : String} {d : D} : L.lookup x = some d → Pv L (.var x) d
 | tup {es : List CE} {ds : List D} : Pvs L es ds → Pv L (.tup es) (.tup ds)
inductive Pvs (L : Loc) : List CE → List D → Prop
 | nil : Pvs L [] []
 | cons {e : CE} {d : D} {r : List CE} {ds : List D} : Pv L e d → Pvs L r ds → Pvs L (e :: r) (d :: ds)
end
section
variable {c : Callee} {L : Loc} {σ : St}
theorem Pv.ev {e : CE} {d : D} (h : Pv L e d) : ev c L e σ = some (d, σ) :=
 Pv.rec (motive_1 := fun e d _ => Mine.ev c L e σ = some (d, σ)) (motive_2 := fun es ds _ => evs c L es σ = some (ds, σ)) rfl (fun h => congrArg (Option.map fun d => (d, σ)) h) (fun _ h => congrArg (bnd · fun ds σ => some (D.tup ds, σ)) h) rfl
  (fun _ _ h k => (congrArg (bnd · fun d σ => bnd (evs c L _ σ) fun ds σ => some (d :: ds, σ)) h).trans (congrArg (bnd · fun ds σ => some (_ :: ds, σ)) k)) h
theorem Pvs.ev {es : List CE} {ds : List D} (h : Pvs L es ds) : evs c L es σ = some (ds, σ) :=
 Pvs.rec (motive_1 := fun e d _ => Mine.ev c L e σ = some (d, σ)) (motive_2 := fun es ds _ => evs c L es σ = some (ds, σ)) rfl (fun h => congrArg (Option.map fun d => (d, σ)) h) (fun _ h => congrArg (bnd · fun ds σ => some (D.tup ds, σ)) h) rfl
  (fun _ _ h k => (congrArg (bnd · fun d σ => bnd (evs c L _ σ) fun ds σ => some (d :: ds, σ)) h).trans (congrArg (bnd · fun ds σ => some (_ :: ds, σ)) k)) h
end

noncomputable def turn (c : Callee) (L : Loc) (elt : CE) (t : Tgt) (cond : Option CE) (x : D) (σ : St) : Option (Option D × St) :=
 (bindT t x L).bind fun L' => bnd (evC c L' cond σ) fun b σ => match b with | true => bnd (ev c L' elt σ) fun y σ => some (some y, σ) | false => some (none, σ)
noncomputable abbrev stepE (c : Callee) (L : Loc) (σ : St) (e : CE) (Q : D → St → Prop) : Prop := match e with
 | .stuck => False
 | .lit d => Q d σ
 | .var x => ∃ d, L.lookup x = some d ∧ Q d σ
 | .bin op l r => W (ev c L l σ) fun a σ => W (ev c L r σ) fun b σ => W (bin op a b σ) Q
 | .neg e => W (ev c L e σ) fun a σ => PNeg a fun i => Q (.int (-i)) σ
 | .cmp op l r => W (ev c L l σ) fun a σ => W (ev c L r σ) fun b σ => Wm (cmp op a b σ) fun t => Q (.bool t) σ
 | .isNone e p => W (ev c L e σ) fun a σ => Q (.bool (decide (a = .none) == p)) σ
 | .and es => W (evAnd c L es σ) Q
 | .or es => W (evOr c L es σ) Q
 | .not e => W (ev c L e σ) fun a σ => Wm (truth σ a) fun t => Q (.bool (!t)) σ
 | .ite t b o => W (ev c L t σ) fun a σ => Br (truth σ a) (W (ev c L b σ) Q) (W (ev c L o σ) Q)
 | .tup es => W (evs c L es σ) fun ds σ => Q (.tup ds) σ
 | .list es => W (evs c L es σ) fun ds σ => Wn σ (.list ds) Q
 | .dict ks es => W (evs c L es σ) fun ds σ => (ks.length = ds.length ∧ ks.Nodup) ∧ Wn σ (.dict ((ks.map .str).zip ds)) Q
 | .sub e i => W (ev c L e σ) fun a σ => W (ev c L i σ) fun k σ => Wm (item σ a k) fun d => Q d σ
 | .slice e lo hi => W (ev c L e σ) fun a σ => W (evO c L lo σ) fun x σ => W (evO c L hi σ) fun y σ => W (slice σ a x y) Q
 | .rev e => W (ev c L e σ) fun a σ => PRev σ a fun xs => Wn σ (.list xs.reverse) Q
 | .attr e a => W (ev c L e σ) fun d σ => PAttr σ a d fun v => Q v σ
 | .call f es => W (evs c L es σ) fun ds σ => W (c f ds σ) Q
 | .new C es => W (evs c L es σ) fun ds σ => W (c (C ++ ".__init__") (.ref σ.length :: ds) (σ ++ [.inst C []])) fun r σ' => r = .none ∧ Q (.ref σ.length) σ'
 | .meth o m ms es => W (ev c L o σ) fun d σ => PMeth σ m ms d fun i f => W (evs c L es σ) fun ds σ => W (c f (.ref i :: ds) σ) Q
 | .bi f e => W (ev c L e σ) fun d σ => W (bi f d σ) Q
 | .max a b => W (ev c L a σ) fun x σ => W (ev c L b σ) fun y σ => PMax x y fun i => Q (.int i) σ
 | .append o e => W (ev c L o σ) fun d σ => PApp σ d fun i => W (ev c L e σ) fun x σ => PApp2 σ i x (Q .none)
 | .extend o e => W (ev c L o σ) fun d σ => PApp σ d fun i => W (ev c L e σ) fun x σ => PExt2 σ i x (Q .none)
 | .dget o k e => W (ev c L o σ) fun d σ => PDget σ d fun i => W (ev c L k σ) fun x σ => W (ev c L e σ) fun y σ => PDget2 σ i x y fun v => Q v σ
 | .comp elt t range it cond => W (ev c L it σ) fun d σ => Wm (itemsOf range d σ) fun xs => W (compGo (fun σ => stillR range σ xs d) (turn c L elt t cond) xs [] σ) fun ys σ => Wn σ (.list ys) Q
section
variable {c : Callee} {L : Loc} {σ : St}
theorem br_if {α : Type} {o : Option Bool} {x y : Option (α × St)} {Q : α → St → Prop} (h : Br o (W x Q) (W y Q)) : W (o.bind fun v => cond v x y) Q := by
 obtain ⟨v, e, a, b⟩ := h
 rw [e]
 cases v
 ·exact b rfl
 ·exact a rfl
theorem e_step {e : CE} {Q : D → St → Prop} (h : stepE c L σ e Q) : W (ev c L e σ) Q := by
 cases e with
 | stuck => exact h.elim
 | lit d => exact W.ret h
 | var x => obtain ⟨d, e, q⟩ := h; exact ⟨d, σ, congrArg (Option.map fun d => (d, σ)) e, q⟩
 | bin => exact W.bnd (h.mono fun _ _ h => .bnd h)
 | neg => exact W.bnd (h.mono fun _ _ h => by obtain ⟨i, rfl, q⟩ := h; exact W.ret q)
 | cmp => exact W.bnd (h.mono fun _ _ h => .bnd (h.mono fun _ _ h => Wm.map h))
 | isNone => exact W.bnd (h.mono fun _ _ h => .ret h)
 | and => exact h
 | or => exact h
 | not => exact W.bnd (h.mono fun _ _ h => Wm.map h)
 | ite => exact W.bnd (h.mono fun _ _ h => br_if h)
 | tup => exact W.bnd (h.mono fun _ _ h => .ret h)
 | list => exact W.bnd (h.mono fun _ _ h => .ret h.it)
 | dict => exact W.bnd (h.mono fun _ _ h => W.gd h.1 (W.ret h.2.it))
 | sub => exact W.bnd (h.mono fun _ _ h => .bnd (h.mono fun _ _ h => Wm.map h))
 | slice => exact W.bnd (h.mono fun _ _ h => .bnd (h.mono fun _ _ h => .bnd h))
 | rev => exact W.bnd (h.mono fun _ _ h => by obtain ⟨i, xs, rfl, g, l, q⟩ := h; exact W.bi (at_lst g) (W.gd l (W.ret q.it)))
 | attr => exact W.bnd (h.mono fun _ _ h => by obtain ⟨i, C, fs, v, rfl, g, l, q⟩ := h; refine W.bi (at_ins g) ?_; rw [l]; exact W.ret q)
 | call => exact .bnd h
 | new => exact W.bnd (h.mono fun _ _ h => .bnd (.ret (.bnd (h.mono fun _ _ h => W.gd h.1 (W.ret h.2)))))
 | meth => exact W.bnd (h.mono fun _ _ h => by obtain ⟨i, C, fs, f, rfl, g, l, k, q⟩ := h; exact W.bi (at_ins g) (W.gd l (W.bi k (.bnd q))))
 | bi => exact .bnd h
 | max => exact W.bnd (h.mono fun _ _ h => .bnd (h.mono fun _ _ h => by obtain ⟨i, j, rfl, rfl, q⟩ := h; exact W.ret q))
 | append => exact W.bnd (h.mono fun _ σ h => by obtain ⟨i, xs, rfl, l, g, q⟩ := h; exact W.gd ⟨l, by rw [at_lst g]; rfl⟩ (W.bnd (q.mono fun _ _ h => by obtain ⟨xs, g, h, q⟩ := h; exact W.bi (at_lst g) (W.gd h (W.put l q.it)))))
 | extend => exact W.bnd (h.mono fun _ σ h => by obtain ⟨i, xs, rfl, l, g, q⟩ := h; exact W.gd ⟨l, by rw [at_lst g]; rfl⟩ (W.bnd (q.mono fun _ _ h => by obtain ⟨xs, ys, g, g', h, q⟩ := h; exact W.bi (at_lst g) (W.bi g' (W.gd h (W.put l q.it))))))
 | dget => exact W.bnd (h.mono fun _ σ h => by obtain ⟨i, xs, rfl, g, q⟩ := h; exact W.gd (by rw [at_dct g]; rfl) (W.bnd (q.mono fun _ _ h => .bnd (h.mono fun _ _ h => by obtain ⟨xs, g, h, q⟩ := h; exact W.bi (at_dct g) (W.gd h (W.ret q))))))
 | comp => exact W.bnd (h.mono fun d σ h => by obtain ⟨xs, e, q⟩ := h; exact W.bi e (W.bnd (W.mono q fun _ _ h => .ret h.it)))
theorem e_p {e : CE} {d : D} {Q : D → St → Prop} (p : Pv L e d) (h : Q d σ) : W (ev c L e σ) Q := ⟨d, σ, p.ev, h⟩
theorem es_p {es : List CE} {ds : List D} {Q : List D → St → Prop} (p : Pvs L es ds) (h : Q ds σ) : W (evs c L es σ) Q := ⟨ds, σ, p.ev, h⟩
theorem e_sub2 {e i : CE} {a k : D} {Q : D → St → Prop} (p : Pv L e a) (q : Pv L i k) (h : Wm (item σ a k) fun d => Q d σ) : W (ev c L (.sub e i) σ) Q := e_step (e := .sub e i) (e_p p (e_p q h))
theorem e_sub1 {e i : CE} {k : D} {Q : D → St → Prop} (q : Pv L i k) (h : W (ev c L e σ) fun a σ => Wm (item σ a k) fun d => Q d σ) : W (ev c L (.sub e i) σ) Q := e_step (e := .sub e i) (h.mono fun _ _ h => e_p q h)
theorem e_cmp2 {op : COp} {l r : CE} {a b : D} {Q : D → St → Prop} (p : Pv L l a) (q : Pv L r b) (h : Wm (cmp op a b σ) fun t => Q (.bool t) σ) : W (ev c L (.cmp op l r) σ) Q := e_step (e := .cmp op l r) (e_p p (e_p q h))
theorem e_cmp1 {op : COp} {l r : CE} {b : D} {Q : D → St → Prop} (q : Pv L r b) (h : W (ev c L l σ) fun a σ => Wm (cmp op a b σ) fun t => Q (.bool t) σ) : W (ev c L (.cmp op l r) σ) Q := e_step (e := .cmp op l r) (h.mono fun _ _ h => e_p q h)
theorem e_bin2 {op : BOp} {l r : CE} {a b : D} {Q : D → St → Prop} (p : Pv L l a) (q : Pv L r b) (h : W (bin op a b σ) Q) : W (ev c L (.bin op l r) σ) Q := e_step (e := .bin op l r) (e_p p (e_p q h))
theorem e_attr1 {e : CE} {a : String} {d : D} {Q : D → St → Prop} (p : Pv L e d) (h : PAttr σ a d fun v => Q v σ) : W (ev c L (.attr e a) σ) Q := e_step (e := .attr e a) (e_p p h)
theorem e_call1 {f : String} {es : List CE} {ds : List D} {Q : D → St → Prop} (p : Pvs L es ds) (h : W (c f ds σ) Q) : W (ev c L (.call f es) σ) Q := e_step (e := .call f es) (es_p p h)
theorem e_lit {d : D} {Q : D → St → Prop} (h : Q d σ) : W (ev c L (.lit d) σ) Q := W.ret h
theorem e_var {x : String} {d : D} {Q : D → St → Prop} (e : L.lookup x = some d) (h : Q d σ) : W (ev c L (.var x) σ) Q := e_p (.var e) h
theorem e_bin {op : BOp} {l r : CE} {Q : D → St → Prop} (h : W (ev c L l σ) fun a σ => W (ev c L r σ) fun b σ => W (bin op a b σ) Q) : W (ev c L (.bin op l r) σ) Q := e_step (e := .bin op l r) h
theorem e_not {e : CE} {Q : D → St → Prop} (h : W (ev c L e σ) fun a σ => Wm (truth σ a) fun t => Q (.bool (!t)) σ) : W (ev c L (.not e) σ) Q := e_step (e := .not e) h
theorem e_sub {e i : CE} {Q : D → St → Prop} (h : W (ev c L e σ) fun a σ => W (ev c L i σ) fun k σ => Wm (item σ a k) fun d => Q d σ) : W (ev c L (.sub e i) σ) Q := e_step (e := .sub e i) h
theorem e_tup {es : List CE} {Q : D → St → Prop} (h : W (evs c L es σ) fun ds σ => Q (.tup ds) σ) : W (ev c L (.tup es) σ) Q := e_step (e := .tup es) h
theorem e_list {es : List CE} {Q : D → St → Prop} (h : W (evs c L es σ) fun ds σ => Wn σ (.list ds) Q) : W (ev c L (.list es) σ) Q := e_step (e := .list es) h
theorem e_call {f : String} {es : List CE} {Q : D → St → Prop} (h : W (evs c L es σ) fun ds σ => W (c f ds σ) Q) : W (ev c L (.call f es) σ) Q := .bnd h
theorem e_bi {f : Bi} {e : CE} {Q : D → St → Prop} (h : W (ev c L e σ) fun d σ => W (bi f d σ) Q) : W (ev c L (.bi f e) σ) Q := .bnd h
theorem e_new {C : String} {es : List CE} {Q : D → St → Prop} (h : W (evs c L es σ) fun ds σ => W (c (C ++ ".__init__") (.ref σ.length :: ds) (σ ++ [.inst C []])) fun r σ' => r = .none ∧ Q (.ref σ.length) σ') : W (ev c L (.new C es) σ) Q := e_step (e := .new C es) h
theorem e_meth {o : CE} {m : String} {ms : List (String × String)} {es : List CE} {Q : D → St → Prop} (h : W (ev c L o σ) fun d σ => PMeth σ m ms d fun i f => W (evs c L es σ) fun ds σ => W (c f (.ref i :: ds) σ) Q) : W (ev c L (.meth o m ms es) σ) Q := e_step (e := .meth o m ms es) h
theorem e_and {es : List CE} {Q : D → St → Prop} (h : W (evAnd c L es σ) Q) : W (ev c L (.and es) σ) Q := h
theorem e_and1 {e : CE} {Q : D → St → Prop} (h : W (ev c L e σ) Q) : W (evAnd c L [e] σ) Q := h
theorem e_or1 {e : CE} {Q : D → St → Prop} (h : W (ev c L e σ) Q) : W (evOr c L [e] σ) Q := h
theorem e_andS {e f : CE} {r : List CE} {Q : D → St → Prop} (h : W (ev c L e σ) fun d σ => Br (truth σ d) (W (evAnd c L (f :: r) σ) Q) (Q d σ)) : W (evAnd c L (e :: f :: r) σ) Q :=
 W.bnd (h.mono fun _ _ h => br_if (h.mono id .ret))
theorem e_orS {e f : CE} {r : List CE} {Q : D → St → Prop} (h : W (ev c L e σ) fun d σ => Br (truth σ d) (Q d σ) (W (evOr c L (f :: r) σ) Q)) : W (evOr c L (e :: f :: r) σ) Q :=
 W.bnd (h.mono fun _ _ h => br_if (h.mono .ret id))
theorem eO_none {Q : D → St → Prop} (h : Q .none σ) : W (evO c L none σ) Q := by exact W.ret h
theorem eO_some {e : CE} {Q : D → St → Prop} (h : W (ev c L e σ) Q) : W (evO c L (some e) σ) Q := by exact h
theorem es_nil {Q : List D → St → Prop} (h : Q [] σ) : W (evs c L [] σ) Q := by exact W.ret h
theorem es_cons {Q : List D → St → Prop} {e : CE} {r : List CE} (h : W (ev c L e σ) fun d σ => W (evs c L r σ) fun ds σ => Q (d :: ds) σ) : W (evs c L (e :: r) σ) Q := by
 exact W.bnd (h.mono fun _ _ h => .bnd (h.mono fun _ _ h => .ret h))
theorem eC_none {Q : Bool → St → Prop} (h : Q true σ) : W (evC c L none σ) Q := by exact W.ret h
theorem eC_some {Q : Bool → St → Prop} {e : CE} (h : W (ev c L e σ) fun a σ => Wm (truth σ a) fun t => Q t σ) : W (evC c L (some e) σ) Q := by
 exact W.bnd (h.mono fun _ _ h => Wm.map h)
theorem c_turn0 {elt : CE} {t : Tgt} {cond : Option CE} {x : D} {L' : Loc} {Q : Option D → St → Prop} (e : bindT t x L = some L') (h : W (evC c L' cond σ) fun b σ => (b = true → W (ev c L' elt σ) fun y σ => Q (some y) σ) ∧ (b = false → Q none σ)) : W (turn c L elt t cond x σ) Q := by
 refine W.bi e (W.bnd (h.mono fun b σ h => ?_))
 cases b
 ·exact W.ret (h.2 rfl)
 ·exact W.bnd ((h.1 rfl).mono fun _ _ h => .ret h)
theorem c_turn {elt : CE} {t : Tgt} {cond : Option CE} {x : D} {L' : Loc} {Q : Option D → St → Prop} (e : bindT t x L = some L') (h : ∀ Q', Hg Q' Q → W (evC c L' cond σ) fun b σ => (b = true → W (ev c L' elt σ) fun y σ => Q' (some y) σ) ∧ (b = false → Q' none σ)) : W (turn c L elt t cond x σ) Q :=
 c_turn0 e (h Q fun _ _ h => h)
theorem c_turn1 {elt : CE} {t : Tgt} {x : D} {L' : Loc} {Q : Option D → St → Prop} (e : bindT t x L = some L') (h : ∀ Q', Hg Q' Q → W (ev c L' elt σ) fun y σ => Q' (some y) σ) : W (turn c L elt t none x σ) Q :=
 c_turn0 e (eC_none ⟨fun _ => h Q fun _ _ h => h, nofun⟩)
theorem compGo_inv {ok : St → Bool} {turn : D → St → Option (Option D × St)} {Q : List D → St → Prop} (P : List D → List D → St → Prop) (hend : ∀ acc σ, P [] acc σ → ok σ = true ∧ Q acc σ)
  (hstep : ∀ d ds acc σ, P (d :: ds) acc σ → ok σ = true ∧ W (turn d σ) fun r σ' => P ds (acc ++ r.toList) σ') : ∀ {xs acc : List D} {σ : St}, P xs acc σ → W (compGo ok turn xs acc σ) Q := by
 intro xs
 induction xs with
 | nil => intro acc σ h; have h := hend _ _ h; exact W.gd h.1 (W.ret h.2)
 | cons d ds ih => intro acc σ h; have h := hstep _ _ _ _ h; exact W.gd h.1 (W.bnd (h.2.mono fun _ _ h => ih h))
theorem mem_mid {α : Type} {as bs xs : List α} {a : α} (h : as ++ a :: bs = xs) : a ∈ xs := h ▸ List.mem_append_right _ (.head _)
theorem lt_mid {α : Type} {as bs xs : List α} {a : α} (h : as ++ a :: bs = xs) : as.length < xs.length := by rw [← h, List.length_append]; exact Nat.lt_add_of_pos_right (Nat.succ_pos _)
theorem compGo_map {α : Type} {f : α → D} {ok : St → Bool} {turn : D → St → Option (Option D × St)} {Q : List D → St → Prop} (P : List α → List D → St → Prop) {xs : List α} (hend : ∀ acc σ, P xs acc σ → ok σ = true ∧ Q acc σ)
  (hstep : ∀ done a rest acc σ, done ++ a :: rest = xs → P done acc σ → ok σ = true ∧ W (turn (f a) σ) fun r σ' => P (done ++ [a]) (acc ++ r.toList) σ') {σ : St} (h : P [] [] σ) : W (compGo ok turn (xs.map f) [] σ) Q := by
 suffices key : ∀ (rest done : List α) (acc : List D) (σ : St), xs = done ++ rest → P done acc σ → W (compGo ok turn (rest.map f) acc σ) Q from key xs [] [] σ rfl h
 intro rest
 induction rest with
 | nil => intro done acc σ e h; rw [List.append_nil] at e; have h := hend acc σ (e ▸ h); exact W.gd h.1 (W.ret h.2)
 | cons a rest ih =>
  intro done acc σ e h
  have h := hstep done a rest acc σ e.symm h
  have e : xs = (done ++ [a]) ++ rest := by rw [List.append_assoc]; exact e
  exact W.gd h.1 (W.bnd (h.2.mono fun _ σ h => ih _ _ σ e h))
theorem comp_fil {α : Type} {enc g : α → D} {p : α → Bool} {ok : St → Bool} {turn : D → St → Option (Option D × St)} {Q : List D → St → Prop} (I : St → Prop) {xs : List α} (hok : ∀ σ, I σ → ok σ = true)
  (ht : ∀ a σ, a ∈ xs → I σ → W (turn (enc a) σ) fun r σ' => I σ' ∧ r = cond (p a) (some (g a)) none) (k : ∀ σ, I σ → Q ((xs.filter p).map g) σ) {σ : St} (h : I σ) : W (compGo ok turn (xs.map enc) [] σ) Q := by
 refine compGo_map (fun dn acc σ => I σ ∧ acc = (dn.filter p).map g) (fun acc σ h => ⟨hok σ h.1, h.2 ▸ k σ h.1⟩) (fun dn a rest acc σ e h => ⟨hok σ h.1, (ht a σ (mem_mid e) h.1).mono fun r σ' h' => ⟨h'.1, ?_⟩⟩) ⟨h, rfl⟩
 rw [h.2, h'.2, List.filter_append, List.map_append, List.filter_cons]
 cases p a <;> rfl
theorem comp_all {α : Type} {enc g : α → D} {ok : St → Bool} {turn : D → St → Option (Option D × St)} {Q : List D → St → Prop} (I : St → Prop) {xs : List α} (hok : ∀ σ, I σ → ok σ = true)
  (ht : ∀ a σ, a ∈ xs → I σ → W (turn (enc a) σ) fun r σ' => I σ' ∧ r = some (g a)) (k : ∀ σ, I σ → Q (xs.map g) σ) {σ : St} (h : I σ) : W (compGo ok turn (xs.map enc) [] σ) Q :=
 comp_fil (p := fun _ => true) I hok ht (fun σ h => by rw [List.filter_eq_self.mpr fun _ _ => rfl]; exact k σ h) h
theorem compGo_range {m : Nat} {ok : St → Bool} {turn : D → St → Option (Option D × St)} {Q : List D → St → Prop} (P : Nat → List D → St → Prop) (hok : ∀ σ, ok σ = true) (hend : ∀ acc σ, P m acc σ → Q acc σ)
  (hstep : ∀ j acc σ, j < m → P j acc σ → W (turn (.int (j : Nat)) σ) fun r σ' => P (j + 1) (acc ++ r.toList) σ') {σ : St} (h : P 0 [] σ) : W (compGo ok turn ((List.range m).map fun (j : Nat) => D.int (j : Int)) [] σ) Q := by
 refine compGo_map (fun done => P done.length) (fun L σ h => ⟨hok σ, hend L σ (by rwa [List.length_range] at h)⟩) (fun done a rest L σ e h => ⟨hok σ, ?_⟩) h
 have l := congrArg (·[done.length]?) e.symm
 rw [List.getElem?_append_right (Nat.le_refl _), Nat.sub_self, List.getElem?_cons_zero] at l
 obtain ⟨hl, e⟩ := List.getElem?_eq_some_iff.mp l
 rw [List.getElem_range] at e
 subst e
 rw [List.length_range] at hl
 refine (hstep _ L σ hl h).mono fun f σ h => ?_
 rw [List.length_append]
 exact h
end

noncomputable def Nx (c : Callee) (r : List CS) (Q : Fl → St → Prop) (f : Fl) (σ : St) : Prop := match f with
 | .next L => W (exs c r L σ) Q
 | .cont L => Q (.cont L) σ
 | .ret d => Q (.ret d) σ
noncomputable def Nn (d : D) : Prop := idle d = true
noncomputable def xturn (c : Callee) (t : Tgt) (body : List CS) (x : D) (L : Loc) (σ : St) : Option (Fl × St) := (setT t x L).bind fun L' => exs c body L' σ
noncomputable abbrev stepS (c : Callee) (L : Loc) (σ : St) (s : CS) (r : List CS) (Q : Fl → St → Prop) : Prop := match s with
 | .stuck => False
 | .expr e => W (ev c L e σ) fun d σ => Nn d ∧ W (exs c r L σ) Q
 | .assign x e => W (ev c L e σ) fun d σ => W (exs c r (setL x d L) σ) Q
 | .assign2 x y e => W (ev c L e σ) fun d σ => PAs2 d fun a b => W (exs c r (setL y b (setL x a L)) σ) Q
 | .setItem o i e => W (ev c L e σ) fun v σ => W (ev c L o σ) fun d σ => W (ev c L i σ) fun k σ => PSetI σ d k v fun σ => W (exs c r L σ) Q
 | .setAttr o a e => W (ev c L e σ) fun v σ => W (ev c L o σ) fun d σ => PSetA σ d a v fun σ => W (exs c r L σ) Q
 | .ret e => W (ev c L e σ) fun d σ => Q (.ret d) σ
 | .ite t b o => W (ev c L t σ) fun d σ => Br (truth σ d) (W (exs c b L σ) (Nx c r Q)) (W (exs c o L σ) (Nx c r Q))
 | .loop t range it body => W (ev c L it σ) fun d σ => Wm (itemsOf range d σ) fun xs => W (forGo (fun σ => stillR range σ xs d) (xturn c t body) xs L σ) (Nx c r Q)
 | .cont => Q (.cont L) σ
section
variable {c : Callee} {L : Loc} {σ : St} {r : List CS} {Q : Fl → St → Prop}
theorem Nx.next (h : W (exs c r L σ) Q) : Nx c r Q (.next L) σ := h
theorem Nx.ret {d : D} (h : Q (.ret d) σ) : Nx c r Q (.ret d) σ := h
theorem Nx.cont (h : Q (.cont L) σ) : Nx c r Q (.cont L) σ := h
theorem x_nil (h : Q (.next L) σ) : W (exs c [] L σ) Q := by exact W.ret h
theorem x_cons {s : CS} (h : W (ex c s L σ) (Nx c r Q)) : W (exs c (s :: r) L σ) Q := by
 refine W.bnd (h.mono fun f σ h => ?_)
 cases f with
 | next L => exact h
 | cont L => exact W.ret h
 | ret d => exact W.ret h
theorem x_step {s : CS} (h : stepS c L σ s r Q) : W (exs c (s :: r) L σ) Q := by
 refine x_cons ?_
 cases s with
 | stuck => exact h.elim
 | expr => exact W.bnd (h.mono fun _ _ h => W.gd h.1 (W.ret h.2))
 | assign => exact W.bnd (h.mono fun _ _ h => .ret h)
 | assign2 => exact W.bnd (h.mono fun _ _ h => by obtain ⟨a, b, rfl, h⟩ := h; exact W.ret h)
 | setItem =>
  refine W.bnd (h.mono fun v _ h => .bnd (h.mono fun _ _ h => .bnd (h.mono fun _ _ h => ?_)))
  cases h with
  | list j xs n e f g l k q => subst e f; rw [onRef_ref, g]; exact W.gd k (W.put l q.it)
  | dict j es e g l k q => subst e; rw [onRef_ref, g]; exact W.gd k (W.put l q.it)
 | setAttr => exact W.bnd (h.mono fun v _ h => .bnd (h.mono fun _ _ h => by obtain ⟨j, C, fs, rfl, g, l, k, q⟩ := h; exact W.bi (at_ins g) (W.gd k (W.put l q.it))))
 | ret => exact W.bnd (h.mono fun _ _ h => .ret h)
 | ite => exact W.bnd (h.mono fun _ _ h => br_if h)
 | loop => exact W.bnd (h.mono fun _ _ h => by obtain ⟨xs, e, q⟩ := h; exact W.bi e q)
 | cont => exact W.ret h
theorem x_assign {x : String} {e : CE} (h : W (ev c L e σ) fun d σ => W (exs c r (setL x d L) σ) Q) : W (exs c (.assign x e :: r) L σ) Q := x_step (s := .assign x e) h
theorem x_ret1 {e : CE} {d : D} (p : Pv L e d) (h : Q (.ret d) σ) : W (exs c (.ret e :: r) L σ) Q := x_step (s := .ret e) (e_p p h)
theorem x_ite {t : CE} {b o : List CS} (h : W (ev c L t σ) fun d σ => Br (truth σ d) (W (exs c b L σ) (Nx c r Q)) (W (exs c o L σ) (Nx c r Q))) : W (exs c (.ite t b o :: r) L σ) Q := x_step (s := .ite t b o) h
theorem x_loop {t : Tgt} {range : Bool} {it : CE} {body : List CS} (h : W (ev c L it σ) fun d σ => Wm (itemsOf range d σ) fun xs => W (forGo (fun σ => stillR range σ xs d) (xturn c t body) xs L σ) (Nx c r Q)) : W (exs c (.loop t range it body :: r) L σ) Q := x_step (s := .loop t range it body) h
theorem x_turn1 {x : String} {body : List CS} {d : D} (h : ∀ Q', Hg Q' Q → W (exs c body (setL x d L) σ) Q') : W (xturn c (.one x) body d L σ) Q := h Q fun _ _ h => h
theorem x_turn2 {x y : String} {body : List CS} {a b : D} (h : ∀ Q', Hg Q' Q → W (exs c body (setL y b (setL x a L)) σ) Q') : W (xturn c (.two x y) body (.tup [a, b]) L σ) Q := h Q fun _ _ h => h
noncomputable def Tn (P : Loc → St → Prop) (Q : Fl → St → Prop) (f : Fl) (σ : St) : Prop := match f with
 | .next L => P L σ
 | .cont L => P L σ
 | .ret d => Q (.ret d) σ
theorem Tn.next {P : Loc → St → Prop} (h : P L σ) : Tn P Q (.next L) σ := h
theorem Tn.cont {P : Loc → St → Prop} (h : P L σ) : Tn P Q (.cont L) σ := h
theorem Tn.ret {P : Loc → St → Prop} {d : D} (h : Q (.ret d) σ) : Tn P Q (.ret d) σ := h
theorem forGo_inv {ok : St → Bool} {turn : D → Loc → St → Option (Fl × St)} (P : List D → Loc → St → Prop) (hend : ∀ L σ, P [] L σ → ok σ = true ∧ Q (.next L) σ)
  (hstep : ∀ d ds L σ, P (d :: ds) L σ → ok σ = true ∧ W (turn d L σ) (Tn (P ds) Q)) : ∀ {xs : List D} {L : Loc} {σ : St}, P xs L σ → W (forGo ok turn xs L σ) Q := by
 intro xs
 induction xs with
 | nil => intro L σ h; have h := hend _ _ h; exact W.gd h.1 (W.ret h.2)
 | cons d ds ih =>
  intro L σ h
  have h := hstep _ _ _ _ h
  refine W.gd h.1 (W.bnd (h.2.mono fun f σ h => ?_))
  cases f with
  | next L => exact ih h
  | cont L => exact ih h
  | ret d => exact W.ret h
theorem forGo_map {α : Type} {f : α → D} {ok : St → Bool} {turn : D → Loc → St → Option (Fl × St)} (P : List α → Loc → St → Prop) {xs : List α} (hend : ∀ L σ, P xs L σ → ok σ = true ∧ Q (.next L) σ)
  (hstep : ∀ done a rest L σ, done ++ a :: rest = xs → P done L σ → ok σ = true ∧ W (turn (f a) L σ) (Tn (P (done ++ [a])) Q)) {L : Loc} {σ : St} (h : P [] L σ) : W (forGo ok turn (xs.map f) L σ) Q := by
 suffices key : ∀ (rest done : List α) (L : Loc) (σ : St), xs = done ++ rest → P done L σ → W (forGo ok turn (rest.map f) L σ) Q from key xs [] L σ rfl h
 intro rest
 induction rest with
 | nil => intro done L σ e h; rw [List.append_nil] at e; have h := hend L σ (e ▸ h); exact W.gd h.1 (W.ret h.2)
 | cons a rest ih =>
  intro done L σ e h
  have h := hstep done a rest L σ e.symm h
  have e : xs = (done ++ [a]) ++ rest := by rw [List.append_assoc]; exact e
  refine W.gd h.1 (W.bnd (h.2.mono fun f σ h => ?_))
  cases f with
  | next L => exact ih _ L σ e h
  | cont L => exact ih _ L σ e h
  | ret d => exact W.ret h
theorem forGo_range {m : Nat} {ok : St → Bool} {turn : D → Loc → St → Option (Fl × St)} (P : Nat → Loc → St → Prop) (hok : ∀ σ, ok σ = true) (hend : ∀ L σ, P m L σ → Q (.next L) σ)
  (hstep : ∀ j L σ, j < m → P j L σ → W (turn (.int (j : Nat)) L σ) (Tn (P (j + 1)) Q)) {L : Loc} {σ : St} (h : P 0 L σ) : W (forGo ok turn ((List.range m).map fun (j : Nat) => D.int (j : Int)) L σ) Q := by
 refine forGo_map (fun done => P done.length) (fun L σ h => ⟨hok σ, hend L σ (by rwa [List.length_range] at h)⟩) (fun done a rest L σ e h => ⟨hok σ, ?_⟩) h
 have l := congrArg (·[done.length]?) e.symm
 rw [List.getElem?_append_right (Nat.le_refl _), Nat.sub_self, List.getElem?_cons_zero] at l
 obtain ⟨hl, e⟩ := List.getElem?_eq_some_iff.mp l
 rw [List.getElem_range] at e
 subst e
 rw [List.length_range] at hl
 refine (hstep _ L σ hl h).mono fun f σ h => ?_
 rw [List.length_append]
 exact h
end

theorem f_call {fns : String → Option Fn} {n : Nat} {f : String} {fn : Fn} {args : List D} {σ : St} {Q : D → St → Prop} (e : fns f = some fn) (l : (args ++ fn.extra).length = fn.params.length)
  (h : W (exs (callF fns n) fn.body (fn.params.zip (args ++ fn.extra)) σ) fun f σ => (match f with | .ret d => Q d σ | .next _ => Q .none σ | .cont _ => False)) : W (callF fns (n + 1) f args σ) Q := by
 refine W.bi e (W.gd l (W.bnd (h.mono fun f σ q => ?_)))
 cases f with
 | ret d => exact W.ret q
 | next L => exact W.ret q
 | cont L => exact q.elim

section
variable {Q : D → St → Prop} {σ : St}
theorem b_add {a b : Int} (h : Q (.int (a + b)) σ) : W (bin .add (.int a) (.int b) σ) Q := .ret h
theorem b_sub {a b : Int} (h : Q (.int (a - b)) σ) : W (bin .sub (.int a) (.int b) σ) Q := .ret h
theorem b_mul {a b : Int} (k : a.natAbs < 2 ^ 60 ∧ b.natAbs < 2 ^ 60) (h : Q (.int (a * b)) σ) : W (bin .mul (.int a) (.int b) σ) Q := by
 exact W.gm k h
theorem b_fdiv {a b : Int} (k : 0 < b ∧ b < 1000000) (h : Q (.int (a.fdiv b)) σ) : W (bin .fdiv (.int a) (.int b) σ) Q := by
 exact W.gm k h
theorem b_mod {a b : Int} (k : 0 < b ∧ b < 1000000) (h : Q (.int (a.fmod b)) σ) : W (bin .mod (.int a) (.int b) σ) Q := by
 exact W.gm k h
theorem b_cat {i j : Nat} {xs ys : List D} (g : σ[i]? = some (.list xs)) (g' : σ[j]? = some (.list ys)) (l : xs.length + ys.length ≤ big) (h : Wn σ (.list (xs ++ ys)) Q) : W (bin .add (.ref i) (.ref j) σ) Q := by
 exact W.bi (at_lst g) (W.bi (at_lst g') (W.gd l (W.ret h.it)))
variable {P : Bool → Prop}
theorem q_eqI {a b : Int} (h : P (decide (a = b))) : Wm (cmp .eq (.int a) (.int b) σ) P := .ret h
theorem q_neI {a b : Int} (h : P (!decide (a = b))) : Wm (cmp .ne (.int a) (.int b) σ) P := .ret h
theorem q_lt {a b : Int} (h : P (decide (a < b))) : Wm (cmp .lt (.int a) (.int b) σ) P := .ret h
theorem q_gt {a b : Int} (h : P (decide (a > b))) : Wm (cmp .gt (.int a) (.int b) σ) P := .ret h
theorem q_ge {a b : Int} (h : P (decide (a ≥ b))) : Wm (cmp .ge (.int a) (.int b) σ) P := .ret h
theorem q_eqB {a b : Bool} (h : P (a == b)) : Wm (cmp .eq (.bool a) (.bool b) σ) P := .ret h
theorem q_neB {a b : Bool} (h : P (!(a == b))) : Wm (cmp .ne (.bool a) (.bool b) σ) P := .ret h
noncomputable def isFlat : D → Bool
 | .int _ => true | .str _ => true | .tup _ => true | _ => false
theorem pyEq_flat {a b : D} (x : isFlat a = true) (fa : flat 6 a = true) (fb : flat 6 b = true) : pyEq σ a b = some (decide (a = b)) := by
 have k : gd ((flat 6 a && flat 6 b) = true) (some (D.beq a b)) = some (decide (a = b)) := by rw [gd_pos (by rw [fa, fb]; rfl), D.beq_eq]
 cases a <;> first | exact k | exact nof _ x
theorem q_eqF {a b : D} (x : isFlat a = true) (fa : flat 6 a = true) (fb : flat 6 b = true) (h : P (decide (a = b))) : Wm (cmp .eq a b σ) P := .of (pyEq_flat (σ := σ) x fa fb) h
theorem q_neF {a b : D} (x : isFlat a = true) (fa : flat 6 a = true) (fb : flat 6 b = true) (h : P (!decide (a = b))) : Wm (cmp .ne a b σ) P := .of (congrArg (Option.map (!·)) (pyEq_flat (σ := σ) x fa fb)) h
theorem any_beq {x : D} {ys : List D} : (ys.any fun y => D.beq y x) = decide (x ∈ ys) := by
 rw [Bool.eq_iff_iff]
 simp only [List.any_eq_true, decide_eq_true_eq, D.beq_iff]
 exact ⟨fun ⟨y, h, e⟩ => e ▸ h, fun h => ⟨x, h, rfl⟩⟩
theorem pyIn_tup {σ : St} {x : D} {ys : List D} (fx : flat 6 x = true) (fy : flats 6 ys = true) : pyIn σ x (.tup ys) = some (decide (x ∈ ys)) := by
 exact Eq.trans (gd_pos (by rw [fx, fy]; rfl)) (congrArg some any_beq)
theorem pyIn_list {x : D} {i : Nat} {ys : List D} (g : σ[i]? = some (.list ys)) (fx : flat 6 x = true) (fy : flats 6 ys = true) : pyIn σ x (.ref i) = some (decide (x ∈ ys)) := by
 exact Eq.trans (bi_eq g) (Eq.trans (gd_pos (by rw [fx, fy]; rfl)) (congrArg some any_beq))
theorem pyIn_dict {x : D} {i : Nat} {es : List (D × D)} (g : σ[i]? = some (.dict es)) (k : keysOk es x = true) : pyIn σ x (.ref i) = some (dfind es x).isSome := by
 exact Eq.trans (bi_eq g) (gd_pos k)
theorem q_inT {x : D} {ys : List D} (fx : flat 6 x = true) (fy : flats 6 ys = true) (h : P (decide (x ∈ ys))) : Wm (cmp .isin x (.tup ys) σ) P := .of (pyIn_tup (σ := σ) fx fy) h
theorem q_inL {x : D} {i : Nat} {ys : List D} (g : σ[i]? = some (.list ys)) (fx : flat 6 x = true) (fy : flats 6 ys = true) (h : P (decide (x ∈ ys))) : Wm (cmp .isin x (.ref i) σ) P := .of (pyIn_list g fx fy) h
theorem q_inD {x : D} {i : Nat} {es : List (D × D)} (g : σ[i]? = some (.dict es)) (k : keysOk es x = true) (h : P (dfind es x).isSome) : Wm (cmp .isin x (.ref i) σ) P := .of (pyIn_dict g k) h
theorem q_ninL {x : D} {i : Nat} {ys : List D} (g : σ[i]? = some (.list ys)) (fx : flat 6 x = true) (fy : flats 6 ys = true) (h : P (!decide (x ∈ ys))) : Wm (cmp .notin x (.ref i) σ) P :=
 .of ((gd_pos (by rw [show isDict σ (.ref i) = false from congrArg Option.isSome (bi_eq (f := Ob.dct) g)]; exact Bool.and_false _)).trans (congrArg (Option.map (!·)) (pyIn_list g fx fy))) h
theorem q_ninD {x : D} {i : Nat} {es : List (D × D)} (n : isTup x = false) (g : σ[i]? = some (.dict es)) (k : keysOk es x = true) (h : P (!(dfind es x).isSome)) : Wm (cmp .notin x (.ref i) σ) P :=
 .of ((gd_pos (by rw [n]; rfl)).trans (congrArg (Option.map (!·)) (pyIn_dict g k))) h
theorem q_truthB {v : Bool} (h : P v) : Wm (truth σ (.bool v)) P := .ret h
variable {Pd : D → Prop}
theorem i_tup {xs : List D} {i : Int} {d : D} (l : xs.length ≤ big) (e : nth xs i = some d) (h : Pd d) : Wm (item σ (.tup xs) (.int i)) Pd := .of ((gd_pos l).trans e) h
theorem i_lst {j : Nat} {xs : List D} {i : Int} {d : D} (g : σ[j]? = some (.list xs)) (k : 0 ≤ i ∧ xs.length ≤ big) (e : xs[i.toNat]? = some d) (h : Pd d) : Wm (item σ (.ref j) (.int i)) Pd := .of (Eq.trans (bi_eq g) (Eq.trans (gd_pos k) e)) h
theorem i_dict {j : Nat} {es : List (D × D)} {x d : D} (g : σ[j]? = some (.dict es)) (k : keysOk es x = true) (e : dfind es x = some d) (h : Pd d) : Wm (item σ (.ref j) x) Pd := .of (Eq.trans (bi_eq g) (Eq.trans (gd_pos k) e)) h
theorem t_seqL {i : Nat} {xs : List D} {P : List D → Prop} (g : σ[i]? = some (.list xs)) (l : xs.length ≤ big) (h : P xs) : Wm (itemsOf false (.ref i) σ) P := .of (Eq.trans (bi_eq (at_lst g)) (gd_pos l)) h
theorem t_seqT {xs : List D} {P : List D → Prop} (l : xs.length ≤ big) (h : P xs) : Wm (itemsOf false (.tup xs) σ) P := .of (gd_pos l) h
theorem t_range {n : Nat} {P : List D → Prop} (l : n ≤ 10000) (h : P ((List.range n).map fun (i : Nat) => D.int (i : Int))) : Wm (itemsOf true (.int (n : Int)) σ) P :=
 .of (gd_pos (x := some ((List.range n).map fun (i : Nat) => D.int (i : Int))) (by lia)) h
theorem still_list {i : Nat} {xs : List D} (g : σ[i]? = some (.list xs)) : stillR false σ xs (.ref i) = true := by
 show ((lst σ i).any fun ys => D.beqs ys xs) = true
 rw [at_lst g]; exact D.beqs_rfl xs
theorem len_lst {i : Nat} {xs : List D} (g : σ[i]? = some (.list xs)) (l : xs.length ≤ big) (h : Q (.int xs.length) σ) : W (bi .len (.ref i) σ) Q := by
 exact W.bi (at_lst g) (W.gd l (W.ret h))
theorem len_tup {xs : List D} (l : xs.length ≤ big) (h : Q (.int xs.length) σ) : W (bi .len (.tup xs) σ) Q := by
 exact W.gd l (W.ret h)
theorem boolsOf_map (bs : List Bool) : boolsOf (bs.map .bool) = some bs := by
 induction bs with
 | nil => rfl
 | cons b r ih => exact congrArg (Option.map (b :: ·)) ih
theorem any_lst {i : Nat} {bs : List Bool} (g : σ[i]? = some (.list (bs.map .bool))) (l : bs.length ≤ big) (h : Q (.bool (bs.any id)) σ) : W (bi .any (.ref i) σ) Q := by
 refine W.bi (at_lst g) (W.gd (by rw [List.length_map]; exact l) ?_); rw [boolsOf_map]; exact W.ret h
theorem tuple_lst {i : Nat} {xs : List D} (g : σ[i]? = some (.list xs)) (l : xs.length ≤ big) (h : Q (.tup xs) σ) : W (bi .tuple (.ref i) σ) Q := by
 exact W.bi (at_lst g) (W.gd l (W.ret h))
theorem intsOf_map (bs : List Int) : intsOf (bs.map .int) = some bs := by
 induction bs with
 | nil => rfl
 | cons b r ih => exact congrArg (Option.map (b :: ·)) ih
theorem sorted_lst {i : Nat} {ns : List Int} (g : σ[i]? = some (.list (ns.map .int))) (l : ns.length < 64) (h : Wn σ (.list ((ns.mergeSort (fun a b => decide (a ≤ b))).map .int)) Q) : W (bi .sorted (.ref i) σ) Q := by
 exact W.bi g (W.bi (intsOf_map ns) (W.gd l (W.ret h.it)))
theorem sorted_dict {i : Nat} {es : List (D × D)} {ns : List Int} (g : σ[i]? = some (.dict es)) (e : es.map (·.1) = ns.map .int) (l : ns.length < 64) (h : Wn σ (.list ((ns.mergeSort (fun a b => decide (a ≤ b))).map .int)) Q) : W (bi .sorted (.ref i) σ) Q := by
 exact W.bi g (W.bi ((congrArg intsOf e).trans (intsOf_map ns)) (W.gd l (W.ret h.it)))
end

theorem lk_set {x : String} {d : D} {L : Loc} : (setL x d L).lookup x = some d := (lookup_setL x d L x).trans (if_pos rfl)
theorem lk_ne {x y : String} {d : D} (h : (x == y) = false) {L : Loc} : (setL y d L).lookup x = L.lookup x := (lookup_setL y d L x).trans (if_neg (beq_eq_false_iff_ne.mp h))
theorem lk_setne {x y : String} {d e : D} {L : Loc} (h : (x == y) = false) (k : L.lookup x = some e) : (setL y d L).lookup x = some e := (lk_ne h).trans k
theorem lk_there {x y : String} {d e : D} {L : Loc} (h : (x == y) = false) (k : L.lookup x = some e) : List.lookup x ((y, d) :: L) = some e := by
 rw [List.lookup_cons, h]; exact k
noncomputable def Ag (ws : List String) (L0 L : Loc) : Prop := ∀ x, ws.contains x = false → L.lookup x = L0.lookup x
theorem Ag.refl {ws : List String} {L : Loc} : Ag ws L L := fun _ _ => rfl
theorem Ag.set {ws : List String} {L0 L : Loc} {x : String} {d : D} (h : Ag ws L0 L) (k : ws.contains x = true) : Ag ws L0 (setL x d L) := fun y hy => by
 have : (y == x) = false := by
  rw [beq_eq_false_iff_ne]; rintro rfl; rw [k] at hy; cases hy
 rw [lk_ne this]; exact h y hy
theorem Ag.look {ws : List String} {L0 L : Loc} {x : String} {d : D} (h : Ag ws L0 L) (k : ws.contains x = false) (e : L0.lookup x = some d) : L.lookup x = some d := (h x k).trans e
theorem Ag.trans {ws : List String} {L0 L L' : Loc} (h : Ag ws L0 L) (k : Ag ws L L') : Ag ws L0 L' := fun x hx => (k x hx).trans (h x hx)
end Mine
end

section
namespace Mine
section
open CE CS
@[reducible] noncomputable def f_law_atoms : Fn := ⟨["tab"], [], [.assign "shape" (.meth (.var "tab") "put" [("TypeTable", "TypeTable.put")] [(.tup [(.lit (.int 8)), (.tup [(.tup [(.lit (S "a")), (.lit (.int 3)), (.lit (.int 0)), (.lit (.int 0))])]), (.tup []), (.tup []), (.tup []), (.tup []), (.lit (.int 0))])]), .ret (.dict [Str.ofString "void", Str.ofString "undefined", Str.ofString "null", Str.ofString "string", Str.ofString "number", Str.ofString "true", Str.ofString "object", Str.ofString "{}", Str.ofString "any", Str.ofString "unknown", Str.ofString "error", Str.ofString "never", Str.ofString "shape", Str.ofString "text", Str.ofString "three", Str.ofString "list", Str.ofString "func", Str.ofString "template", Str.ofString "T[K]", Str.ofString "keys", Str.ofString "question"] [(.lit (.int 3)), (.lit (.int 4)), (.lit (.int 5)), (.lit (.int 6)), (.lit (.int 7)), (.lit (.int 9)), (.lit (.int 10)), (.lit (.int 11)), (.lit (.int 0)), (.lit (.int 1)), (.lit (.int 13)), (.lit (.int 2)), (.var "shape"), (.meth (.var "tab") "put" [("TypeTable", "TypeTable.put")] [(.tup [(.lit (.int 3)), (.lit (S "a")), (.lit (.int 0))])]), (.meth (.var "tab") "put" [("TypeTable", "TypeTable.put")] [(.tup [(.lit (.int 4)), (.lit (.int 3)), (.lit (.int 0))])]), (.meth (.var "tab") "put" [("TypeTable", "TypeTable.put")] [(.tup [(.lit (.int 11)), (.lit (.int 3)), (.lit (.int 0))])]), (.meth (.var "tab") "put" [("TypeTable", "TypeTable.put")] [(.tup [(.lit (.int 13)), (.tup []), (.tup []), (.lit (.int 3)), (.tup []), (.lit (.int 0))])]), (.meth (.var "tab") "put" [("TypeTable", "TypeTable.put")] [(.tup [(.lit (.int 18)), (.tup [(.lit (S "x")), (.lit (S ""))]), (.tup [(.lit (.int 6))])])]), (.meth (.var "tab") "put" [("TypeTable", "TypeTable.put")] [(.tup [(.lit (.int 15)), (.var "shape"), (.lit (.int 6))])]), (.meth (.var "tab") "put" [("TypeTable", "TypeTable.put")] [(.tup [(.lit (.int 14)), (.var "shape")])]), (.meth (.var "tab") "put" [("TypeTable", "TypeTable.put")] [(.tup [(.lit (.int 16)), (.lit (.int 6)), (.lit (.int 7)), (.lit (.int 3)), (.lit (.int 3)), (.tup []), (.lit (.int 0))])])])]⟩
@[reducible] noncomputable def f_law_bare : Fn := ⟨["bounds", "place"], [], [.assign "bound" (.sub (.var "bounds") (.var "place")), .ite (.or [(.isNone (.var "bound") true), (.cmp .eq (.var "bound") (.tup [(.lit (S "p")), (.var "place")]))]) [.ret (.lit (.bool true))] [], .ret (.and [(.cmp .eq (.sub (.var "bound") (.lit (.int 0))) (.lit (S "|"))), (.call "_law_top" [(.sub (.var "bound") (.lit (.int 1)))])])]⟩
@[reducible] noncomputable def f_law_bounds : Fn := ⟨["d"], [], [.assign "many" (.sub (.list [(.lit (.int 2)), (.lit (.int 12)), (.lit (.int 13)), (.lit (.int 1)), (.lit (.int 3)), (.lit (.int 11)), (.lit (.int 5)), (.lit (.int 14))]) (.call "_law_take" [(.var "d"), (.lit (.int 8))])), .assign "form" (.call "_law_take" [(.var "d"), (.lit (.int 6))]), .assign "at" (.call "_law_take" [(.var "d"), (.var "many")]), .assign "wide" (.tup [(.lit (S "|")), (.tup [(.tup [(.lit (S "a")), (.call "_law_name" [(.var "d"), (.lit (.int 20))])]), (.tup [(.lit (S "a")), (.call "_law_name" [(.var "d"), (.lit (.int 20))])])])]), .assign "out" (.list [(.lit .none), (.lit (.tup [(S "a"), (S "void")])), (.tup [(.lit (S "|")), (.tup [(.lit (.tup [(S "a"), (S "void")])), (.tup [(.lit (S "a")), (.lit (S "text"))])])]), (.var "wide"), (.tup [(.lit (S "&")), (.tup [(.tup [(.lit (S "p")), (.lit (.int 0))]), (.tup [(.lit (S "p")), (.lit (.int 1))])])])]), .loop (.one "place") true (.bin .sub (.var "many") (.lit (.int 1))) [.assign "on" (.tup [(.lit (S "p")), (.bin .add (.lit (.int 6)) (.var "place"))]), .ite (.and [(.cmp .eq (.var "form") (.lit (.int 1))), (.cmp .eq (.bin .mod (.var "place") (.lit (.int 2))) (.lit (.int 0)))]) [.assign "on" (.tup [(.lit (S "|")), (.tup [(.var "on"), (.tup [(.lit (S "a")), (.lit (S "null"))])])])] [.ite (.and [(.cmp .eq (.var "form") (.lit (.int 2))), (.cmp .eq (.var "place") (.var "at"))]) [.assign "on" (.tup [(.lit (S "&")), (.tup [(.var "on"), (.tup [(.lit (S "p")), (.lit (.int 0))])])])] [.ite (.cmp .eq (.var "form") (.lit (.int 3))) [.assign "on" (.tup [(.lit (S "&")), (.tup [(.var "on"), (.tup [(.lit (S "p")), (.lit (.int 1))])])])] [.ite (.and [(.cmp .eq (.var "form") (.lit (.int 4))), (.cmp .eq (.var "place") (.var "at"))]) [.assign "on" (.tup [(.lit (S "|")), (.tup [(.tup [(.lit (S "a")), (.lit (S "undefined"))]), (.tup [(.lit (S "&")), (.tup [(.tup [(.lit (S "p")), (.lit (.int 1))]), (.var "on")])])])])] [.ite (.and [(.cmp .eq (.var "form") (.lit (.int 5))), (.cmp .eq (.var "place") (.var "at"))]) [.assign "on" (.tup [(.lit (S "&")), (.tup [(.tup [(.lit (S "p")), (.lit (.int 3))]), (.var "on")])])] []]]]], .expr (.append (.var "out") (.var "on"))], .assign "end" (.call "_law_take" [(.var "d"), (.lit (.int 5))]), .ite (.cmp .eq (.var "end") (.lit (.int 1))) [.expr (.append (.var "out") (.tup [(.lit (S "|")), (.tup [(.tup [(.lit (S "a")), (.call "_law_name" [(.var "d"), (.lit (.int 20))])]), (.tup [(.lit (S "a")), (.call "_law_name" [(.var "d"), (.lit (.int 20))])])])]))] [.ite (.cmp .eq (.var "end") (.lit (.int 3))) [.expr (.append (.var "out") (.tup [(.lit (S "p")), (.bin .add (.lit (.int 5)) (.call "_law_take" [(.var "d"), (.var "many")]))]))] [.expr (.append (.var "out") (.sub (.list [(.lit (.tup [(S "a"), (S "void")])), (.lit .none), (.lit .none), (.lit .none), (.tup [(.lit (S "|")), (.tup [(.tup [(.lit (S "a")), (.lit (S "undefined"))]), (.tup [(.lit (S "p")), (.lit (.int 2))])])])]) (.var "end")))]], .ret (.var "out")]⟩
@[reducible] noncomputable def f_law_cut : Fn := ⟨["parts", "row"], [], [.ite (.cmp .isin (.lit (.tup [(S "a"), (S "void")])) (.var "parts")) [.ret (.list [(.lit (S "void"))])] [], .assign "out" (.list [(.lit (S "*"))]), .loop (.one "one") false (.var "parts") [.assign "said" (.call "_law_words" [(.var "one"), (.var "row"), (.var "row")]), .ite (.cmp .notin (.lit (S "*")) (.var "said")) [.assign "out" (.ite (.cmp .eq (.var "out") (.list [(.lit (S "*"))])) (.var "said") (.comp (.var "word") (.one "word") false (.var "out") (.some (.cmp .isin (.var "word") (.var "said")))))] []], .ret (.var "out")]⟩
@[reducible] noncomputable def f_law_holds : Fn := ⟨["w", "term", "deep"], [], [.assign "left" (.max (.bin .sub (.lit (.int 12)) (.var "deep")) (.lit (.int 0))), .ret (.cmp .isin (.lit (S "void")) (.call "_law_words" [(.var "term"), (.sub (.sub (.var "w") (.lit (S "rows"))) (.var "left")), (.sub (.sub (.var "w") (.lit (S "rows"))) (.max (.bin .sub (.var "left") (.lit (.int 1))) (.lit (.int 0))))]))]⟩
@[reducible] noncomputable def f_law_loses : Fn := ⟨["w", "host", "one", "other"], [], [.assign "held" (.call "_law_holds" [(.var "w"), (.var "one"), (.lit (.int 0))]), .assign "left" (.call "_law_holds" [(.var "w"), (.var "other"), (.lit (.int 0))]), .assign "t" (.call "_law_type" [(.var "w"), (.var "one"), (.lit (.bool false))]), .assign "later" (.call "_law_type" [(.var "w"), (.var "other"), (.lit (.bool false))]), .ite (.or [(.cmp .ne (.call "loses_void" [(.var "host"), (.var "t"), (.var "later")]) (.and [(.var "held"), (.not (.var "left"))])), (.cmp .ne (.call "loses_void" [(.var "host"), (.var "later"), (.var "t")]) (.and [(.var "left"), (.not (.var "held"))]))]) [.ret (.lit (.bool false))] [], .ret (.and [(.cmp .eq (.call "loses_void" [(.var "host"), (.var "t"), (.var "t")]) (.lit (.bool false))), (.cmp .eq (.call "loses_void" [(.var "host"), (.var "t"), (.lit (.int 2))]) (.var "held"))])]⟩
@[reducible] noncomputable def f_law_meet : Fn := ⟨["d", "many"], [], [.assign "told" (.sub (.list [(.lit (S "")), (.lit (S "")), (.lit (S "void")), (.lit (S "undefined")), (.lit (S "")), (.lit (S "string")), (.lit (S "shape")), (.lit (S "{}"))]) (.call "_law_take" [(.var "d"), (.lit (.int 8))])), .assign "parts" (.ite (.cmp .eq (.var "told") (.lit (S ""))) (.list []) (.list [(.tup [(.lit (S "a")), (.var "told")])])), .loop (.one "go") true (.bin .add (.lit (.int 2)) (.call "_law_take" [(.var "d"), (.lit (.int 2))])) [.assign "pick" (.call "_law_take" [(.var "d"), (.lit (.int 9))]), .ite (.cmp .eq (.var "pick") (.lit (.int 5))) [.assign "one" (.tup [(.lit (S "p")), (.bin .add (.lit (.int 5)) (.call "_law_take" [(.var "d"), (.var "many")]))])] [.ite (.cmp .gt (.var "pick") (.lit (.int 5))) [.assign "one" (.tup [(.lit (S "a")), (.sub (.list [(.lit (S "T[K]")), (.lit (S "keys")), (.lit (S "question"))]) (.bin .sub (.var "pick") (.lit (.int 6))))])] [.assign "one" (.tup [(.lit (S "p")), (.sub (.list [(.lit (.int 1)), (.lit (.int 0)), (.lit (.int 2)), (.lit (.int 3)), (.lit (.int 4))]) (.var "pick"))])]], .ite (.cmp .notin (.var "one") (.var "parts")) [.expr (.append (.var "parts") (.var "one"))] []], .assign "at" (.call "_law_take" [(.var "d"), (.bi .len (.var "parts"))]), .assign "parts" (.bin .add (.slice (.var "parts") (.some (.var "at")) .none) (.slice (.var "parts") .none (.some (.var "at")))), .ret (.ite (.cmp .eq (.bi .len (.var "parts")) (.lit (.int 1))) (.sub (.var "parts") (.lit (.int 0))) (.tup [(.lit (S "&")), (.bi .tuple (.var "parts"))]))]⟩
@[reducible] noncomputable def f_law_name : Fn := ⟨["d", "n"], [], [.assign "names" (.list [(.lit (S "void")), (.lit (S "undefined")), (.lit (S "string")), (.lit (S "text")), (.lit (S "T[K]")), (.lit (S "null")), (.lit (S "shape")), (.lit (S "number")), (.lit (S "question")), (.lit (S "three")), (.lit (S "keys"))]), .expr (.extend (.var "names") (.list [(.lit (S "true")), (.lit (S "object")), (.lit (S "{}")), (.lit (S "list")), (.lit (S "func")), (.lit (S "template")), (.lit (S "any")), (.lit (S "unknown")), (.lit (S "error")), (.lit (S "never"))])), .ret (.sub (.var "names") (.call "_law_take" [(.var "d"), (.var "n")]))]⟩
@[reducible] noncomputable def f_law_opened : Fn := ⟨["w", "host", "bounds", "lone"], [], [.loop (.one "place") true (.bi .len (.var "bounds")) [.assign "told" (.tup []), .ite (.not (.sub (.var "lone") (.var "place"))) [.assign "bound" (.call "_law_type" [(.var "w"), (.sub (.var "bounds") (.var "place")), (.lit (.bool false))]), .assign "told" (.ite (.cmp .eq (.sub (.sub (.attr (.sub (.var "w") (.lit (S "tab"))) "rows") (.var "bound")) (.lit (.int 0))) (.lit (.int 6))) (.sub (.sub (.attr (.sub (.var "w") (.lit (S "tab"))) "rows") (.var "bound")) (.lit (.int 1))) (.tup [(.var "bound")]))] [], .ite (.cmp .ne (.call "bound_parts" [(.var "host"), (.sub (.sub (.var "w") (.lit (S "params"))) (.var "place"))]) (.var "told")) [.ret (.lit (.bool false))] []], .ret (.and [(.cmp .eq (.call "bound_parts" [(.var "host"), (.sub (.sub (.var "w") (.lit (S "atoms"))) (.lit (S "T[K]")))]) (.tup [])), (.cmp .eq (.call "bound_parts" [(.var "host"), (.sub (.sub (.var "w") (.lit (S "atoms"))) (.lit (S "question")))]) (.tup []))])]⟩
@[reducible] noncomputable def f_law_pieces : Fn := ⟨["d", "w"], [], [.assign "out" (.list []), .loop (.one "go") true (.bin .add (.lit (.int 1)) (.call "_law_take" [(.var "d"), (.lit (.int 4))])) [.assign "pick" (.call "_law_take" [(.var "d"), (.lit (.int 8))]), .ite (.cmp .lt (.var "pick") (.lit (.int 5))) [.expr (.append (.var "out") (.call "_law_template" [(.var "d"), (.var "w")]))] [.ite (.cmp .lt (.var "pick") (.lit (.int 7))) [.expr (.append (.var "out") (.tup [(.sub (.sub (.var "w") (.lit (S "atoms"))) (.call "_law_name" [(.var "d"), (.lit (.int 17))])), (.lit (.bool false))]))] [.expr (.append (.var "out") (.tup [(.meth (.sub (.var "w") (.lit (S "tab"))) "put" [("TypeTable", "TypeTable.put")] [(.tup [(.lit (.int 7)), (.tup [(.sub (.sub (.var "w") (.lit (S "params"))) (.lit (.int 0))), (.sub (.sub (.var "w") (.lit (S "atoms"))) (.lit (S "template")))])])]), (.lit (.bool false))]))]]], .ret (.comp (.var "one") (.one "one") false (.var "out") (.some (.cmp .ne (.sub (.var "one") (.lit (.int 0))) (.sub (.sub (.var "w") (.lit (S "atoms"))) (.lit (S "template"))))))]⟩
@[reducible] noncomputable def f_law_right : Fn := ⟨["w", "host", "term", "deep"], [], [.assign "t" (.call "_law_type" [(.var "w"), (.var "term"), (.lit (.bool false))]), .assign "told" (.call "_law_holds" [(.var "w"), (.var "term"), (.var "deep")]), .ite (.or [(.cmp .ne (.call "holds_void" [(.var "host"), (.var "t"), (.var "deep")]) (.var "told")), (.cmp .ne (.call "holds_void" [(.var "host"), (.call "_law_type" [(.var "w"), (.var "term"), (.lit (.bool true))]), (.var "deep")]) (.var "told"))]) [.ret (.lit (.bool false))] [], .assign "held" (.call "_law_holds" [(.var "w"), (.var "term"), (.lit (.int 0))]), .loop (.one "question") false (.tup [(.tup [(.lit (.int 1))]), (.tup [(.lit (.int 4))]), (.tup [(.lit (.int 2)), (.lit (S "undefined"))]), (.tup [(.lit (.int 5)), (.lit (S "a"))]), (.tup [(.lit (.int 6)), (.var "t")]), (.tup [(.lit (.int 7)), (.var "t")])]) [.ite (.call "equals_void" [(.var "host"), (.var "question")]) [.ret (.lit (.bool false))] []], .ret (.and [(.cmp .eq (.call "equals_void" [(.var "host"), (.tup [(.lit (.int 3)), (.var "t"), (.lit (.bool true))])]) (.var "held")), (.cmp .eq (.call "equals_void" [(.var "host"), (.tup [(.lit (.int 3)), (.var "t"), (.lit (.bool false))])]) (.var "held"))])]⟩
@[reducible] noncomputable def f_law_round : Fn := ⟨["d"], [], [.assign "tab" (.new "TypeTable" []), .assign "host" (.new "BoundHost" [(.var "tab")]), .assign "bounds" (.call "_law_bounds" [(.var "d")]), .assign "many" (.bin .sub (.bi .len (.var "bounds")) (.lit (.int 5))), .assign "params" (.comp (.call "new_param" [(.var "tab"), (.bin .add (.lit (S "T")) (.bi .str (.var "place")))]) (.one "place") true (.bi .len (.var "bounds")) .none), .assign "lone" (.comp (.call "_law_bare" [(.var "bounds"), (.var "place")]) (.one "place") true (.bi .len (.var "bounds")) .none), .assign "w" (.dict [Str.ofString "tab", Str.ofString "atoms", Str.ofString "params", Str.ofString "rows"] [(.var "tab"), (.call "_law_atoms" [(.var "tab")]), (.var "params"), (.call "_law_rounds" [(.var "bounds"), (.var "lone")])]), .loop (.one "place") true (.bi .len (.var "bounds")) [.ite (.isNone (.sub (.var "bounds") (.var "place")) false) [.setItem (.attr (.var "tab") "bounds") (.var "place") (.call "_law_type" [(.var "w"), (.sub (.var "bounds") (.var "place")), (.lit (.bool false))])] []], .ite (.not (.call "_law_opened" [(.var "w"), (.var "host"), (.var "bounds"), (.var "lone")])) [.ret (.lit (.bool false))] [], .assign "terms" (.list [(.tup [(.lit (S "p")), (.lit (.int 5))]), (.call "_law_term" [(.var "d"), (.var "many")]), (.call "_law_term" [(.var "d"), (.var "many")])]), .loop (.one "term") false (.var "terms") [.ite (.or [(.not (.call "_law_right" [(.var "w"), (.var "host"), (.var "term"), (.lit (.int 0))])), (.not (.call "_law_right" [(.var "w"), (.var "host"), (.var "term"), (.call "_law_take" [(.var "d"), (.lit (.int 14))])]))]) [.ret (.lit (.bool false))] []], .ite (.or [(.not (.call "_law_loses" [(.var "w"), (.var "host"), (.sub (.var "terms") (.lit (.int 1))), (.sub (.var "terms") (.lit (.int 2)))])), (.not (.call "_law_loses" [(.var "w"), (.var "host"), (.sub (.var "terms") (.lit (.int 0))), (.sub (.var "terms") (.lit (.int 1)))]))]) [.ret (.lit (.bool false))] [], .ret (.call "_law_spelt" [(.var "d"), (.var "w"), (.var "host")])]⟩
@[reducible] noncomputable def f_law_rounds : Fn := ⟨["bounds", "lone"], [], [.assign "rows" (.list []), .loop (.one "left") true (.lit (.int 13)) [.ite (.and [(.cmp .gt (.var "left") (.lit (.int 2))), (.cmp .eq (.sub (.var "rows") (.bin .sub (.var "left") (.lit (.int 1)))) (.sub (.var "rows") (.bin .sub (.var "left") (.lit (.int 2))))), (.cmp .eq (.sub (.var "rows") (.bin .sub (.var "left") (.lit (.int 2)))) (.sub (.var "rows") (.bin .sub (.var "left") (.lit (.int 3)))))]) [.expr (.append (.var "rows") (.sub (.var "rows") (.bin .sub (.var "left") (.lit (.int 1))))), .cont] [], .assign "row" (.list []), .loop (.one "place") true (.bi .len (.var "bounds")) [.assign "said" (.ite (.sub (.var "lone") (.var "place")) (.list [(.lit (S "*"))]) (.list [])), .ite (.and [(.cmp .gt (.var "left") (.lit (.int 0))), (.not (.sub (.var "lone") (.var "place")))]) [.assign "said" (.call "_law_words" [(.sub (.var "bounds") (.var "place")), (.sub (.var "rows") (.bin .sub (.var "left") (.lit (.int 1)))), (.sub (.var "rows") (.max (.bin .sub (.var "left") (.lit (.int 2))) (.lit (.int 0))))]), .assign "said" (.comp (.var "word") (.one "word") false (.var "said") (.some (.cmp .ne (.var "word") (.lit (S "*")))))] [], .expr (.append (.var "row") (.var "said"))], .expr (.append (.var "rows") (.var "row"))], .ret (.var "rows")]⟩
@[reducible] noncomputable def f_law_spelt : Fn := ⟨["d", "w", "host"], [], [.assign "tab" (.sub (.var "w") (.lit (S "tab"))), .assign "pieces" (.call "_law_pieces" [(.var "d"), (.var "w")]), .assign "text" (.meth (.var "tab") "put" [("TypeTable", "TypeTable.put")] [(.tup [(.lit (.int 3)), (.sub (.list [(.lit (S "a")), (.lit (S "")), (.lit (S "-xy")), (.lit (S "1"))]) (.call "_law_take" [(.var "d"), (.lit (.int 4))])), (.call "_law_take" [(.var "d"), (.lit (.int 2))])])]), .assign "others" (.list [(.lit (.int 6)), (.lit (.int 7)), (.lit (.int 4)), (.sub (.sub (.var "w") (.lit (S "atoms"))) (.lit (S "template"))), (.call "_law_union" [(.var "tab"), (.list [(.sub (.sub (.var "w") (.lit (S "atoms"))) (.lit (S "text"))), (.meth (.var "tab") "put" [("TypeTable", "TypeTable.put")] [(.tup [(.lit (.int 3)), (.lit (S "b")), (.lit (.int 0))])])])])]), .assign "t" (.call "_law_union" [(.var "tab"), (.comp (.var "one") (.two "one" "gone") false (.var "pieces") .none)]), .ite (.cmp .ne (.call "without_templates" [(.var "host"), (.var "t"), (.var "text")]) (.call "_law_union" [(.var "tab"), (.comp (.var "one") (.two "one" "gone") false (.var "pieces") (.some (.not (.var "gone"))))])) [.ret (.lit (.bool false))] [], .loop (.two "one" "gone") false (.var "pieces") [.ite (.cmp .eq (.call "may_spell" [(.var "host"), (.var "one"), (.var "text")]) (.var "gone")) [.ret (.lit (.bool false))] []], .ret (.cmp .eq (.call "without_templates" [(.var "host"), (.var "t"), (.sub (.var "others") (.call "_law_take" [(.var "d"), (.lit (.int 5))]))]) (.var "t"))]⟩
@[reducible] noncomputable def f_law_take : Fn := ⟨["d", "n"], [], [.assign "at" (.sub (.var "d") (.lit (.int 0))), .setItem (.var "d") (.lit (.int 0)) (.bin .add (.var "at") (.lit (.int 1))), .ret (.bin .mod (.bin .add (.sub (.sub (.var "d") (.lit (.int 1))) (.bin .mod (.var "at") (.bi .len (.sub (.var "d") (.lit (.int 1)))))) (.bin .mul (.lit (.int 7)) (.bin .fdiv (.var "at") (.bi .len (.sub (.var "d") (.lit (.int 1))))))) (.var "n"))]⟩
@[reducible] noncomputable def f_law_template : Fn := ⟨["d", "w"], [], [.assign "count" (.bin .add (.lit (.int 1)) (.call "_law_take" [(.var "d"), (.lit (.int 3))])), .assign "holes" (.comp (.sub (.list [(.lit (.int 6)), (.lit (.int 6)), (.lit (.int 7)), (.sub (.sub (.var "w") (.lit (S "params"))) (.lit (.int 1)))]) (.call "_law_take" [(.var "d"), (.lit (.int 4))])) (.one "go") true (.var "count") .none), .assign "texts" (.comp (.sub (.list [(.lit (S "a")), (.lit (S "")), (.lit (S "-")), (.lit (S "xy"))]) (.call "_law_take" [(.var "d"), (.lit (.int 4))])) (.one "go") true (.bin .add (.var "count") (.lit (.int 1))) .none), .ite (.cmp .eq (.var "texts") (.list [(.lit (S "")), (.lit (S ""))])) [.assign "texts" (.list [(.lit (S "b")), (.lit (S ""))])] [], .assign "empty" (.bi .len (.comp (.var "text") (.one "text") false (.slice (.var "texts") (.some (.lit (.int 1))) (.some (.var "count"))) (.some (.cmp .eq (.var "text") (.lit (S "")))))), .assign "plain" (.cmp .eq (.bi .len (.comp (.var "hole") (.one "hole") false (.var "holes") (.some (.cmp .ne (.var "hole") (.lit (.int 6)))))) (.lit (.int 0))), .ret (.tup [(.meth (.sub (.var "w") (.lit (S "tab"))) "put" [("TypeTable", "TypeTable.put")] [(.tup [(.lit (.int 18)), (.bi .tuple (.var "texts")), (.bi .tuple (.var "holes"))])]), (.and [(.var "plain"), (.cmp .eq (.var "empty") (.lit (.int 0)))])])]⟩
@[reducible] noncomputable def f_law_term : Fn := ⟨["d", "many"], [], [.assign "out" (.list []), .loop (.one "go") true (.bin .add (.lit (.int 1)) (.call "_law_take" [(.var "d"), (.lit (.int 3))])) [.assign "pick" (.call "_law_take" [(.var "d"), (.lit (.int 5))]), .ite (.cmp .eq (.var "pick") (.lit (.int 0))) [.assign "one" (.call "_law_meet" [(.var "d"), (.var "many")])] [.ite (.cmp .eq (.var "pick") (.lit (.int 1))) [.assign "one" (.tup [(.lit (S "a")), (.call "_law_name" [(.var "d"), (.lit (.int 21))])])] [.ite (.cmp .eq (.var "pick") (.lit (.int 2))) [.assign "one" (.tup [(.lit (S "p")), (.lit (.int 5))])] [.assign "one" (.tup [(.lit (S "p")), (.ite (.cmp .eq (.var "pick") (.lit (.int 3))) (.call "_law_take" [(.var "d"), (.lit (.int 5))]) (.bin .add (.lit (.int 5)) (.call "_law_take" [(.var "d"), (.var "many")])))])]]], .ite (.cmp .notin (.var "one") (.var "out")) [.expr (.append (.var "out") (.var "one"))] []], .ret (.ite (.cmp .eq (.bi .len (.var "out")) (.lit (.int 1))) (.sub (.var "out") (.lit (.int 0))) (.tup [(.lit (S "|")), (.bi .tuple (.var "out"))]))]⟩
@[reducible] noncomputable def f_law_top : Fn := ⟨["what"], [], [.ret (.cmp .gt (.bi .len (.comp (.var "one") (.one "one") false (.var "what") (.some (.and [(.cmp .eq (.sub (.var "one") (.lit (.int 0))) (.lit (S "a"))), (.cmp .isin (.sub (.var "one") (.lit (.int 1))) (.lit (.tup [(S "any"), (S "unknown"), (S "error")])))])))) (.lit (.int 0)))]⟩
@[reducible] noncomputable def f_law_type : Fn := ⟨["w", "term", "back"], [], [.assign2 "sort" "what" (.var "term"), .ite (.cmp .eq (.var "sort") (.lit (S "a"))) [.ret (.sub (.sub (.var "w") (.lit (S "atoms"))) (.var "what"))] [], .ite (.cmp .eq (.var "sort") (.lit (S "p"))) [.ret (.sub (.sub (.var "w") (.lit (S "params"))) (.var "what"))] [], .assign "kinds" (.comp (.call "_law_type" [(.var "w"), (.var "one"), (.var "back")]) (.one "one") false (.var "what") .none), .ite (.cmp .eq (.var "sort") (.lit (S "|"))) [.ret (.call "_law_union" [(.sub (.var "w") (.lit (S "tab"))), (.var "kinds")])] [], .ret (.meth (.sub (.var "w") (.lit (S "tab"))) "put" [("TypeTable", "TypeTable.put")] [(.tup [(.lit (.int 7)), (.bi .tuple (.ite (.var "back") (.rev (.var "kinds")) (.var "kinds")))])])]⟩
@[reducible] noncomputable def f_law_union : Fn := ⟨["tab", "kinds"], [], [.assign "flat" (.list []), .loop (.one "one") false (.var "kinds") [.expr (.extend (.var "flat") (.ite (.cmp .eq (.sub (.sub (.attr (.var "tab") "rows") (.var "one")) (.lit (.int 0))) (.lit (.int 6))) (.sub (.sub (.attr (.var "tab") "rows") (.var "one")) (.lit (.int 1))) (.tup [(.var "one")])))], .loop (.one "top") false (.tup [(.lit (.int 0)), (.lit (.int 13)), (.lit (.int 1))]) [.ite (.cmp .isin (.var "top") (.var "flat")) [.ret (.var "top")] []], .assign "out" (.list []), .loop (.one "one") false (.bi .sorted (.var "flat")) [.assign "sort" (.sub (.sub (.attr (.var "tab") "rows") (.var "one")) (.lit (.int 0))), .assign "text" (.and [(.cmp .isin (.var "sort") (.tup [(.lit (.int 3)), (.lit (.int 18))])), (.cmp .isin (.lit (.int 6)) (.var "flat"))]), .ite (.and [(.cmp .ne (.var "one") (.lit (.int 2))), (.cmp .notin (.var "one") (.var "out")), (.not (.var "text")), (.not (.and [(.cmp .eq (.var "sort") (.lit (.int 4))), (.cmp .isin (.lit (.int 7)) (.var "flat"))]))]) [.expr (.append (.var "out") (.var "one"))] []], .ite (.cmp .eq (.bi .len (.var "out")) (.lit (.int 0))) [.ret (.lit (.int 2))] [], .ret (.ite (.cmp .eq (.bi .len (.var "out")) (.lit (.int 1))) (.sub (.var "out") (.lit (.int 0))) (.meth (.var "tab") "put" [("TypeTable", "TypeTable.put")] [(.tup [(.lit (.int 6)), (.bi .tuple (.var "out"))])]))]⟩
@[reducible] noncomputable def f_law_words : Fn := ⟨["term", "row", "fewer"], [], [.assign2 "sort" "what" (.var "term"), .ite (.cmp .eq (.var "sort") (.lit (S "p"))) [.ret (.sub (.var "row") (.var "what"))] [], .ite (.cmp .eq (.var "sort") (.lit (S "&"))) [.ret (.call "_law_cut" [(.var "what"), (.var "fewer")])] [], .ite (.cmp .eq (.var "sort") (.lit (S "|"))) [.assign "out" (.list []), .loop (.one "one") false (.var "what") [.expr (.extend (.var "out") (.call "_law_words" [(.var "one"), (.var "row"), (.var "fewer")]))], .ret (.ite (.call "_law_top" [(.var "what")]) (.list []) (.var "out"))] [], .ite (.cmp .isin (.var "what") (.tup [(.lit (S "T[K]")), (.lit (S "question"))])) [.ret (.list [(.lit (S "*"))])] [], .ret (.ite (.cmp .isin (.var "what") (.lit (.tup [(S "any"), (S "unknown"), (S "error")]))) (.list []) (.list [(.var "what")]))]⟩
@[reducible] noncomputable def f_bound_of : Fn := ⟨["tab", "t"], [], [.assign "row" (.sub (.attr (.var "tab") "rows") (.var "t")), .ite (.cmp .ne (.sub (.var "row") (.lit (.int 0))) (.lit (.int 10))) [.ret (.var "t")] [], .assign "bound" (.sub (.attr (.var "tab") "bounds") (.sub (.var "row") (.lit (.int 1)))), .ret (.ite (.or [(.cmp .lt (.var "bound") (.lit (.int 0))), (.cmp .eq (.var "bound") (.lit (.int 0)))]) (.lit (.int 1)) (.var "bound"))]⟩
@[reducible] noncomputable def f_bound_parts : Fn := ⟨["host", "part"], [], [.assign "bound" (.meth (.var "host") "force" [("BoundHost", "Thin.force")] [(.meth (.var "host") "bound" [("BoundHost", "BoundHost.bound")] [(.var "part")])]), .ret (.ite (.cmp .isin (.var "bound") (.tup [(.var "part"), (.lit (.int 1)), (.lit (.int 0)), (.lit (.int 13))])) (.tup []) (.call "parts_of" [(.attr (.var "host") "tab"), (.var "bound")]))]⟩
@[reducible] noncomputable def f_common_family : Fn := ⟨["tab", "parts"], [], [.assign "found" (.call "family" [(.var "tab"), (.sub (.var "parts") (.lit (.int 0)))]), .assign "same" (.bi .all (.comp (.cmp .eq (.call "family" [(.var "tab"), (.var "part")]) (.var "found")) (.one "part") false (.var "parts") .none)), .ret (.ite (.var "same") (.var "found") (.lit (.int 0)))]⟩
@[reducible] noncomputable def f_equals_void : Fn := ⟨["host", "test"], [], [.ret (.and [(.cmp .eq (.sub (.var "test") (.lit (.int 0))) (.lit (.int 3))), (.call "holds_void" [(.var "host"), (.meth (.var "host") "force" [("BoundHost", "Thin.force")] [(.sub (.var "test") (.lit (.int 1)))]), (.lit (.int 0))])])]⟩
@[reducible] noncomputable def f_family : Fn := ⟨["tab", "t"], [], [.assign "row" (.sub (.attr (.var "tab") "rows") (.var "t")), .assign "kind" (.sub (.var "row") (.lit (.int 0))), .ite (.cmp .eq (.var "kind") (.lit (.int 1))) [.ret (.dget (.lit (.ref 1)) (.var "t") (.lit (.int 0)))] [], .ite (.cmp .eq (.var "kind") (.lit (.int 2))) [.ret (.lit (.int 3))] [], .ite (.cmp .isin (.var "kind") (.lit (.tup [(.int 8), (.int 9), (.int 11), (.int 12), (.int 13)]))) [.ret (.lit (.int 7))] [], .ite (.cmp .eq (.var "kind") (.lit (.int 6))) [.ret (.call "common_family" [(.var "tab"), (.sub (.var "row") (.lit (.int 1)))])] [], .ite (.cmp .eq (.var "kind") (.lit (.int 7))) [.ret (.call "meet_family" [(.var "tab"), (.sub (.var "row") (.lit (.int 1)))])] [], .assign "whole" (.call "whole_of_row" [(.var "row")]), .ite (.cmp .lt (.var "whole") (.lit (.int 0))) [.ret (.lit (.int 0))] [], .ret (.ite (.cmp .eq (.var "whole") (.lit (.int 6))) (.lit (.int 1)) (.lit (.int 2)))]⟩
@[reducible] noncomputable def f_holds_void : Fn := ⟨["host", "t", "deep"], [], [.loop (.one "part") false (.call "parts_of" [(.attr (.var "host") "tab"), (.var "t")]) [.assign "row" (.sub (.attr (.attr (.var "host") "tab") "rows") (.var "part")), .ite (.cmp .eq (.call "family" [(.attr (.var "host") "tab"), (.var "part")]) (.lit (.int 6))) [.ret (.lit (.bool true))] [], .ite (.and [(.cmp .eq (.sub (.var "row") (.lit (.int 0))) (.lit (.int 7))), (.call "meet_holds_void" [(.var "host"), (.sub (.var "row") (.lit (.int 1))), (.var "deep")])]) [.ret (.lit (.bool true))] [], .ite (.and [(.cmp .isin (.sub (.var "row") (.lit (.int 0))) (.lit (.tup [(.int 10), (.int 15), (.int 16)]))), (.cmp .lt (.var "deep") (.lit (.int 12)))]) [.ite (.bi .any (.comp (.call "holds_void" [(.var "host"), (.var "one"), (.bin .add (.var "deep") (.lit (.int 1)))]) (.one "one") false (.call "bound_parts" [(.var "host"), (.var "part")]) .none)) [.ret (.lit (.bool true))] []] []], .ret (.lit (.bool false))]⟩
@[reducible] noncomputable def f_join_bools : Fn := ⟨["got"], [], [.ite (.and [(.or [(.cmp .isin (.lit (.int 8)) (.var "got")), (.cmp .isin (.lit (.int 14)) (.var "got"))]), (.or [(.cmp .isin (.lit (.int 9)) (.var "got")), (.cmp .isin (.lit (.int 15)) (.var "got"))])]) [.setItem (.var "got") (.lit (.int 8)) (.lit (.int 1)), .setItem (.var "got") (.lit (.int 9)) (.lit (.int 1))] []]⟩
@[reducible] noncomputable def f_kind_of : Fn := ⟨["tab", "t"], [], [.ret (.sub (.sub (.attr (.var "tab") "rows") (.var "t")) (.lit (.int 0)))]⟩
@[reducible] noncomputable def f_loses_void : Fn := ⟨["host", "t", "kept"], [], [.ret (.and [(.call "holds_void" [(.var "host"), (.meth (.var "host") "force" [("BoundHost", "Thin.force")] [(.var "t")]), (.lit (.int 0))]), (.not (.call "holds_void" [(.var "host"), (.var "kept"), (.lit (.int 0))]))])]⟩
@[reducible] noncomputable def f_may_spell : Fn := ⟨["host", "part", "text"], [], [.assign "row" (.sub (.attr (.attr (.var "host") "tab") "rows") (.var "part")), .ite (.or [(.cmp .ne (.sub (.var "row") (.lit (.int 0))) (.lit (.int 18))), (.bi .any (.comp (.cmp .ne (.var "hole") (.lit (.int 6))) (.one "hole") false (.sub (.var "row") (.lit (.int 2))) .none)), (.cmp .isin (.lit (S "")) (.slice (.sub (.var "row") (.lit (.int 1))) (.some (.lit (.int 1))) (.some (.neg (.lit (.int 1))))))]) [.ret (.lit (.bool true))] [], .ret (.meth (.var "host") "tpl_fits" [("BoundHost", "Thin.tpl_fits")] [(.var "text"), (.var "part")])]⟩
@[reducible] noncomputable def f_meet_family : Fn := ⟨["tab", "parts"], [], [.assign "found" (.lit (.int 0)), .loop (.one "part") false (.var "parts") [.assign "fam" (.call "family" [(.var "tab"), (.var "part")]), .ite (.and [(.cmp .ne (.var "fam") (.lit (.int 0))), (.cmp .ne (.var "fam") (.lit (.int 7)))]) [.ret (.var "fam")] [], .ite (.and [(.cmp .eq (.var "fam") (.lit (.int 7))), (.cmp .ne (.var "part") (.lit (.int 11)))]) [.assign "found" (.lit (.int 7))] []], .ret (.var "found")]⟩
@[reducible] noncomputable def f_meet_holds_void : Fn := ⟨["host", "parts", "deep"], [], [.assign "held" (.comp (.call "holds_void" [(.var "host"), (.var "one"), (.bin .add (.var "deep") (.lit (.int 1)))]) (.one "one") false (.var "parts") .none), .loop (.one "place") true (.bi .len (.var "parts")) [.assign "free" (.and [(.cmp .isin (.call "kind_of" [(.attr (.var "host") "tab"), (.sub (.var "parts") (.var "place"))]) (.lit (.tup [(.int 10), (.int 15), (.int 16)]))), (.not (.call "bound_parts" [(.var "host"), (.sub (.var "parts") (.var "place"))]))]), .ite (.and [(.not (.sub (.var "held") (.var "place"))), (.not (.var "free"))]) [.ret (.lit (.bool false))] []], .ret (.bi .any (.var "held"))]⟩
@[reducible] noncomputable def f_new_param : Fn := ⟨["tab", "name", "bound", "default"], [(.int (-1)), (.int (-1))], [.assign "pid" (.bi .len (.attr (.var "tab") "bounds")), .expr (.append (.attr (.var "tab") "bounds") (.var "bound")), .expr (.append (.attr (.var "tab") "defaults") (.var "default")), .expr (.append (.attr (.var "tab") "names") (.var "name")), .ret (.meth (.var "tab") "put" [("TypeTable", "TypeTable.put")] [(.tup [(.lit (.int 10)), (.var "pid")])])]⟩
@[reducible] noncomputable def f_parts_of : Fn := ⟨["tab", "t"], [], [.ite (.cmp .eq (.var "t") (.lit (.int 2))) [.ret (.tup [])] [], .assign "row" (.sub (.attr (.var "tab") "rows") (.var "t")), .ite (.cmp .eq (.sub (.var "row") (.lit (.int 0))) (.lit (.int 6))) [.ret (.sub (.var "row") (.lit (.int 1)))] [], .ret (.tup [(.var "t")])]⟩
@[reducible] noncomputable def f_regular_twin : Fn := ⟨["tab", "t"], [], [.assign "row" (.sub (.attr (.var "tab") "rows") (.var "t")), .ite (.and [(.cmp .isin (.sub (.var "row") (.lit (.int 0))) (.lit (.tup [(.int 2), (.int 3), (.int 4), (.int 5), (.int 8)]))), (.cmp .eq (.sub (.var "row") (.neg (.lit (.int 1)))) (.lit (.int 1)))]) [.ret (.dget (.attr (.var "tab") "index") (.bin .add (.slice (.var "row") .none (.some (.neg (.lit (.int 1))))) (.tup [(.lit (.int 0))])) (.neg (.lit (.int 1))))] [], .ret (.neg (.lit (.int 1)))]⟩
@[reducible] noncomputable def f_stays_beside : Fn := ⟨["tab", "got", "t"], [], [.ite (.cmp .isin (.call "regular_twin" [(.var "tab"), (.var "t")]) (.var "got")) [.ret (.lit (.bool false))] [], .ret (.cmp .notin (.call "whole_of_row" [(.sub (.attr (.var "tab") "rows") (.var "t"))]) (.var "got"))]⟩
@[reducible] noncomputable def f_top_of : Fn := ⟨["got"], [], [.loop (.one "t") false (.tup [(.lit (.int 0)), (.lit (.int 13)), (.lit (.int 1))]) [.ite (.cmp .isin (.var "t") (.var "got")) [.ret (.var "t")] []], .ret (.neg (.lit (.int 1)))]⟩
@[reducible] noncomputable def f_union : Fn := ⟨["tab", "parts"], [], [.assign "got" (.dict [] []), .loop (.one "t") false (.var "parts") [.loop (.one "part") false (.call "parts_of" [(.var "tab"), (.var "t")]) [.setItem (.var "got") (.var "part") (.lit (.int 1))]], .assign "top" (.call "top_of" [(.var "got")]), .ite (.cmp .ge (.var "top") (.lit (.int 0))) [.ret (.var "top")] [], .expr (.call "join_bools" [(.var "got")]), .assign "kept" (.comp (.var "t") (.one "t") false (.bi .sorted (.var "got")) (.some (.call "stays_beside" [(.var "tab"), (.var "got"), (.var "t")]))), .ite (.not (.var "kept")) [.ret (.lit (.int 2))] [], .ite (.cmp .eq (.bi .len (.var "kept")) (.lit (.int 1))) [.ret (.sub (.var "kept") (.lit (.int 0)))] [], .ite (.cmp .gt (.bi .len (.var "kept")) (.lit (.int 400))) [.stuck] [], .ret (.meth (.var "tab") "put" [("TypeTable", "TypeTable.put")] [(.tup [(.lit (.int 6)), (.bi .tuple (.var "kept"))])])]⟩
@[reducible] noncomputable def f_whole_of_row : Fn := ⟨["row"], [], [.assign "kind" (.sub (.var "row") (.lit (.int 0))), .ite (.or [(.cmp .eq (.var "kind") (.lit (.int 3))), (.cmp .eq (.var "kind") (.lit (.int 18)))]) [.ret (.lit (.int 6))] [], .ite (.cmp .eq (.var "kind") (.lit (.int 4))) [.ret (.lit (.int 7))] [], .ite (.cmp .eq (.var "kind") (.lit (.int 5))) [.ret (.ite .stuck (.lit (.int 6)) (.lit (.int 7)))] [], .ret (.neg (.lit (.int 1)))]⟩
@[reducible] noncomputable def f_without_templates : Fn := ⟨["host", "t", "other"], [], [.ite (.cmp .ne (.call "kind_of" [(.attr (.var "host") "tab"), (.var "other")]) (.lit (.int 3))) [.ret (.var "t")] [], .assign "parts" (.comp (.var "part") (.one "part") false (.call "parts_of" [(.attr (.var "host") "tab"), (.var "t")]) (.some (.call "may_spell" [(.var "host"), (.var "part"), (.var "other")]))), .ret (.call "union" [(.attr (.var "host") "tab"), (.var "parts")])]⟩
@[reducible] noncomputable def f_TypeTable___init__ : Fn := ⟨["self"], [], [.setAttr (.var "self") "rows" (.list []), .setAttr (.var "self") "index" (.dict [] []), .setAttr (.var "self") "decls" (.list [(.lit .none)]), .setAttr (.var "self") "bounds" (.list []), .setAttr (.var "self") "defaults" (.list []), .setAttr (.var "self") "names" (.list []), .setAttr (.var "self") "origins" (.dict [] []), .setAttr (.var "self") "renamed" (.dict [] []), .setAttr (.var "self") "shaping" (.lit (.int 0)), .setAttr (.var "self") "putting" (.lit (.int 0)), .loop (.one "row") false (.lit (.tup [(.tup [(.int 1), (S "any")]), (.tup [(.int 1), (S "unknown")]), (.tup [(.int 1), (S "never")]), (.tup [(.int 1), (S "void")]), (.tup [(.int 1), (S "undefined")]), (.tup [(.int 1), (S "null")]), (.tup [(.int 1), (S "string")]), (.tup [(.int 1), (S "number")]), (.tup [(.int 2), (.int 0), (.int 0)]), (.tup [(.int 2), (.int 1), (.int 0)]), (.tup [(.int 1), (S "object")]), (.tup [(.int 8), (.tup []), (.tup []), (.tup []), (.tup []), (.tup []), (.int 0)]), (.tup [(.int 6), (.tup [(.int 8), (.int 9)])]), (.tup [(.int 1), (S "error")]), (.tup [(.int 2), (.int 0), (.int 1)]), (.tup [(.int 2), (.int 1), (.int 1)])])) [.expr (.meth (.var "self") "put" [("TypeTable", "TypeTable.put")] [(.var "row")])]]⟩
@[reducible] noncomputable def f_TypeTable_put : Fn := ⟨["self", "row"], [], [.ite (.cmp .isin (.var "row") (.attr (.var "self") "index")) [.ret (.sub (.attr (.var "self") "index") (.var "row"))] [], .assign "t" (.bi .len (.attr (.var "self") "rows")), .expr (.append (.attr (.var "self") "rows") (.var "row")), .setItem (.attr (.var "self") "index") (.var "row") (.var "t"), .ret (.var "t")]⟩
@[reducible] noncomputable def f_BoundHost___init__ : Fn := ⟨["self", "tab"], [], [.setAttr (.var "self") "tab" (.var "tab"), .setAttr (.var "self") "deep" (.lit (.int 0)), .setAttr (.var "self") "most_rounds" (.lit (.int 200)), .setAttr (.var "self") "most_deep" (.lit (.int 40)), .setAttr (.var "self") "lib" (.lit .none)]⟩
@[reducible] noncomputable def f_Thin_force : Fn := ⟨["self", "t"], [], [.ret (.var "t")]⟩
@[reducible] noncomputable def f_BoundHost_bound : Fn := ⟨["self", "t"], [], [.ret (.call "bound_of" [(.attr (.var "self") "tab"), (.var "t")])]⟩
@[reducible] noncomputable def f_Thin_tpl_fits : Fn := ⟨["self", "s", "t"], [], [.ret (.lit (.bool false))]⟩
end
structure Fns (fns : String → Option Fn) : Prop where
 law_atoms : fns "_law_atoms" = some f_law_atoms
 law_bare : fns "_law_bare" = some f_law_bare
 law_bounds : fns "_law_bounds" = some f_law_bounds
 law_cut : fns "_law_cut" = some f_law_cut
 law_holds : fns "_law_holds" = some f_law_holds
 law_loses : fns "_law_loses" = some f_law_loses
 law_meet : fns "_law_meet" = some f_law_meet
 law_name : fns "_law_name" = some f_law_name
 law_opened : fns "_law_opened" = some f_law_opened
 law_pieces : fns "_law_pieces" = some f_law_pieces
 law_right : fns "_law_right" = some f_law_right
 law_round : fns "_law_round" = some f_law_round
 law_rounds : fns "_law_rounds" = some f_law_rounds
 law_spelt : fns "_law_spelt" = some f_law_spelt
 law_take : fns "_law_take" = some f_law_take
 law_template : fns "_law_template" = some f_law_template
 law_term : fns "_law_term" = some f_law_term
 law_top : fns "_law_top" = some f_law_top
 law_type : fns "_law_type" = some f_law_type
 law_union : fns "_law_union" = some f_law_union
 law_words : fns "_law_words" = some f_law_words
 bound_of : fns "bound_of" = some f_bound_of
 bound_parts : fns "bound_parts" = some f_bound_parts
 common_family : fns "common_family" = some f_common_family
 equals_void : fns "equals_void" = some f_equals_void
 family : fns "family" = some f_family
 holds_void : fns "holds_void" = some f_holds_void
 join_bools : fns "join_bools" = some f_join_bools
 kind_of : fns "kind_of" = some f_kind_of
 loses_void : fns "loses_void" = some f_loses_void
 may_spell : fns "may_spell" = some f_may_spell
 meet_family : fns "meet_family" = some f_meet_family
 meet_holds_void : fns "meet_holds_void" = some f_meet_holds_void
 new_param : fns "new_param" = some f_new_param
 parts_of : fns "parts_of" = some f_parts_of
 regular_twin : fns "regular_twin" = some f_regular_twin
 stays_beside : fns "stays_beside" = some f_stays_beside
 top_of : fns "top_of" = some f_top_of
 union : fns "union" = some f_union
 whole_of_row : fns "whole_of_row" = some f_whole_of_row
 without_templates : fns "without_templates" = some f_without_templates
 TypeTable___init__ : fns "TypeTable.__init__" = some f_TypeTable___init__
 TypeTable_put : fns "TypeTable.put" = some f_TypeTable_put
 BoundHost___init__ : fns "BoundHost.__init__" = some f_BoundHost___init__
 Thin_force : fns "Thin.force" = some f_Thin_force
 BoundHost_bound : fns "BoundHost.bound" = some f_BoundHost_bound
 Thin_tpl_fits : fns "Thin.tpl_fits" = some f_Thin_tpl_fits
end Mine
end

section
set_option maxHeartbeats 4000000
namespace Mine
noncomputable def Rt (Q : D → St → Prop) (f : Fl) (σ : St) : Prop := match f with | .ret d => Q d σ | .next _ => Q .none σ | .cont _ => False
section
variable {fns : String → Option Fn} {n : Nat} {f : String} {body : List CS} {σ : St} {Q : D → St → Prop} {L : Loc}
theorem Rt.ret {d : D} (h : Q d σ) : Rt Q (.ret d) σ := h
theorem Rt.next (h : Q .none σ) : Rt Q (.next L) σ := h
theorem f_call' {fn : Fn} {args : List D} (e : fns f = some fn) (l : (args ++ fn.extra).length = fn.params.length) (h : ∀ Q', Hg Q' Q → W (exs (callF fns n) fn.body (fn.params.zip (args ++ fn.extra)) σ) (Rt Q')) : W (callF fns (n + 1) f args σ) Q :=
 f_call e l (W.mono (h Q fun _ _ h => h) fun f σ h => by cases f <;> exact h)
theorem f_call1n {p : String} {a : D} (e : fns f = some ⟨[p], [], body⟩) (h : W (exs (callF fns n) body [(p, a)] σ) (Rt Q)) : W (callF fns (n + 1) f [a] σ) Q := f_call' e rfl fun Q' hQ => h.mono fun f σ h => by cases f with | ret d => exact hQ _ _ h | next L => exact hQ _ _ h | cont L => exact h
theorem f_call1 {p : String} {a : D} (e : fns f = some ⟨[p], [], body⟩) (h : ∀ Q', Hg Q' Q → W (exs (callF fns n) body [(p, a)] σ) (Rt Q')) : W (callF fns (n + 1) f [a] σ) Q := f_call' e rfl h
theorem f_call2n {p q : String} {a b : D} (e : fns f = some ⟨[p, q], [], body⟩) (h : W (exs (callF fns n) body [(p, a), (q, b)] σ) (Rt Q)) : W (callF fns (n + 1) f [a, b] σ) Q := f_call' e rfl fun Q' hQ => h.mono fun f σ h => by cases f with | ret d => exact hQ _ _ h | next L => exact hQ _ _ h | cont L => exact h
theorem f_call2 {p q : String} {a b : D} (e : fns f = some ⟨[p, q], [], body⟩) (h : ∀ Q', Hg Q' Q → W (exs (callF fns n) body [(p, a), (q, b)] σ) (Rt Q')) : W (callF fns (n + 1) f [a, b] σ) Q := f_call' e rfl h
theorem f_call3n {p q r : String} {a b c : D} (e : fns f = some ⟨[p, q, r], [], body⟩) (h : W (exs (callF fns n) body [(p, a), (q, b), (r, c)] σ) (Rt Q)) : W (callF fns (n + 1) f [a, b, c] σ) Q := f_call' e rfl fun Q' hQ => h.mono fun f σ h => by cases f with | ret d => exact hQ _ _ h | next L => exact hQ _ _ h | cont L => exact h
theorem f_call3 {p q r : String} {a b c : D} (e : fns f = some ⟨[p, q, r], [], body⟩) (h : ∀ Q', Hg Q' Q → W (exs (callF fns n) body [(p, a), (q, b), (r, c)] σ) (Rt Q')) : W (callF fns (n + 1) f [a, b, c] σ) Q := f_call' e rfl h
theorem f_call4n {p q r s : String} {a b c d : D} (e : fns f = some ⟨[p, q, r, s], [], body⟩) (h : W (exs (callF fns n) body [(p, a), (q, b), (r, c), (s, d)] σ) (Rt Q)) : W (callF fns (n + 1) f [a, b, c, d] σ) Q := f_call' e rfl fun Q' hQ => h.mono fun f σ h => by cases f with | ret d => exact hQ _ _ h | next L => exact hQ _ _ h | cont L => exact h
theorem f_call4 {p q r s : String} {a b c d : D} (e : fns f = some ⟨[p, q, r, s], [], body⟩) (h : ∀ Q', Hg Q' Q → W (exs (callF fns n) body [(p, a), (q, b), (r, c), (s, d)] σ) (Rt Q')) : W (callF fns (n + 1) f [a, b, c, d] σ) Q := f_call' e rfl h
end

section
variable {σ : St} {o o' : Ob} {i j : Nat}
theorem pushAt : (σ ++ [o])[σ.length]? = some o := by simp
theorem pushOld (h : σ[i]? = some o') : (σ ++ [o])[i]? = some o' := by
 have : i < σ.length := by
  rcases Nat.lt_or_ge i σ.length with l | l
  ·exact l
  ·rw [List.getElem?_eq_none l] at h; exact none_some h
 rw [List.getElem?_append_left this]; exact h
theorem at_lt (h : σ[i]? = some o') : i < σ.length := by
 rcases Nat.lt_or_ge i σ.length with l | l
 ·exact l
 ·rw [List.getElem?_eq_none l] at h; exact none_some h
theorem setAt (h : σ[i]? = some o') : (σ.set i o)[i]? = some o := by
 rw [List.getElem?_set_self (at_lt h)]
theorem setOld (n : j ≠ i) (h : σ[i]? = some o') : (σ.set j o)[i]? = some o' := by
 rw [List.getElem?_set_ne n]; exact h
end

structure X where
 d : Nat
 nums : Nat
 tab : Nat
 rows : Nat
 index : Nat
 bounds : Nat
 host : Nat
noncomputable def X.mu (x : X) (i : Nat) : Prop := i = x.d ∨ i = x.rows ∨ i = x.index
noncomputable def Kp (x : X) (σ σ' : St) : Prop := σ.length ≤ σ'.length ∧ ∀ i, i < σ.length → ¬ x.mu i → σ'[i]? = σ[i]?
section
variable {x : X} {σ σ' σ'' : St} {o : Ob} {i : Nat}
theorem Kp.refl : Kp x σ σ := ⟨Nat.le_refl _, fun _ _ _ => rfl⟩
theorem Kp.trans (h : Kp x σ σ') (k : Kp x σ' σ'') : Kp x σ σ'' := ⟨Nat.le_trans h.1 k.1, fun i l m => (k.2 i (Nat.lt_of_lt_of_le l h.1) m).trans (h.2 i l m)⟩
theorem Kp.push (h : Kp x σ σ') : Kp x σ (σ' ++ [o]) := ⟨Nat.le_trans h.1 (by simp), fun i l m => by rw [List.getElem?_append_left (Nat.lt_of_lt_of_le l h.1)]; exact h.2 i l m⟩
theorem Kp.set (h : Kp x σ σ') (k : σ.length ≤ i ∨ x.mu i) : Kp x σ (σ'.set i o) := ⟨by simpa using h.1, fun j l m => by
 rw [List.getElem?_set_ne (by rintro rfl; rcases k with k | k; lia; exact m k)]; exact h.2 j l m⟩
theorem Kp.at (h : Kp x σ σ') (m : ¬ x.mu i) (e : σ[i]? = some o) : σ'[i]? = some o := (h.2 i (at_lt e) m).trans e
end

noncomputable def idxF (k : Nat) : List D → List (D × D)
 | [] => []
 | r :: t => (r, .int k) :: idxF (k + 1) t
theorem idx_len : ∀ {k : Nat} {R : List D}, (idxF k R).length = R.length
 | _, [] => rfl
 | k, r :: t => by simp [idxF, idx_len]
theorem idx_keys : ∀ {k : Nat} {R : List D}, (idxF k R).map (·.1) = R
 | _, [] => rfl
 | k, r :: t => by simp [idxF, idx_keys]
theorem idx_find : ∀ {k : Nat} {R : List D} {r : D}, r ∈ R → ∃ t : Nat, dfind (idxF k R) r = some (.int ((k + t : Nat) : Int)) ∧ R[t]? = some r
 | k, a :: R, r, h => by
  by_cases e : a = r
  ·subst e; exact ⟨0, dfind_hit, rfl⟩
  ·obtain ⟨t, h1, h2⟩ := idx_find (k := k + 1) ((List.mem_cons.mp h).resolve_left (Ne.symm e))
   exact ⟨t + 1, (dfind_miss e).trans (h1.trans (congrArg (fun n : Nat => some (D.int n)) (by lia))), h2⟩
theorem idx_none : ∀ {k : Nat} {R : List D} {r : D}, r ∉ R → dfind (idxF k R) r = none
 | _, [], _, _ => rfl
 | k, a :: R, r, h => (dfind_miss fun e : a = r => h (by subst e; exact .head _)).trans (idx_none fun m => h (.tail _ m))
theorem idx_put : ∀ {k : Nat} {R : List D} {r : D}, r ∉ R → dput (idxF k R) r (.int ((k + R.length : Nat) : Int)) = idxF k (R ++ [r])
 | _, [], _, _ => rfl
 | k, a :: R, r, h => by
  have := idx_put (k := k + 1) fun m => h (.tail a m)
  rw [List.length_cons, show k + (R.length + 1) = k + 1 + R.length by lia]
  exact (dput_miss fun e : a = r => h (by subst e; exact .head _)).trans (congrArg ((a, D.int k) :: ·) this)
theorem idx_ok {k : Nat} {R : List D} {r : D} (h : ∀ a ∈ R, isTup a = true) (hr : isTup r = true) : keysOk (idxF k R) r = true := by
 have : (idxF k R).all (fun e => isTup e.1) = true := by
  rw [List.all_eq_true]; intro e he
  exact h e.1 (by rw [← idx_keys (k := k) (R := R)]; exact List.mem_map_of_mem he)
 simp [keysOk, hr, this]

local macro_rules | `(tactic| accj_flat) => do
 let ts ← ("lk_set lk_setne lk_there Ag.look".splitOn " ").toArray.mapM fun n => `(tacticSeq| apply $(Lean.mkIdent n.toName) <;> accj_flat)
 `(tactic| first | with_unfolding_all rfl $[| $ts]* | assumption)
local macro_rules | `(tactic| pv_eval) => do
 let ts ← ("Pvs.nil Pv.lit Pv.var Pvs.cons Pv.tup".splitOn " ").toArray.mapM fun n => `(tacticSeq| apply $(Lean.mkIdent n.toName) <;> first | pv_eval | accj_flat)
 `(tactic| first $[| $ts]*)
local macro_rules | `(tactic| dl_step) => do
 let ts ← (("e_sub2 e_cmp2 e_bin2|es_p e_p e_sub1 e_cmp1 e_attr1 e_call1 x_ret1|e_step x_step x_nil es_nil es_cons e_and1 e_or1 e_andS e_orS eO_none eO_some eC_none eC_some Nx.next Nx.ret Nx.cont Rt.ret Rt.next Tn.next Tn.cont Tn.ret b_add b_sub q_eqI q_neI q_lt q_gt q_ge q_eqB q_neB q_truthB Br.T Br.F".splitOn "|").zip [2, 1, 0]).toArray.flatMapM fun (l, k) => (l.splitOn " ").toArray.mapM fun n => do
  let i := Lean.mkIdent n.toName
  if k = 0 then `(tacticSeq| refine $i ?_) else if k = 1 then `(tacticSeq| apply $i; pv_eval) else `(tacticSeq| apply $i; pv_eval; pv_eval)
 `(tactic| repeat' (with_reducible first $[| $ts]* | refine Hg.go (by assumption) ?_ | refine Hc.go (by assumption) ?_))

section
variable {fns : String → Option Fn} {n : Nat} {σ : St}
theorem put_raw (F : Fns fns) {tab r i : Nat} {fs : List (String × D)} {R : List D} {row : D} (e : σ[tab]? = some (.inst "TypeTable" fs)) (l1 : fs.lookup "rows" = some (.ref r)) (l2 : fs.lookup "index" = some (.ref i))
  (g1 : σ[r]? = some (.list R)) (g2 : σ[i]? = some (.dict (idxF 0 R))) (h1 : 2 ≤ r) (h2 : 2 ≤ i) (hl : R.length < big) (hf : ∀ a ∈ R, isTup a = true) (hr : isTup row = true) :
  W (callF fns (n + 1) "TypeTable.put" [.ref tab, row] σ) fun d σ' => (row ∈ R ∧ σ' = σ ∧ ∃ t : Nat, d = .int t ∧ R[t]? = some row) ∨ (row ∉ R ∧ d = .int R.length ∧ σ' = (σ.set r (.list (R ++ [row]))).set i (.dict (idxF 0 (R ++ [row])))) := by
 have n1 : r ≠ tab := by rintro rfl; rw [e] at g1; cases g1
 have n2 : r ≠ i := by rintro rfl; rw [g2] at g1; cases g1
 have g3 := setOld (o := .list (R ++ [row])) n1 e
 have g4 := setOld (o := .list (R ++ [row])) n2 g2
 refine f_call2 F.TypeTable_put fun Q' hQ => ?_
 dl_step
 refine ⟨tab, _, fs, _, rfl, e, l2, ?_⟩
 refine q_inD g2 (idx_ok hf hr) ?_
 refine Br.bool (fun h => ?_) (fun h => ?_)
 ·dl_step
  refine ⟨tab, _, fs, _, rfl, e, l2, ?_⟩
  dl_step
  have hm : row ∈ R := by
   rcases Classical.em (row ∈ R) with m | m
   ·exact m
   ·rw [idx_none m] at h; exact nof _ h
  obtain ⟨t, f1, f2⟩ := idx_find (k := 0) hm
  refine i_dict g2 (idx_ok hf hr) f1 ?_
  dl_step
  exact .inl ⟨hm, rfl, t, by simp, f2⟩
 ·have hm : row ∉ R := by
   intro m
   obtain ⟨t, f1, f2⟩ := idx_find (k := 0) m
   rw [f1] at h; cases h
  dl_step
  refine ⟨tab, _, fs, _, rfl, e, l1, ?_⟩
  refine len_lst g1 (Nat.le_of_lt hl) ?_
  dl_step
  refine ⟨tab, _, fs, _, rfl, e, l1, r, R, rfl, h1, g1, ?_⟩
  dl_step
  refine ⟨R, g1, Nat.le_of_lt hl, ?_⟩
  rintro _ rfl
  refine ⟨rfl, ?_⟩
  dl_step
  refine ⟨tab, _, fs, _, rfl, g3, l2, ?_⟩
  dl_step
  refine .dict i _ rfl g4 h2 ⟨idx_ok hf hr, by rw [idx_len]; exact Nat.le_of_lt hl⟩ ?_
  rintro _ rfl
  dl_step
  refine .inr ⟨hm, rfl, ?_⟩
  have := idx_put (k := 0) hm
  rw [Nat.zero_add] at this
  rw [this]
end

structure Wl (x : X) (b : Nat) (R : List D) (σ : St) : Prop where
 d : ∃ a : Nat, σ[x.d]? = some (.list [.int a, .ref x.nums]) ∧ a + b ≤ 50000
 nums : ∃ l : List Int, σ[x.nums]? = some (.list (l.map .int)) ∧ 1 ≤ l.length ∧ l.length ≤ 40
 rows : σ[x.rows]? = some (.list R)
 index : σ[x.index]? = some (.dict (idxF 0 R))
 tab : ∃ fs, σ[x.tab]? = some (.inst "TypeTable" fs) ∧ fs.lookup "rows" = some (.ref x.rows) ∧ fs.lookup "index" = some (.ref x.index) ∧ fs.lookup "bounds" = some (.ref x.bounds) ∧ fs.lookup "put" = none
 host : ∃ fs, σ[x.host]? = some (.inst "BoundHost" fs) ∧ fs.lookup "tab" = some (.ref x.tab) ∧ fs.lookup "force" = none ∧ fs.lookup "bound" = none ∧ fs.lookup "tpl_fits" = none
 size : R.length + b ≤ 50000
 nodup : R.Nodup
 flat : ∀ r ∈ R, isTup r = true
 ge : 2 ≤ x.d ∧ 2 ≤ x.rows ∧ 2 ≤ x.index
 ne : x.d ≠ x.rows ∧ ¬ x.mu x.nums

section
variable {x : X} {b b' : Nat} {R R' : List D} {σ σ' : St} {o : Ob} {i : Nat}
theorem Wl.ne2 (w : Wl x b R σ) : x.index ≠ x.d ∧ x.index ≠ x.rows ∧ ¬ x.mu x.tab ∧ ¬ x.mu x.host := by
 obtain ⟨a, h1, _⟩ := w.d
 obtain ⟨fs, h2, _⟩ := w.tab
 obtain ⟨gs, h3, _⟩ := w.host
 have h4 := w.rows
 have h5 := w.index
 refine ⟨fun e => ?_, fun e => ?_, fun e => ?_, fun e => ?_⟩
 ·rw [e, h1] at h5; cases h5
 ·rw [e, h4] at h5; cases h5
 ·rcases e with e | e | e
  ·rw [e, h1] at h2; cases h2
  ·rw [e, h4] at h2; cases h2
  ·rw [e, h5] at h2; cases h2
 ·rcases e with e | e | e
  ·rw [e, h1] at h3; cases h3
  ·rw [e, h4] at h3; cases h3
  ·rw [e, h5] at h3; cases h3
theorem Wl.move (w : Wl x b R σ) (k : Kp x σ σ') (hd : ∃ a : Nat, σ'[x.d]? = some (.list [.int a, .ref x.nums]) ∧ a + b' ≤ 50000) (hr : σ'[x.rows]? = some (.list R')) (hi : σ'[x.index]? = some (.dict (idxF 0 R')))
  (hs : R'.length + b' ≤ 50000) (hn : R'.Nodup) (hf : ∀ r ∈ R', isTup r = true) : Wl x b' R' σ' := by
 obtain ⟨l, e, l1⟩ := w.nums
 obtain ⟨fs, e2, l2⟩ := w.tab
 obtain ⟨gs, e3, l3⟩ := w.host
 exact ⟨hd, ⟨l, k.at w.ne.2 e, l1⟩, hr, hi, ⟨fs, k.at w.ne2.2.2.1 e2, l2⟩, ⟨gs, k.at w.ne2.2.2.2 e3, l3⟩, hs, hn, hf, w.ge, w.ne⟩
theorem Wl.less (w : Wl x b R σ) (h : b' ≤ b) : Wl x b' R σ := by
 obtain ⟨a, e, l⟩ := w.d
 exact w.move .refl ⟨a, e, by lia⟩ w.rows w.index (by have := w.size; lia) w.nodup w.flat
theorem Wl.big (w : Wl x b R σ) : R.length ≤ big := by have := w.size; show _ ≤ 100000; lia
structure Wk (x : X) (σ : St) (b : Nat) (R : List D) (σ' : St) : Prop where
 w : Wl x b R σ'
 k : Kp x σ σ'
theorem Wk.start (w : Wl x b R σ) : Wk x σ b R σ := ⟨w, .refl⟩
theorem Wk.less (w : Wk x σ b R σ') (h : b' ≤ b) : Wk x σ b' R σ' := ⟨w.w.less h, w.k⟩
theorem Wk.next {σ'' : St} (w : Wk x σ b R σ') (v : Wk x σ' b' R' σ'') : Wk x σ b' R' σ'' := ⟨v.w, w.k.trans v.k⟩
theorem Wl.push (w : Wl x b R σ) : Wl x b R (σ ++ [o]) := by
 obtain ⟨a, e, l⟩ := w.d
 exact w.move (Kp.push .refl) ⟨a, pushOld e, l⟩ (pushOld w.rows) (pushOld w.index) w.size w.nodup w.flat
theorem Wk.push (w : Wk x σ b R σ') : Wk x σ b R (σ' ++ [o]) := ⟨w.w.push, w.k.push⟩
theorem Wk.set (w0 : Wl x b' R' σ) (w : Wk x σ b R σ') (h : σ.length ≤ i) : Wk x σ b R (σ'.set i o) := by
 obtain ⟨a0, e0, _⟩ := w0.d
 have l1 := at_lt e0
 have l2 := at_lt w0.rows
 have l3 := at_lt w0.index
 obtain ⟨l, e1, _⟩ := w0.nums
 have l4 := at_lt e1
 obtain ⟨fs, e2, _⟩ := w0.tab
 have l5 := at_lt e2
 obtain ⟨gs, e3, _⟩ := w0.host
 have l6 := at_lt e3
 obtain ⟨a, e, la⟩ := w.w.d
 obtain ⟨l', e1', la1⟩ := w.w.nums
 obtain ⟨fs', e2', la2⟩ := w.w.tab
 obtain ⟨gs', e3', la3⟩ := w.w.host
 refine ⟨⟨⟨a, setOld (by lia) e, la⟩, ⟨l', setOld (by lia) e1', la1⟩, setOld (by lia) w.w.rows, setOld (by lia) w.w.index, ⟨fs', setOld (by lia) e2', la2⟩, ⟨gs', setOld (by lia) e3', la3⟩, w.w.size, w.w.nodup, w.w.flat, w.w.ge, w.w.ne⟩, w.k.set (.inl h)⟩
theorem Wk.len (w : Wk x σ b R σ') : σ.length ≤ σ'.length := w.k.1
end

noncomputable def Lo (σ0 σ : St) (i : Nat) (o : Ob) : Prop := σ0.length ≤ i ∧ σ[i]? = some o
section
variable {x : X} {b b' : Nat} {R R' : List D} {σ0 σ σ' : St} {o o' : Ob} {i j : Nat}
theorem Wl.notmu (w : Wl x b R σ) (h : σ.length ≤ i) : ¬ x.mu i := by
 intro e
 obtain ⟨a, e1, _⟩ := w.d
 have h1 := at_lt e1; have h2 := at_lt w.rows; have h3 := at_lt w.index
 rcases e with e | e | e <;> lia
theorem Wl.two (w : Wl x b R σ) : 2 ≤ σ.length := by
 obtain ⟨a, e, _⟩ := w.d
 have := at_lt e
 have := w.ge.1
 lia
theorem Wk.new (w : Wk x σ0 b R σ) (p : New σ o i σ') : Wk x σ0 b R σ' := by obtain ⟨rfl, rfl⟩ := p; exact w.push
theorem Wk.upd (w0 : Wl x b' R' σ0) (w : Wk x σ0 b R σ) (h : Lo σ0 σ i o) (p : Upd σ i o' σ') : Wk x σ0 b R σ' := by cases p; exact w.set w0 h.1
theorem Wk.lo (w : Wk x σ0 b R σ) (p : New σ o i σ') : Lo σ0 σ' i o := by obtain ⟨rfl, rfl⟩ := p; exact ⟨w.k.1, pushAt⟩
theorem Lo.new (h : Lo σ0 σ i o) (p : New σ o' j σ') : Lo σ0 σ' i o := by obtain ⟨rfl, rfl⟩ := p; exact ⟨h.1, pushOld h.2⟩
theorem Lo.call (w0 : Wl x b' R' σ0) (h : Lo σ0 σ i o) (w : Wk x σ b R σ') : Lo σ0 σ' i o := ⟨h.1, w.k.at (w0.notmu h.1) h.2⟩
theorem Lo.upd (h : Lo σ0 σ i o) (p : Upd σ i o' σ') : Lo σ0 σ' i o' := by cases p; exact ⟨h.1, setAt h.2⟩
theorem Lo.updO (h : Lo σ0 σ i o) (p : Upd σ j o' σ') (n : j ≠ i) : Lo σ0 σ' i o := by cases p; exact ⟨h.1, setOld n h.2⟩
theorem Lo.ne (h : Lo σ0 σ i o) (p : New σ o' j σ') : i ≠ j := by obtain ⟨rfl, rfl⟩ := p; have := at_lt h.2; lia
theorem Lo.ge (h : Lo σ0 σ i o) (w0 : Wl x b' R' σ0) : 2 ≤ i := Nat.le_trans w0.two h.1
theorem Wk.at (w : Wk x σ0 b R σ) (m : ¬ x.mu i) (e : σ0[i]? = some o) : σ[i]? = some o := w.k.at m e
end

section
variable {fns : String → Option Fn} {n b : Nat} {σ : St} {x : X} {R : List D}
theorem put_spec (F : Fns fns) {row : D} (hr : isTup row = true) (w : Wl x (b + 1) R σ) : W (callF fns (n + 1) "TypeTable.put" [.ref x.tab, row] σ) fun d σ' => ∃ R' t, Wk x σ b R' σ' ∧ d = .int (t : Nat) ∧ R <+: R' ∧ R'[t]? = some row ∧ (row ∉ R → t = R.length) ∧ R' = (if row ∈ R then R else R ++ [row]) := by
 obtain ⟨fs, e, l1, l2, l3, l4⟩ := w.tab
 have hs := w.size
 refine (put_raw F e l1 l2 w.rows w.index w.ge.2.1 w.ge.2.2 (by show _ < 100000; lia) w.flat hr).mono ?_
 rintro d σ' (⟨hm, rfl, t, rfl, ht⟩ | ⟨hm, rfl, rfl⟩)
 ·exact ⟨R, t, .start (w.less (by lia)), rfl, List.prefix_refl _, ht, fun h => absurd hm h, by rw [if_pos hm]⟩
 ·obtain ⟨a, ea, la⟩ := w.d
  obtain ⟨m1, m2, m3⟩ := w.ne2
  have k : Kp x σ ((σ.set x.rows (.list (R ++ [row]))).set x.index (.dict (idxF 0 (R ++ [row])))) := (Kp.refl.set (.inr (.inr (.inl rfl)))).set (.inr (.inr (.inr rfl)))
  refine ⟨R ++ [row], R.length, ⟨w.move k ⟨a, setOld m1 (setOld w.ne.1.symm ea), by lia⟩ (setOld m2 (setAt w.rows)) (setAt (setOld m2.symm w.index)) (by rw [List.length_append, List.length_singleton]; lia)
   (List.nodup_append.mpr ⟨w.nodup, by simp, by intro a ha b hb; rw [List.mem_singleton] at hb; subst hb; rintro rfl; exact hm ha⟩) ?_, k⟩, rfl, List.prefix_append _ _, by simp, fun _ => rfl, by rw [if_neg hm]⟩
  intro r hr'
  rcases List.mem_append.mp hr' with h | h
  ·exact w.flat r h
  ·rw [List.mem_singleton] at h; subst h; exact hr

theorem le2 {b i k : Nat} (h : Nat.ble i k = true) : b + i ≤ b + k := Nat.add_le_add_left (Nat.le_of_ble_eq_true h) b
theorem le3 {b i j k : Nat} (h : Nat.ble (i + j) k = true) : b + i + j ≤ b + k := Nat.add_assoc b i j ▸ le2 h
theorem fdivN {a l : Nat} : (a : Int).fdiv l = ((a / l : Nat) : Int) := by
 rw [Int.fdiv_eq_ediv_of_nonneg _ (by lia)]; rfl
theorem fmodN {a l : Nat} : (a : Int).fmod l = ((a % l : Nat) : Int) := by
 rw [Int.fmod_eq_emod_of_nonneg _ (by lia)]; rfl

theorem take_spec (F : Fns fns) {m : Nat} (hm : 0 < m) (hm' : m < 1000) (w : Wl x (b + 1) R σ) : W (callF fns (n + 1) "_law_take" [.ref x.d, .int m] σ) fun v σ' => Wk x σ b R σ' ∧ ∃ k : Nat, v = .int k ∧ k < m := by
 obtain ⟨a, ea, la⟩ := w.d
 obtain ⟨l, el, l1, l2⟩ := w.nums
 have es := setAt (o := .list [.int ((a + 1 : Nat) : Int), .ref x.nums]) ea
 have el' : (σ.set x.d (.list [.int ((a + 1 : Nat) : Int), .ref x.nums]))[x.nums]? = some (.list (l.map .int)) := setOld (fun e => w.ne.2 (.inl e.symm)) el
 have lb : (l.map D.int).length ≤ big := by rw [List.length_map]; show _ ≤ 100000; lia
 refine f_call2 F.law_take fun Q' hQ => ?_
 dl_step
 refine i_lst ea ⟨by decide, Nat.le_of_ble_eq_true rfl⟩ rfl ?_
 dl_step
 refine .list x.d _ 0 rfl rfl ea w.ge.1 ⟨by decide, Nat.lt_of_lt_of_le (Nat.zero_lt_one) (Nat.le_of_ble_eq_true rfl), Nat.le_of_ble_eq_true rfl⟩ ?_
 rintro _ rfl
 dl_step
 refine i_lst es ⟨by decide, Nat.le_of_ble_eq_true rfl⟩ rfl ?_
 dl_step
 refine i_lst es ⟨by decide, Nat.le_of_ble_eq_true rfl⟩ rfl ?_
 refine len_lst el' lb ?_
 rw [List.length_map]
 refine b_mod (by lia) ?_
 rw [fmodN]
 have hlt : a % l.length < l.length := Nat.mod_lt _ (by lia)
 refine i_lst el' ⟨by lia, lb⟩ (d := .int (l[a % l.length])) (by rw [Int.toNat_natCast, List.getElem?_map, List.getElem?_eq_getElem hlt]; rfl) ?_
 dl_step
 refine i_lst es ⟨by decide, Nat.le_of_ble_eq_true rfl⟩ rfl ?_
 refine len_lst el' lb ?_
 rw [List.length_map]
 refine b_fdiv (by lia) ?_
 rw [fdivN]
 refine b_mul ⟨by decide, ?_⟩ ?_
 ·have : a / l.length ≤ a := Nat.div_le_self _ _
  rw [Int.natAbs_natCast]; lia
 dl_step
 refine b_mod (by lia) ?_
 dl_step
 have k : Kp x σ (σ.set x.d (.list [.int ((a + 1 : Nat) : Int), .ref x.nums])) := Kp.refl.set (.inr (.inl rfl))
 refine ⟨⟨w.move k ⟨a + 1, es, by lia⟩ (setOld w.ne.1 w.rows) (setOld w.ne2.1.symm w.index) (by have := w.size; lia) w.nodup w.flat, k⟩, ?_⟩
 rw [Int.fmod_eq_emod_of_nonneg _ (by lia)]
 generalize l[a % l.length] + 7 * ((a / l.length : Nat) : Int) = z
 have h1 := Int.emod_nonneg z (b := m) (by lia)
 have h2 := Int.emod_lt_of_pos z (b := m) (by lia)
 exact ⟨(z % m).toNat, by rw [Int.toNat_of_nonneg h1], by lia⟩
end

noncomputable def nmL : List Str := [Str.ofString "void", Str.ofString "undefined", Str.ofString "string", Str.ofString "text", Str.ofString "T[K]", Str.ofString "null", Str.ofString "shape", Str.ofString "number", Str.ofString "question", Str.ofString "three", Str.ofString "keys",
 Str.ofString "true", Str.ofString "object", Str.ofString "{}", Str.ofString "list", Str.ofString "func", Str.ofString "template", Str.ofString "any", Str.ofString "unknown", Str.ofString "error", Str.ofString "never", Str.ofString "*"]
noncomputable abbrev Wd' := Fin 22
noncomputable def nm (k : Wd') : Str := nmL.get k
theorem nm_ok : ∀ k : Wd', PyData.strOk (nm k) = true := by decide +kernel
theorem nm_inj : ∀ a b : Wd', nm a = nm b → a = b := by decide +kernel
theorem nm_find {k : Nat} (h : k < 22) : (nmL.map D.str)[k]? = some (.str (nm ⟨k, h⟩)) := by
 rw [List.getElem?_map, List.getElem?_eq_getElem (show k < nmL.length from h)]; rfl

set_option genInjectivity true in
set_option genCtorIdx true in
inductive Lf | a (k : Wd') | p (i : Nat)
 deriving DecidableEq
set_option genInjectivity true in
set_option genCtorIdx true in
inductive Tp | lf (l : Lf) | m (ls : List Lf)
set_option genInjectivity true in
inductive Tm | tp (t : Tp) | u (ts : List Tp)
noncomputable def Lf.enc : Lf → D
 | .a k => .tup [S "a", .str (nm k)]
 | .p i => .tup [S "p", .int i]
noncomputable def Tp.enc : Tp → D
 | .lf l => l.enc
 | .m ls => .tup [S "&", .tup (ls.map Lf.enc)]
noncomputable def Tm.enc : Tm → D
 | .tp t => t.enc
 | .u ts => .tup [S "|", .tup (ts.map Tp.enc)]
theorem sOk : PyData.strOk (Str.ofString "a") = true ∧ PyData.strOk (Str.ofString "p") = true ∧ PyData.strOk (Str.ofString "&") = true ∧ PyData.strOk (Str.ofString "|") = true ∧ PyData.strOk (Str.ofString "*") = true := by decide +kernel
theorem flatT {n : Nat} {xs : List D} (h : xs.all (Mine.flat n) = true) : Mine.flat (n + 1) (.tup xs) = true := h
theorem isT {xs : List D} (h : xs.all (Mine.flat 5) = true) : isTup (.tup xs) = true := h
theorem flatC {n : Nat} {d : D} {xs : List D} (h : Mine.flat n d = true) (k : xs.all (Mine.flat n) = true) : (d :: xs).all (Mine.flat n) = true := by
 show (Mine.flat n d && xs.all (Mine.flat n)) = true
 rw [h, k]; rfl
theorem flat2 {n : Nat} {a b : D} (h : Mine.flat n a = true) (k : Mine.flat n b = true) : Mine.flat (n + 1) (.tup [a, b]) = true := by
 exact flatT (flatC h (flatC k rfl))
theorem flatS {s : Str} (h : PyData.strOk s = true) : ∀ n, Mine.flat n (.str s) = true
 | 0 => h
 | _ + 1 => h
theorem flatI (i : Int) : ∀ n, Mine.flat n (.int i) = true
 | 0 => rfl
 | _ + 1 => rfl
theorem Lf.flat (n : Nat) : ∀ l : Lf, flat (n + 1) l.enc = true
 | .a k => flat2 (flatS sOk.1 n) (flatS (nm_ok k) n)
 | .p i => flat2 (flatS sOk.2.1 n) (flatI i n)
theorem Lf.flats (n : Nat) (ls : List Lf) : (ls.map Lf.enc).all (Mine.flat (n + 1)) = true := by
 rw [List.all_eq_true]; intro d h
 obtain ⟨l, _, rfl⟩ := List.mem_map.mp h
 exact l.flat n
theorem Tp.flat (n : Nat) : ∀ t : Tp, Mine.flat (n + 3) t.enc = true
 | .lf l => l.flat (n + 2)
 | .m ls => flat2 (flatS sOk.2.2.1 _) (Lf.flats n ls)
theorem Tp.flats (n : Nat) (ls : List Tp) : (ls.map Tp.enc).all (Mine.flat (n + 3)) = true := by
 rw [List.all_eq_true]; intro d h
 obtain ⟨l, _, rfl⟩ := List.mem_map.mp h
 exact l.flat n
theorem Tm.flat : ∀ t : Tm, Mine.flat 6 t.enc = true
 | .tp t => t.flat 3
 | .u ts => flat2 (flatS sOk.2.2.2.1 _) (Tp.flats 1 ts)
theorem Lf.isFlat (l : Lf) : isFlat l.enc = true := by cases l <;> rfl
theorem Tp.isFlat (t : Tp) : Mine.isFlat t.enc = true := by
 cases t with
 | lf l => exact l.isFlat
 | m ls => rfl
theorem Tm.isFlat (t : Tm) : Mine.isFlat t.enc = true := by
 cases t with
 | tp l => exact l.isFlat
 | u ls => rfl

noncomputable def okL (nb : Nat) : Lf → Prop
 | .a k => k.val < 21
 | .p i => i < nb
noncomputable def okM (nb : Nat) (ls : List Lf) : Prop := (∀ l ∈ ls, okL nb l) ∧ (Lf.a 0 ∈ ls → ∀ l ∈ ls, l ≠ .a 1 ∧ l ≠ .a 2) ∧ (∀ k, Lf.a k ∈ ls → k.val ∈ [0, 1, 2, 4, 6, 8, 10, 13]) ∧ ls.length ≤ 10
noncomputable def okP (nb : Nat) : Tp → Prop
 | .lf l => okL nb l
 | .m ls => okM nb ls
noncomputable def okT (nb : Nat) : Tm → Prop
 | .tp t => okP nb t
 | .u ts => (∀ t ∈ ts, okP nb t) ∧ ts.length ≤ 10
noncomputable def okB (nb : Nat) : Option Tm → Prop
 | none => True
 | some (.tp (.lf (.a k))) => k = 0
 | some (.tp (.lf (.p i))) => i < nb
 | some (.tp (.m ls)) => okM nb ls
 | some (.u ts) => (∀ t ∈ ts, okP nb t ∧ t ≠ .lf (.a 20)) ∧ (∃ k, Tp.lf (.a k) ∈ ts) ∧ ts.length ≤ 2
noncomputable def encO : Option Tm → D
 | none => .none
 | some t => t.enc

theorem t_rangeI {σ : St} {z : Int} {n : Nat} {P : List D → Prop} (e : z = n) (l : n ≤ 10000) (h : P ((List.range n).map fun (i : Nat) => D.int (i : Int))) : Wm (itemsOf true (.int z) σ) P := by subst e; exact t_range l h
theorem Wk.two {x : X} {b : Nat} {R : List D} {σ σ' : St} (w : Wk x σ b R σ') : 2 ≤ σ'.length := w.w.two

theorem rn {i j : Nat} (h : i ≠ j) : D.ref i ≠ D.ref j := fun e => h (D.ref.inj e)
section
variable {fns : String → Option Fn} {n b : Nat} {σ : St} {x : X} {R : List D}
theorem name_spec (F : Fns fns) {m : Nat} (hm : 0 < m) (hm' : m < 22) (w : Wl x (b + 1) R σ) : W (callF fns (n + 2) "_law_name" [.ref x.d, .int m] σ) fun v σ' => Wk x σ b R σ' ∧ ∃ k : Wd', v = .str (nm k) ∧ k.val < m := by
 have w0 := Wk.start w
 refine f_call2 F.law_name fun Q' hQ => ?_
 dl_step
 intro o1 σ1 p1
 have l1 := w0.lo p1
 have w1 := w0.new p1
 dl_step
 refine ⟨_, _, rfl, l1.ge w, l1.2, ?_⟩
 dl_step
 intro o2 σ2 p2
 have l2 := w1.lo p2
 have w2 := w1.new p2
 refine ⟨_, _, (l1.new p2).2, at_lst l2.2, ⟨Nat.le_of_ble_eq_true rfl, rn (l1.ne p2).symm, rn (by have := l2.ge w; lia), rn (by have := l2.ge w; lia)⟩, ?_⟩
 intro σ3 p3
 have l3 := (l1.new p2).upd p3
 have w3 := w2.upd w (l1.new p2) p3
 refine ⟨rfl, ?_⟩
 dl_step
 refine (take_spec F hm (by lia) w3.w).m3 fun σ' k w4 hk => ?_
 refine i_lst (l3.call w w4).2 ⟨by lia, Nat.le_of_ble_eq_true rfl⟩ (d := .str (nm ⟨k, by lia⟩)) ?_ ?_
 ·rw [Int.toNat_natCast]
  show ((nmL.take 21).map D.str)[k]? = _
  rw [List.map_take, List.getElem?_take_of_lt (by lia)]; exact nm_find (by lia)
 dl_step
 exact ⟨w3.next w4, _, rfl, hk⟩
end

theorem x_cut {c : Callee} {s : CS} {r : List CS} {L : Loc} {σ : St} {Q : Fl → St → Prop} (M : Loc → St → Prop) (h : ∀ Q', Hc Q' M → W (exs c [s] L σ) Q') (k : ∀ L' σ', M L' σ' → W (exs c r L' σ') Q) : W (exs c (s :: r) L σ) Q := by
 refine x_cons ?_
 obtain ⟨f, σ', e, L', rfl, m⟩ := h (fun f σ' => ∃ L', f = .next L' ∧ M L' σ') fun L _ m => ⟨L, rfl, m⟩
 obtain ⟨f', σ'', e1, e2⟩ := bnd_eq e
 cases f' with
 | next L'' => cases e2; exact ⟨_, _, e1, k _ _ m⟩
 | cont L => cases e2
 | ret d => cases e2
theorem len_one {α : Type} {xs : List α} (e : (xs.length : Int) = 1) : ∃ q, xs = [q] := List.length_eq_one_iff.mp (Int.ofNat_inj.mp e)
theorem isub {l k : Nat} (h : k ≤ l) : (l : Int) - (k : Int) = ((l - k : Nat) : Int) := (Int.ofNat_sub h).symm
theorem imax {l k : Nat} : max ((l : Int) - (k : Int)) 0 = ((l - k : Nat) : Int) := by
 rcases Nat.le_total k l with h | h
 ·exact (Int.max_eq_left (Int.sub_nonneg_of_le (Int.ofNat_le.mpr h))).trans (isub h)
 ·rw [Nat.sub_eq_zero_of_le h]; exact Int.max_eq_right (Int.sub_nonpos_of_le (Int.ofNat_le.mpr h))
theorem bud {a c m j : Nat} (h : j < m) : a + c * (m - (j + 1)) + c ≤ a + c * (m - j) := by
 have e : m - j = m - (j + 1) + 1 := (Nat.succ_pred_eq_of_pos (Nat.sub_pos_of_lt h)).symm
 rw [e, Nat.mul_succ]; exact Nat.le_of_eq (Nat.add_assoc _ _ _)
theorem bud1 {b m j : Nat} (h : j < m) : b + (m - (j + 1)) + 1 ≤ b + (m - j) := Nat.le_of_eq ((Nat.add_assoc _ _ _).trans (congrArg (b + ·) (Nat.succ_pred_eq_of_pos (Nat.sub_pos_of_lt h))))
theorem neN {s k : Nat} : (!decide ((s : Int) = (k : Int))) = decide (s ≠ k) := by rw [← decide_not, decide_eq_decide]; exact not_congr Int.ofNat_inj
theorem strFlat {s : Str} (h : PyData.strOk s = true) : flat 6 (.str s) = true := h
theorem Lf.flats6 (ls : List Lf) : Mine.flats 6 (ls.map Lf.enc) = true := Lf.flats 5 ls
theorem Lf.flat6 (l : Lf) : Mine.flat 6 l.enc = true := l.flat 5
theorem Tp.flats6 (ls : List Tp) : Mine.flats 6 (ls.map Tp.enc) = true := Tp.flats 3 ls
theorem Tp.flat6 (l : Tp) : Mine.flat 6 l.enc = true := l.flat 3
theorem litOk : PyData.strOk (Str.ofString "") = true ∧ PyData.strOk (Str.ofString "*") = true ∧ PyData.strOk (Str.ofString "void") = true := by decide +kernel
noncomputable def told8 : List Str := [Str.ofString "", Str.ofString "", Str.ofString "void", Str.ofString "undefined", Str.ofString "", Str.ofString "string", Str.ofString "shape", Str.ofString "{}"]
theorem told_ok : ∀ k : Fin 8, told8[k] = Str.ofString "" ∨ ∃ a ∈ ([0, 1, 2, 6, 13] : List Wd'), told8[k] = nm a := by decide +kernel
noncomputable def T3 : List Wd' := [4, 10, 8]
noncomputable def Pl (nb : Nat) (l : Lf) : Prop := (∃ i, i < nb ∧ l = .p i) ∨ l = .a 4 ∨ l = .a 10 ∨ l = .a 8
theorem big_of {n : Nat} (h : n ≤ 1000) : n ≤ big := Nat.le_trans h (Nat.le_of_ble_eq_true rfl)

section
variable {fns : String → Option Fn} {n b : Nat} {σ : St} {x : X} {R : List D}
theorem slice_hi {σ : St} {i : Nat} {xs : List D} {Q : D → St → Prop} {h : Nat} (g : σ[i]? = some (.list xs)) (l : xs.length ≤ big) (q : Wn σ (.list (xs.take h)) Q) : W (slice σ (.ref i) .none (.int h)) Q := by
 exact W.bi (at_lst g) (W.gd l (W.bi (gd_pos (Int.natCast_nonneg h)) (W.ret q.it)))
theorem slice_lo {σ : St} {i : Nat} {xs : List D} {Q : D → St → Prop} {h : Nat} (g : σ[i]? = some (.list xs)) (l : xs.length ≤ big) (q : Wn σ (.list (xs.drop h)) Q) : W (slice σ (.ref i) (.int h) .none) Q := by
 exact W.bi (at_lst g) (W.gd l (W.bi (gd_pos (Int.natCast_nonneg h)) (W.ret q.it)))

theorem meet_spec (F : Fns fns) {many : Nat} (h1 : 1 ≤ many) (h2 : many ≤ 14) (w : Wl x (b + 12) R σ) : W (callF fns (n + 2) "_law_meet" [.ref x.d, .int many] σ) fun v σ' => Wk x σ b R σ' ∧ ∃ t : Tp, v = t.enc ∧ okP (many + 5) t := by
 have w0 := Wk.start w
 refine f_call2 F.law_meet fun Q' hQ => ?_
 dl_step
 intro o1 σ1 p1
 have l1 := w0.lo p1
 have w1 := w0.new p1
 refine (take_spec F (m := 8) (by decide) (by decide) w1.w).m3 fun σ2 k w2 hk => ?_
 have l2 := l1.call w w2
 have w2 := w1.next w2
 refine i_lst l2.2 ⟨by lia, Nat.le_of_ble_eq_true rfl⟩ (d := .str (told8[k]'hk)) ?_ ?_
 ·rw [Int.toNat_natCast]
  show (told8.map D.str)[k]? = _
  rw [List.getElem?_map, List.getElem?_eq_getElem (show k < told8.length from hk)]; rfl
 have ht := told_ok ⟨k, hk⟩
 change told8[k]'hk = _ ∨ ∃ a ∈ _, told8[k]'hk = _ at ht
 generalize told8[k]'hk = s at ht ⊢
 have hs : PyData.strOk s = true := by
  rcases ht with rfl | ⟨a, _, rfl⟩
  ·exact litOk.1
  ·exact nm_ok a
 refine x_assign ?_
 clear l1 w1 p1 l2
 refine W.mono (Q := fun (v : D) σ' => ∃ o ps a, v = .ref o ∧ Lo σ σ' o (.list (List.map Lf.enc ps)) ∧ Wk x σ (b + 11) R σ' ∧ a ∈ ([0, 1, 2, 6, 13] : List Wd') ∧ (∀ l ∈ ps, l = .a a) ∧ ps.length ≤ 1) ?_ ?_
 ·dl_step
  refine q_eqF rfl (strFlat hs) (strFlat litOk.1) ?_
  refine Br.dec (fun e => ?_) (fun e => ?_)
  ·dl_step
   intro o3 σ3 p3
   exact ⟨o3, [], 0, rfl, w2.lo p3, w2.new p3, by decide, nofun, by decide⟩
  ·dl_step
   intro o3 σ3 p3
   rcases ht with rfl | ⟨a, ha, rfl⟩
   ·exact absurd rfl e
   ·exact ⟨o3, [.a a], a, rfl, w2.lo p3, w2.new p3, ha, by simp, Nat.le_refl 1⟩
 rintro _ σ3 ⟨o, ps, a, rfl, l3, w3, ha, hps, hlen⟩
 dl_step
 refine (take_spec F (m := 2) (by decide) (by decide) (w3.less (by exact le3 rfl : b + 10 + 1 ≤ _)).w).m3 fun σ4 k' w4 hk' => ?_
 have l4 := l3.call w w4
 have w4 := w3.next w4
 dl_step
 refine t_rangeI (n := 2 + k') (by lia) (by lia) ?_
 refine forGo_inv (fun ds L σ' => E1C6 (fun ps => Lo σ σ' o (.list (List.map Lf.enc ps))) (fun ps => Wk x σ (b + 1 + 2 * ds.length) R σ') (fun ps => Ag ["go", "pick", "one"] [("d", .ref x.d), ("many", .int many), ("told", .str s), ("parts", .ref o)] L) (fun ps => (∀ l ∈ ps, l = .a a ∨ Pl (many + 5) l)) (fun ps => ps.length + ds.length ≤ 4) (fun ps => (ps = [] → ds ≠ []))) ?_ ?_ ?_
 ·rintro L σ5 ⟨ps, l5, w5, hA, hp, hl, hne⟩
  refine ⟨rfl, ?_⟩
  have hne : ps ≠ [] := fun e => hne e rfl
  have hpos : 0 < ps.length := List.length_pos_iff.mpr hne
  have hl : ps.length ≤ 4 := by simpa using hl
  have hb : (ps.map Lf.enc).length ≤ big := big_of (by rw [List.length_map]; lia)
  dl_step
  refine len_lst l5.2 hb ?_
  rw [List.length_map]
  dl_step
  refine (take_spec F hpos (by lia) w5.w).m3 fun σ6 at_ w6 hat => ?_
  have l6 := l5.call w w6
  have w6 := w5.next w6
  dl_step
  refine slice_lo l6.2 hb ?_
  intro o7 σ7 p7
  have l7 := w6.lo p7
  have l6 := l6.new p7
  have w7 := w6.new p7
  dl_step
  refine slice_hi l6.2 hb ?_
  intro o8 σ8 p8
  have l8 := w7.lo p8
  have w8 := w7.new p8
  refine b_cat (l7.new p8).2 l8.2 (big_of (by simp; lia)) ?_
  intro o9 σ9 p9
  have l9 := w8.lo p9
  have w9 := w8.new p9
  rw [List.map_drop.symm, List.map_take.symm, ← List.map_append] at l9
  have hm : ∀ l, l ∈ ps.drop at_ ++ ps.take at_ ↔ l ∈ ps := fun l => by
   rw [List.mem_append]
   exact ⟨fun h => h.elim List.mem_of_mem_drop List.mem_of_mem_take, fun h => by rw [← List.take_append_drop at_ ps, List.mem_append] at h; exact h.symm⟩
  have hq : (ps.drop at_ ++ ps.take at_).length = ps.length := by simp; lia
  generalize ps.drop at_ ++ ps.take at_ = qs at l9 hm hq
  have hb : (qs.map Lf.enc).length ≤ big := big_of (by rw [List.length_map]; lia)
  have ok1 : ∀ l ∈ qs, okL (many + 5) l := fun l hl => by
   rcases hp l ((hm l).mp hl) with rfl | ⟨i, hi, rfl⟩ | rfl | rfl | rfl
   ·show a.val < 21
    simp only [List.mem_cons, List.not_mem_nil, or_false] at ha
    rcases ha with rfl | rfl | rfl | rfl | rfl <;> decide
   ·exact hi
   ·exact (by decide : (4 : Wd').val < 21)
   ·exact (by decide : (10 : Wd').val < 21)
   ·exact (by decide : (8 : Wd').val < 21)
  dl_step
  refine len_lst l9.2 hb ?_
  dl_step
  refine Br.dec (fun e => ?_) (fun e => ?_)
  ·dl_step
   rw [List.length_map] at e
   obtain ⟨q, hq⟩ := len_one e
   refine i_lst l9.2 ⟨by decide, hb⟩ (d := q.enc) (by rw [hq]; rfl) ?_
   dl_step
   exact ⟨w9, .lf q, rfl, ok1 q (hq ▸ .head _)⟩
  ·dl_step
   refine tuple_lst l9.2 hb ?_
   dl_step
   refine ⟨w9, .m qs, rfl, ok1, ?_, ?_, by lia⟩
   ·intro h0 l hl
    have e0 := hp _ ((hm _).mp h0)
    have e1 := hp _ ((hm _).mp hl)
    rcases e0 with e0 | ⟨i, _, e0⟩ | e0 | e0 | e0
    ·cases e0
     rcases e1 with rfl | ⟨i, _, rfl⟩ | rfl | rfl | rfl <;> simp
    ·cases e0
    ·exact absurd e0 (by decide)
    ·exact absurd e0 (by decide)
    ·exact absurd e0 (by decide)
   ·intro k hk
    rcases hp _ ((hm _).mp hk) with e | ⟨i, _, e⟩ | e | e | e
    ·cases e
     simp only [List.mem_cons, List.not_mem_nil, or_false] at ha
     rcases ha with rfl | rfl | rfl | rfl | rfl <;> decide
    ·cases e
    ·cases e; decide
    ·cases e; decide
    ·cases e; decide
 ·rintro d ds L σ5 ⟨ps, l5, w5, hA, hp, hl, hne⟩
  refine ⟨rfl, ?_⟩
  refine x_turn1 fun Q' hQ => ?_
  have hA : Ag ["go", "pick", "one"] [("d", .ref x.d), ("many", .int many), ("told", .str s), ("parts", .ref o)] (setL "go" d L) := hA.set rfl
  dl_step
  refine (take_spec F (m := 9) (by decide) (by decide) (w5.less (by simp only [List.length_cons]; lia : b + 1 + 2 * ds.length + 1 + 1 ≤ _)).w).m3 fun σ6 pk w6 hpk => ?_
  have l6 := l5.call w w6
  have w6 := w5.next w6
  have hA : Ag ["go", "pick", "one"] [("d", .ref x.d), ("many", .int many), ("told", .str s), ("parts", .ref o)] (setL "pick" (.int pk) (setL "go" d L)) := hA.set rfl
  have hpick : (setL "pick" (.int pk) (setL "go" d L)).lookup "pick" = some (D.int pk) := lk_set
  generalize setL "pick" (.int pk) (setL "go" d L) = L1 at hA hpick ⊢
  refine x_cut (fun L' σ' => E1C5 (fun l => L'.lookup "one" = some l.enc) (fun l => Pl (many + 5) l) (fun l => Ag ["go", "pick", "one"] [("d", .ref x.d), ("many", .int many), ("told", .str s), ("parts", .ref o)] L') (fun l => Wk x σ (b + 1 + 2 * ds.length) R σ') (fun l => Lo σ σ' o (.list (ps.map Lf.enc)))) ?_ ?_
  ·intro Q' hQ
   dl_step
   refine Br.dec (fun e => ?_) (fun e => ?_)
   ·dl_step
    refine (take_spec F (by lia : 0 < many) (by lia) w6.w).m3 fun σ7 q w7 hq => ?_
    dl_step
    exact ⟨.p (5 + q), lk_set, .inl ⟨_, by lia, rfl⟩, hA.set rfl, w6.next (w7.less (by lia)), l6.call w w7⟩
   ·dl_step
    refine Br.dec (fun e' => ?_) (fun e' => ?_)
    ·dl_step
     intro o7 σ7 p7
     have l7 := w6.lo p7
     dl_step
     have h6 : 6 ≤ pk := by lia
     have h3 : pk - 6 < 3 := Nat.sub_lt_right_of_lt_add h6 hpk
     have e3 : (pk : Int) - 6 = ((pk - 6 : Nat) : Int) := isub (k := 6) h6
     rw [e3]
     refine i_lst l7.2 ⟨Int.natCast_nonneg _, Nat.le_of_ble_eq_true rfl⟩ (d := .str (nm (T3[pk - 6]'h3))) ?_ ?_
     ·rw [Int.toNat_natCast]
      show (T3.map fun k => D.str (nm k))[pk - 6]? = _
      rw [List.getElem?_map, List.getElem?_eq_getElem (show pk - 6 < T3.length from h3)]; rfl
     dl_step
     refine ⟨.a (T3[pk - 6]'h3), lk_set, .inr ?_, hA.set rfl, (w6.new p7).less (by lia), l6.new p7⟩
     have : ∀ j : Fin 3, Lf.a (T3[j.val]'j.isLt) = .a 4 ∨ Lf.a (T3[j.val]'j.isLt) = .a 10 ∨ Lf.a (T3[j.val]'j.isLt) = .a 8 := by decide
     exact this ⟨pk - 6, h3⟩
    ·dl_step
     intro o7 σ7 p7
     have l7 := w6.lo p7
     dl_step
     have h5 : pk < 5 := by
      have : (pk : Int) ≠ 5 := e
      lia
     refine i_lst l7.2 ⟨Int.natCast_nonneg _, Nat.le_of_ble_eq_true rfl⟩ (d := .int ((([1, 0, 2, 3, 4] : List Nat)[pk]'h5 : Nat) : Int)) ?_ ?_
     ·rw [Int.toNat_natCast]
      show (([1, 0, 2, 3, 4] : List Nat).map fun (k : Nat) => D.int k)[pk]? = _
      rw [List.getElem?_map, List.getElem?_eq_getElem (show pk < ([1, 0, 2, 3, 4] : List Nat).length from h5)]; rfl
     dl_step
     refine ⟨.p (([1, 0, 2, 3, 4] : List Nat)[pk]'h5), lk_set, .inl ⟨_, ?_, rfl⟩, hA.set rfl, (w6.new p7).less (by lia), l6.new p7⟩
     have : ∀ j : Fin 5, ([1, 0, 2, 3, 4] : List Nat)[j.val]'j.isLt < 5 := by decide
     have := this ⟨pk, h5⟩
     simp only at this
     lia
  ·rintro L2 σ7 ⟨l, hl7, hPl, hA, w7, l7⟩
   simp only [List.length_cons] at hl
   dl_step
   refine q_ninL l7.2 l.flat6 (Lf.flats6 ps) ?_
   refine Br.ndec (fun e => ?_) (fun e => ?_)
   ·dl_step
    refine ⟨o, _, rfl, l7.ge w, l7.2, ?_⟩
    dl_step
    refine ⟨_, l7.2, big_of (by rw [List.length_map]; lia), ?_⟩
    intro σ8 p8
    have l8 := l7.upd p8
    refine ⟨rfl, ?_⟩
    dl_step
    refine ⟨ps ++ [l], by rw [List.map_append]; exact l8, w7.upd w l7 p8, hA, ?_, by simp; lia, by simp⟩
    intro y hy
    rcases List.mem_append.mp hy with h | h
    ·exact hp y h
    ·rw [List.mem_singleton] at h; subst h; exact .inr hPl
   ·dl_step
    refine ⟨ps, l7, w7, hA, hp, by lia, fun h => ?_⟩
    subst h; cases e
 ·exact ⟨ps, l4, w4.less (by rw [List.length_map, List.length_range]; lia), .refl, fun l hl => .inl (hps l hl), by rw [List.length_map, List.length_range]; lia, fun _ h => by
   have := congrArg List.length h
   rw [List.length_map, List.length_range] at this
   simp at this⟩
end

theorem x_iteB {c : Callee} {t : CE} {b o r : List CS} {L : Loc} {σ : St} {Q : Fl → St → Prop} (h : W (ev c L t σ) fun d σ' => (∃ v, d = .bool v) ∧ σ' = σ) (a : W (exs c b L σ) (Nx c r Q)) (a' : W (exs c o L σ) (Nx c r Q)) : W (exs c (.ite t b o :: r) L σ) Q := by
 refine x_ite (h.mono ?_)
 rintro d σ' ⟨⟨v, rfl⟩, rfl⟩
 exact Br.bool (fun _ => a) (fun _ => a')
theorem encO_flat : ∀ t : Option Tm, t = none ∨ flat 6 (encO t) = true
 | none => .inl rfl
 | some t => .inr t.flat
section
variable {fns : String → Option Fn} {n b : Nat} {σ : St} {x : X} {R : List D}
theorem evs_lits {c : Callee} {L : Loc} {σ : St} {Q : List D → St → Prop} : ∀ {ds : List D}, Q ds σ → W (evs c L (ds.map .lit) σ) Q
 | [], h => es_nil h
 | d :: ds, h => es_cons (e_lit (evs_lits (Q := fun l σ => Q (d :: l) σ) h))
theorem pick_spec (F : Fns fns) {L : Loc} {m : Nat} {Q : D → St → Prop} (ds : List D) (hm : 0 < m) (hl : m = ds.length) (hb : m < 1000) (w : Wl x (b + 1) R σ) (hd : L.lookup "d" = some (.ref x.d)) (k : ∀ k (h : k < ds.length) σ', Wk x σ b R σ' → Q (ds[k]) σ') :
  W (ev (callF fns (n + 1)) L (.sub (.list (ds.map .lit)) (.call "_law_take" [.var "d", .lit (.int m)])) σ) Q := by
 refine e_sub (e_list (evs_lits ?_))
 intro o1 σ1 p1
 have w1 := (Wk.start w).new p1
 have l1 := (Wk.start w).lo p1
 refine e_call (es_cons (e_var hd (es_cons (e_lit (es_nil ?_)))))
 refine (take_spec F hm hb w1.w).m3 fun σ2 i w2 hi => ?_
 have hi' : i < ds.length := hl ▸ hi
 refine i_lst (l1.call w w2).2 ⟨by lia, big_of (by lia)⟩ (d := ds[i]) (by rw [Int.toNat_natCast, List.getElem?_eq_getElem hi']) ?_
 exact k i hi' σ2 (w1.next w2)

theorem term_spec (F : Fns fns) {many : Nat} (h1 : 1 ≤ many) (h2 : many ≤ 14) (w : Wl x (b + 50) R σ) : W (callF fns (n + 3) "_law_term" [.ref x.d, .int many] σ) fun v σ' => Wk x σ b R σ' ∧ ∃ t : Tm, v = t.enc ∧ okT (many + 5) t := by
 have w0 := Wk.start w
 refine f_call2 F.law_term fun Q' hQ => ?_
 dl_step
 intro o σ1 p1
 have l1 := w0.lo p1
 have w1 := w0.new p1
 dl_step
 refine (take_spec F (m := 3) (by decide) (by decide) (w1.less (by exact le3 rfl : b + 48 + 1 ≤ _)).w).m3 fun σ2 k w2 hk => ?_
 have l2 := l1.call w w2
 have w2 := w1.next w2
 dl_step
 refine t_rangeI (n := 1 + k) (by lia) (by lia) ?_
 refine forGo_inv (fun ds L σ' => E1C5 (fun ts => Lo σ σ' o (.list (List.map Tp.enc ts))) (fun ts => Wk x σ (b + 14 * ds.length) R σ') (fun ts => Ag ["go", "pick", "one"] [("d", .ref x.d), ("many", .int many), ("out", .ref o)] L) (fun ts => (∀ l ∈ ts, okP (many + 5) l)) (fun ts => ts.length + ds.length ≤ 3)) ?_ ?_ ?_
 ·rintro L σ3 ⟨ts, l3, w3, hA, hp, hl⟩
  have hl : ts.length ≤ 3 := by simpa using hl
  have hb : (ts.map Tp.enc).length ≤ big := big_of (by rw [List.length_map]; lia)
  refine ⟨rfl, ?_⟩
  dl_step
  refine len_lst l3.2 hb ?_
  dl_step
  refine Br.dec (fun e => ?_) (fun e => ?_)
  ·dl_step
   rw [List.length_map] at e
   obtain ⟨q, hq⟩ := len_one e
   refine i_lst l3.2 ⟨by decide, hb⟩ (d := q.enc) (by rw [hq]; rfl) ?_
   dl_step
   exact ⟨w3, .tp q, rfl, hp q (hq ▸ .head _)⟩
  ·dl_step
   refine tuple_lst l3.2 hb ?_
   dl_step
   exact ⟨w3, .u ts, rfl, hp, by lia⟩
 ·rintro d ds L σ3 ⟨ts, l3, w3, hA, hp, hl⟩
  simp only [List.length_cons] at hl
  refine ⟨rfl, ?_⟩
  refine x_turn1 fun Q' hQ => ?_
  have hA : Ag ["go", "pick", "one"] [("d", .ref x.d), ("many", .int many), ("out", .ref o)] (setL "go" d L) := hA.set rfl
  dl_step
  refine (take_spec F (m := 5) (by decide) (by decide) (w3.less (by simp only [List.length_cons]; lia : b + 14 * ds.length + 13 + 1 ≤ _)).w).m3 fun σ4 pk w4 hpk => ?_
  have l4 := l3.call w w4
  have w4 := w3.next w4
  have hA : Ag ["go", "pick", "one"] [("d", .ref x.d), ("many", .int many), ("out", .ref o)] (setL "pick" (.int pk) (setL "go" d L)) := hA.set rfl
  have hpick : (setL "pick" (.int pk) (setL "go" d L)).lookup "pick" = some (D.int pk) := lk_set
  generalize setL "pick" (.int pk) (setL "go" d L) = L1 at hA hpick ⊢
  refine x_cut (fun L' σ' => E1C5 (fun l => L'.lookup "one" = some (Tp.enc l)) (fun l => okP (many + 5) l) (fun l => Ag ["go", "pick", "one"] [("d", .ref x.d), ("many", .int many), ("out", .ref o)] L') (fun l => Wk x σ (b + 14 * ds.length) R σ') (fun l => Lo σ σ' o (.list (List.map Tp.enc ts)))) ?_ ?_
  ·intro Q' hQ
   dl_step
   refine Br.dec (fun e => ?_) (fun e => ?_)
   ·dl_step
    refine (meet_spec F h1 h2 (w4.less (by lia : b + 14 * ds.length + 12 ≤ _)).w).m3 fun σ5 t w5 ht => ?_
    dl_step
    exact ⟨t, lk_set, ht, hA.set rfl, w4.next w5, l4.call w w5⟩
   ·dl_step
    refine Br.dec (fun e => ?_) (fun e => ?_)
    ·dl_step
     refine (name_spec F (m := 21) (by decide) (by decide) (w4.less (by lia : b + 14 * ds.length + 1 ≤ _)).w).m3 fun σ5 t w5 ht => ?_
     dl_step
     exact ⟨.lf (.a t), lk_set, ht, hA.set rfl, w4.next w5, l4.call w w5⟩
    ·dl_step
     refine Br.dec (fun e => ?_) (fun e => ?_)
     ·dl_step
      exact ⟨.lf (.p 5), lk_set, (by show 5 < many + 5; lia), hA.set rfl, w4.less (by lia), l4⟩
     ·dl_step
      refine Br.dec (fun e => ?_) (fun e => ?_)
      ·dl_step
       refine (take_spec F (m := 5) (by decide) (by decide) (w4.less (by lia : b + 14 * ds.length + 1 ≤ _)).w).m3 fun σ5 q w5 hq => ?_
       dl_step
       exact ⟨.lf (.p q), lk_set, (by show q < many + 5; lia), hA.set rfl, w4.next w5, l4.call w w5⟩
      ·dl_step
       refine (take_spec F h1 (by lia) (w4.less (by lia : b + 14 * ds.length + 1 ≤ _)).w).m3 fun σ5 q w5 hq => ?_
       dl_step
       exact ⟨.lf (.p (5 + q)), lk_set, (by show 5 + q < many + 5; lia), hA.set rfl, w4.next w5, l4.call w w5⟩
  ·rintro L2 σ5 ⟨l, hl5, hPl, hA, w5, l5⟩
   dl_step
   refine q_ninL l5.2 l.flat6 (Tp.flats6 ts) ?_
   refine Br.ndec (fun e => ?_) (fun e => ?_)
   ·dl_step
    refine ⟨o, _, rfl, l5.ge w, l5.2, ?_⟩
    dl_step
    refine ⟨_, l5.2, big_of (by rw [List.length_map]; lia), ?_⟩
    intro σ6 p6
    have l6 := l5.upd p6
    refine ⟨rfl, ?_⟩
    dl_step
    refine ⟨ts ++ [l], by rw [List.map_append]; exact l6, w5.upd w l5 p6, hA, ?_, by simp; lia⟩
    intro y hy
    rcases List.mem_append.mp hy with h | h
    ·exact hp y h
    ·rw [List.mem_singleton] at h; subst h; exact hPl
   ·dl_step
    exact ⟨ts, l5, w5, hA, hp, by lia⟩
 ·exact ⟨[], l2, w2.less (by rw [List.length_map, List.length_range]; lia), .refl, nofun, by rw [List.length_map, List.length_range]; simp; lia⟩

theorem okM2 {nb : Nat} {i j : Nat} (hi : i < nb) (hj : j < nb) : okM nb [.p i, .p j] := by
 refine ⟨?_, ?_, ?_, Nat.le_of_ble_eq_true rfl⟩
 ·intro l hl; simp only [List.mem_cons, List.not_mem_nil, or_false] at hl
  rcases hl with rfl | rfl
  ·exact hi
  ·exact hj
 ·intro h; simp at h
 ·intro k h; simp at h
theorem okB2 {nb : Nat} {k : Wd'} {t : Tp} (hk : k.val < 20) (ht : okP nb t) (hn : t ≠ .lf (.a 20)) : okB nb (some (.u [.lf (.a k), t])) ∧ okB nb (some (.u [t, .lf (.a k)])) := by
 have ha : okP nb (.lf (.a k)) ∧ Tp.lf (.a k) ≠ .lf (.a 20) := ⟨by show k.val < 21; lia, by rintro ⟨⟩; exact absurd hk (by decide)⟩
 refine ⟨⟨?_, ⟨k, by simp⟩, Nat.le_of_ble_eq_true rfl⟩, ⟨?_, ⟨k, by simp⟩, Nat.le_of_ble_eq_true rfl⟩⟩
 ·intro l hl; simp only [List.mem_cons, List.not_mem_nil, or_false] at hl
  rcases hl with rfl | rfl
  ·exact ha
  ·exact ⟨ht, hn⟩
 ·intro l hl; simp only [List.mem_cons, List.not_mem_nil, or_false] at hl
  rcases hl with rfl | rfl
  ·exact ⟨ht, hn⟩
  ·exact ha
theorem many_ok : ∀ k : Fin 8, 1 ≤ ([2, 12, 13, 1, 3, 11, 5, 14] : List Nat)[k] ∧ ([2, 12, 13, 1, 3, 11, 5, 14] : List Nat)[k] ≤ 14 := by decide

theorem bounds_spec (F : Fns fns) (w : Wl x (b + 50) R σ) : W (callF fns (n + 3) "_law_bounds" [.ref x.d] σ) fun v σ' => Wk x σ b R σ' ∧ ∃ (o many : Nat) (B : List (Option Tm)), v = .ref o ∧ Lo σ σ' o (.list (B.map encO)) ∧ 1 ≤ many ∧ many ≤ 14 ∧ B.length = many + 5 ∧ ∀ t ∈ B, okB (many + 5) t := by
 have w0 := Wk.start w
 refine f_call1 F.law_bounds fun Q' hQ => ?_
 refine x_assign ?_
 refine pick_spec F (b := b + 49) (m := 8) [.int (2 : Nat), .int (12 : Nat), .int (13 : Nat), .int (1 : Nat), .int (3 : Nat), .int (11 : Nat), .int (5 : Nat), .int (14 : Nat)] (by decide) rfl (by decide) w rfl ?_
 intro k hk σ1 w1
 have hm := many_ok ⟨k, hk⟩
 have em : ([.int (2 : Nat), .int (12 : Nat), .int (13 : Nat), .int (1 : Nat), .int (3 : Nat), .int (11 : Nat), .int (5 : Nat), .int (14 : Nat)] : List D)[k] = .int ((([2, 12, 13, 1, 3, 11, 5, 14] : List Nat)[k]'hk : Nat) : Int) := by
  show (List.map (fun (k : Nat) => D.int k) ([2, 12, 13, 1, 3, 11, 5, 14] : List Nat))[k] = _
  rw [List.getElem_map]
 rw [em]
 change 1 ≤ ([2, 12, 13, 1, 3, 11, 5, 14] : List Nat)[k]'hk ∧ ([2, 12, 13, 1, 3, 11, 5, 14] : List Nat)[k]'hk ≤ 14 at hm
 generalize ([2, 12, 13, 1, 3, 11, 5, 14] : List Nat)[k]'hk = many at hm ⊢
 obtain ⟨h1, h2⟩ := hm
 clear em
 dl_step
 refine (take_spec F (m := 6) (by decide) (by decide) (w1.less (by exact le3 rfl : b + 48 + 1 ≤ _)).w).m3 fun σ2 form w2 hform => ?_
 have w2 := w1.next w2
 dl_step
 refine (take_spec F h1 (by lia) (w2.less (by exact le3 rfl : b + 47 + 1 ≤ _)).w).m3 fun σ3 at_ w3 hat => ?_
 have w3 := w2.next w3
 dl_step
 refine (name_spec F (m := 20) (by decide) (by decide) (w3.less (by exact le3 rfl : b + 46 + 1 ≤ _)).w).m3 fun σ4 k1 w4 hk1 => ?_
 have w4 := w3.next w4
 dl_step
 refine (name_spec F (m := 20) (by decide) (by decide) (w4.less (by exact le3 rfl : b + 45 + 1 ≤ _)).w).m3 fun σ5 k2 w5 hk2 => ?_
 have w5 := w4.next w5
 dl_step
 intro o σ6 p6
 have l6 : Lo σ σ6 o (.list (List.map encO [none, some (.tp (.lf (.a 0))), some (.u [.lf (.a 0), .lf (.a 3)]), some (.u [.lf (.a k1), .lf (.a k2)]), some (.tp (.m [.p 0, .p 1]))])) := w5.lo p6
 have w6 := w5.new p6
 have hB0 : ∀ t ∈ [none, some (Tm.tp (.lf (.a 0))), some (.u [.lf (.a 0), .lf (.a 3)]), some (.u [.lf (.a k1), .lf (.a k2)]), some (.tp (.m [.p 0, .p 1]))], okB (many + 5) t := by
  intro t ht
  simp only [List.mem_cons, List.not_mem_nil, or_false] at ht
  rcases ht with rfl | rfl | rfl | rfl | rfl
  ·trivial
  ·rfl
  ·exact (okB2 (k := 0) (t := .lf (.a 3)) (by decide) (by show (3 : Nat) < 21; decide) (fun h => absurd (Lf.a.inj (Tp.lf.inj h)) (by decide))).1
  ·refine (okB2 (t := .lf (.a k2)) hk1 (by show k2.val < 21; lia) ?_).1
   rintro ⟨⟩; exact absurd hk2 (by decide)
  ·exact okM2 (by lia) (by lia)
 clear w0 w1 w2 w3 w4 w5 p6
 dl_step
 refine t_rangeI (n := many - 1) (by lia) (by lia) ?_
 refine forGo_inv (fun ds L σ' => E1C6 (fun ts => Lo σ σ' o (.list (List.map encO ts))) (fun ts => Wk x σ (b + 10) R σ') (fun ts => Ag ["place", "on"] [("d", .ref x.d), ("many", .int many), ("form", .int form), ("at", .int at_), ("wide", (Tm.u [.lf (.a k1), .lf (.a k2)]).enc), ("out", .ref o)] L) (fun ts => (∀ t ∈ ts, okB (many + 5) t)) (fun ts => ts.length + ds.length = many + 4) (fun ts => ∀ d ∈ ds, ∃ i : Nat, d = .int i ∧ i < many - 1)) ?_ ?_ ?_
 ·rintro L σ7 ⟨ts, l7, w7, hA, hp, hl, -⟩
  refine ⟨rfl, ?_⟩
  simp only [List.length_nil, Nat.add_zero] at hl
  dl_step
  refine (take_spec F (m := 5) (by decide) (by decide) (w7.less (by exact le3 rfl : b + 5 + 1 ≤ _)).w).m3 fun σ8 en w8 hen => ?_
  have l8 := l7.call w w8
  have w8 := w7.next w8
  have hA : Ag ["place", "on", "end"] [("d", .ref x.d), ("many", .int many), ("form", .int form), ("at", .int at_), ("wide", (Tm.u [.lf (.a k1), .lf (.a k2)]).enc), ("out", .ref o)] (setL "end" (.int en) L) := Ag.set (fun y hy => hA y (by
   simp only [List.contains_cons, Bool.or_eq_false_iff] at hy ⊢
   exact ⟨hy.1, hy.2.1, hy.2.2.2⟩)) rfl
  have hend : (setL "end" (.int en) L).lookup "end" = some (D.int en) := lk_set
  generalize setL "end" (.int en) L = L1 at hA hend ⊢
  refine x_cut (fun L' σ' => E0C2 (L'.lookup "out" = some (.ref o)) (E1C3 (fun t => okB (many + 5) t) (fun t => Lo σ σ' o (.list (List.map encO (ts ++ [t])))) (fun t => Wk x σ b R σ'))) ?_ ?_
  ·intro Q' hQ
   have fin : ∀ {t : Option Tm} {σ9 σ10 : St}, okB (many + 5) t → Wk x σ b R σ9 → Lo σ σ9 o (.list (List.map encO ts)) → Upd σ9 o (.list (List.map encO ts ++ [encO t])) σ10 → (E1C3 (fun t => okB (many + 5) t) (fun t => Lo σ σ10 o (.list (List.map encO (ts ++ [t])))) (fun t => Wk x σ b R σ10)) := fun ht w9 l9 p => ⟨_, ht, by rw [List.map_append]; exact l9.upd p, w9.upd w l9 p⟩
   have hb : (ts.map encO).length ≤ big := big_of (by rw [List.length_map]; lia)
   dl_step
   refine Br.dec (fun e => ?_) (fun e => ?_)
   ·dl_step
    refine ⟨o, _, rfl, l8.ge w, l8.2, ?_⟩
    dl_step
    refine (name_spec F (m := 20) (by decide) (by decide) (w8.less (by exact le3 rfl : b + 4 + 1 ≤ _)).w).m3 fun σ9 k3 w9 hk3 => ?_
    have l9 := l8.call w w9
    have w9 := w8.next w9
    dl_step
    refine (name_spec F (m := 20) (by decide) (by decide) (w9.less (by exact le3 rfl : b + 3 + 1 ≤ _)).w).m3 fun σ10 k4 w10 hk4 => ?_
    have l10 := l9.call w w10
    have w10 := w9.next w10
    dl_step
    refine ⟨_, l10.2, hb, ?_⟩
    intro σ11 p11
    refine ⟨rfl, ?_⟩
    dl_step
    refine ⟨hA.look rfl rfl, fin (t := some (.u [.lf (.a k3), .lf (.a k4)])) ?_ (w10.less (by lia)) l10 p11⟩
    refine (okB2 (t := .lf (.a k4)) hk3 (by show k4.val < 21; lia) ?_).1
    rintro ⟨⟩; exact absurd hk4 (by decide)
   ·dl_step
    refine Br.dec (fun e => ?_) (fun e' => ?_)
    ·dl_step
     refine ⟨o, _, rfl, l8.ge w, l8.2, ?_⟩
     dl_step
     refine (take_spec F h1 (by lia) (w8.less (by exact le3 rfl : b + 4 + 1 ≤ _)).w).m3 fun σ9 q w9 hq => ?_
     have l9 := l8.call w w9
     have w9 := w8.next w9
     dl_step
     refine ⟨_, l9.2, hb, ?_⟩
     intro σ11 p11
     refine ⟨rfl, ?_⟩
     dl_step
     exact ⟨hA.look rfl rfl, fin (t := some (.tp (.lf (.p (5 + q))))) (by show 5 + q < many + 5; lia) (w9.less (by lia)) l9 p11⟩
    ·dl_step
     refine ⟨o, _, rfl, l8.ge w, l8.2, ?_⟩
     dl_step
     intro o9 σ9 p9
     have l9 := w8.lo p9
     have l8 := l8.new p9
     have w9 := w8.new p9
     dl_step
     have he := List.getElem?_eq_getElem (l := [some (Tm.tp (.lf (.a 0))), none, none, none, some (.u [.lf (.a 1), .lf (.p 2)])]) (i := en) hen
     have ht : ∀ t ∈ [some (Tm.tp (.lf (.a 0))), none, none, none, some (.u [.lf (.a 1), .lf (.p 2)])], okB (many + 5) t := by
      intro t ht
      simp only [List.mem_cons, List.not_mem_nil, or_false] at ht
      rcases ht with rfl | rfl | rfl | rfl | rfl
      ·rfl
      ·trivial
      ·trivial
      ·trivial
      ·exact (okB2 (k := 1) (t := .lf (.p 2)) (by decide) (by show 2 < many + 5; lia) (by rintro ⟨⟩)).1
     have ht := ht _ (List.mem_of_getElem? he)
     refine i_lst (xs := List.map encO [some (Tm.tp (.lf (.a 0))), none, none, none, some (.u [.lf (.a 1), .lf (.p 2)])]) l9.2 ⟨by lia, Nat.le_of_ble_eq_true rfl⟩ (by rw [Int.toNat_natCast, List.getElem?_map, he]; rfl) ?_
     refine ⟨_, l8.2, hb, ?_⟩
     intro σ11 p11
     refine ⟨rfl, ?_⟩
     dl_step
     exact ⟨hA.look rfl rfl, fin ht (w9.less (by lia)) l8 p11⟩
  ·rintro L2 σ9 ⟨hout, t, ht, l9, w9⟩
   dl_step
   refine ⟨w9, o, many, ts ++ [t], rfl, l9, h1, h2, by simp; lia, ?_⟩
   intro y hy
   rcases List.mem_append.mp hy with h | h
   ·exact hp y h
   ·rw [List.mem_singleton] at h; subst h; exact ht
 ·rintro d ds L σ7 ⟨ts, l7, w7, hA, hp, hl, hds⟩
  refine ⟨rfl, ?_⟩
  obtain ⟨i, rfl, hi⟩ := hds d (.head _)
  refine x_turn1 fun Q' hQ => ?_
  refine x_cut (fun L' σ' => E0C2 (σ' = σ7) (L' = setL "on" (D.tup [S "p", .int (6 + i)]) (setL "place" (.int i) L))) ?_ ?_
  ·intro Q' hQ
   dl_step
   exact ⟨rfl, rfl⟩
  rintro _ σ8 ⟨rfl, rfl⟩
  have hA : Ag ["place", "on"] [("d", .ref x.d), ("many", .int many), ("form", .int form), ("at", .int at_), ("wide", (Tm.u [.lf (.a k1), .lf (.a k2)]).enc), ("out", .ref o)] (setL "on" (D.tup [S "p", .int (6 + i)]) (setL "place" (.int i) L)) := (hA.set rfl).set rfl
  have hplace : (setL "on" (D.tup [S "p", .int (6 + i)]) (setL "place" (.int i) L)).lookup "place" = some (D.int i) := lk_setne rfl lk_set
  have hon : (setL "on" (D.tup [S "p", .int (6 + i)]) (setL "place" (.int i) L)).lookup "on" = some (Lf.p (6 + i)).enc := lk_set
  generalize setL "on" (D.tup [S "p", .int (6 + i)]) (setL "place" (.int i) L) = L1 at hA hplace hon ⊢
  have hnb : 6 + i < many + 5 := by lia
  refine x_cut (fun L' σ' => E0C2 (σ' = σ8) (E1C3 (fun t => L'.lookup "on" = some (encO t)) (fun t => okB (many + 5) t) (fun t => Ag ["place", "on"] [("d", .ref x.d), ("many", .int many), ("form", .int form), ("at", .int at_), ("wide", (Tm.u [.lf (.a k1), .lf (.a k2)]).enc), ("out", .ref o)] L'))) ?_ ?_
  ·intro Q' hQ
   refine x_iteB ?_ ?_ ?_
   ·dl_step
    refine Br.dec (fun e => ?_) (fun e => ?_)
    ·dl_step
     refine b_mod (by decide) ?_
     dl_step
     exact ⟨⟨_, rfl⟩, rfl⟩
    ·exact ⟨⟨_, rfl⟩, rfl⟩
   ·dl_step
    exact ⟨rfl, some (.u [.lf (.p (6 + i)), .lf (.a 5)]), lk_set, (okB2 (k := 5) (t := .lf (.p (6 + i))) (by decide) hnb (by rintro ⟨⟩)).2, hA.set rfl⟩
   refine x_iteB ?_ ?_ ?_
   ·dl_step
    refine Br.dec (fun e => ?_) (fun e => ?_)
    ·dl_step
     exact ⟨⟨_, rfl⟩, rfl⟩
    ·exact ⟨⟨_, rfl⟩, rfl⟩
   ·dl_step
    exact ⟨rfl, some (.tp (.m [.p (6 + i), .p 0])), lk_set, okM2 hnb (by lia), hA.set rfl⟩
   refine x_iteB ?_ ?_ ?_
   ·dl_step
    exact ⟨⟨_, rfl⟩, rfl⟩
   ·dl_step
    exact ⟨rfl, some (.tp (.m [.p (6 + i), .p 1])), lk_set, okM2 hnb (by lia), hA.set rfl⟩
   refine x_iteB ?_ ?_ ?_
   ·dl_step
    refine Br.dec (fun e => ?_) (fun e => ?_)
    ·dl_step
     exact ⟨⟨_, rfl⟩, rfl⟩
    ·exact ⟨⟨_, rfl⟩, rfl⟩
   ·dl_step
    exact ⟨rfl, some (.u [.lf (.a 1), .m [.p 1, .p (6 + i)]]), lk_set, (okB2 (k := 1) (t := .m [.p 1, .p (6 + i)]) (by decide) (okM2 (by lia) hnb) (by rintro ⟨⟩)).1, hA.set rfl⟩
   refine x_iteB ?_ ?_ ?_
   ·dl_step
    refine Br.dec (fun e => ?_) (fun e => ?_)
    ·dl_step
     exact ⟨⟨_, rfl⟩, rfl⟩
    ·exact ⟨⟨_, rfl⟩, rfl⟩
   ·dl_step
    exact ⟨rfl, some (.tp (.m [.p 3, .p (6 + i)])), lk_set, okM2 (by lia) hnb, hA.set rfl⟩
   ·dl_step
    exact ⟨rfl, some (.tp (.lf (.p (6 + i)))), hon, hnb, hA⟩
  ·rintro L2 σ9' ⟨rfl, t, hon, ht, hA⟩
   dl_step
   refine ⟨o, _, rfl, l7.ge w, l7.2, ?_⟩
   dl_step
   refine ⟨_, l7.2, big_of (by rw [List.length_map]; simp only [List.length_cons] at hl; lia), ?_⟩
   intro σ9 p9
   refine ⟨rfl, ?_⟩
   dl_step
   refine ⟨ts ++ [t], by rw [List.map_append]; exact l7.upd p9, w7.upd w l7 p9, hA, ?_, by simp at hl ⊢; lia, fun d hd => hds d (.tail _ hd)⟩
   intro y hy
   rcases List.mem_append.mp hy with h | h
   ·exact hp y h
   ·rw [List.mem_singleton] at h; subst h; exact ht
 ·refine ⟨_, l6, w6.less (by lia), .refl, hB0, by rw [List.length_map, List.length_range]; simp; lia, ?_⟩
  intro d hd
  obtain ⟨i, hi, rfl⟩ := List.mem_map.mp hd
  exact ⟨i, rfl, List.mem_range.mp hi⟩
end

noncomputable abbrev tI (t : Nat) : D := .int (t : Int)
theorem tI_inj {a b : Nat} (h : tI a = tI b) : a = b := Int.ofNat_inj.mp (D.int.inj h)
theorem mem_tI {t : Nat} {ts : List Nat} : tI t ∈ ts.map tI ↔ t ∈ ts :=
 ⟨fun h => by obtain ⟨u, hu, e⟩ := List.mem_map.mp h; rw [← tI_inj e]; exact hu, List.mem_map_of_mem⟩
theorem flats_tI {ts : List Nat} : flats 6 (ts.map tI) = true := by
 rw [flats, List.all_eq_true]; intro d h; obtain ⟨u, _, rfl⟩ := List.mem_map.mp h; rfl
theorem flats_tI' {n : Nat} {ts : List Nat} : (ts.map tI).all (flat n) = true := by
 rw [List.all_eq_true]; intro d h; obtain ⟨u, _, rfl⟩ := List.mem_map.mp h; cases n <;> rfl
noncomputable def Lk (R : List D) (t : Nat) (k : Int) : Prop := ∃ rest, R[t]? = some (.tup (.int k :: rest)) ∧ rest.length ≤ 10
theorem pre_at {R R' : List D} {t : Nat} {r : D} (h : R <+: R') (e : R[t]? = some r) : R'[t]? = some r := by
 obtain ⟨s, rfl⟩ := h
 have : t < R.length := by
  rcases Nat.lt_or_ge t R.length with l | l
  ·exact l
  ·rw [List.getElem?_eq_none l] at e; exact none_some e
 rw [List.getElem?_append_left this]; exact e
theorem Lk.pre {R R' : List D} {t : Nat} {k : Int} (h : R <+: R') (e : Lk R t k) : Lk R' t k := by
 obtain ⟨r, e, l⟩ := e; exact ⟨r, pre_at h e, l⟩
theorem Lk.fn {R : List D} {t : Nat} {k k' : Int} (e : Lk R t k) (e' : Lk R t k') : k = k' := by
 obtain ⟨r, e, _⟩ := e; obtain ⟨r', e', _⟩ := e'
 rw [e] at e'; cases e'; rfl
noncomputable def keepU (R : List D) (ks : List Nat) (u : Nat) : Prop := u ≠ 2 ∧ ¬ ((Lk R u 3 ∨ Lk R u 18) ∧ 6 ∈ ks) ∧ ¬ (Lk R u 4 ∧ 7 ∈ ks)
noncomputable def isTop (t : Nat) : Prop := t = 0 ∨ t = 13 ∨ t = 1
noncomputable def IsOut (R : List D) (out : List Nat) (t : Nat) : Prop := (out = [] ∧ t = 2) ∨ out = [t] ∨ (2 ≤ out.length ∧ R[t]? = some (.tup [.int 6, .tup (out.map tI)]))
noncomputable def Asc (l : List Nat) : Prop := l.Pairwise (· < ·)
noncomputable def IsUn (R : List D) (ks : List Nat) (R' : List D) (t : Nat) : Prop :=
 (∃ u ∈ ks, isTop u ∧ isTop t ∧ t ∈ ks ∧ (t ≠ 0 → 0 ∉ ks) ∧ (t = 1 → 13 ∉ ks)) ∨ ((∀ u ∈ ks, ¬ isTop u) ∧ ∃ out, Asc out ∧ (∀ u, u ∈ out ↔ u ∈ ks ∧ keepU R ks u) ∧ IsOut R' out t)
theorem asc_eq : ∀ {a b : List Nat}, Asc a → Asc b → (∀ u, u ∈ a ↔ u ∈ b) → a = b
 | [], [], _, _, _ => rfl
 | [], y :: b, _, _, h => absurd ((h y).mpr (.head _)) (by simp)
 | x :: a, [], _, _, h => absurd ((h x).mp (.head _)) (by simp)
 | x :: a, y :: b, ha, hb, h => by
  unfold Asc at ha hb
  rw [List.pairwise_cons] at ha hb
  have e : x = y := by
   rcases List.mem_cons.mp ((h x).mp (.head _)) with e | e
   ·exact e
   ·rcases List.mem_cons.mp ((h y).mpr (.head _)) with e' | e'
    ·exact e'.symm
    ·have := ha.1 y e'; have := hb.1 x e; lia
  subst e
  rw [asc_eq ha.2 hb.2 fun u => ?_]
  constructor
  ·intro hu
   rcases List.mem_cons.mp ((h u).mp (.tail _ hu)) with e | e
   ·have := ha.1 u hu; lia
   ·exact e
  ·intro hu
   rcases List.mem_cons.mp ((h u).mpr (.tail _ hu)) with e | e
   ·have := hb.1 u hu; lia
   ·exact e
noncomputable def sortN (l : List Nat) : List Nat := l.mergeSort (fun a b => decide (a ≤ b))
theorem sortN_mem {l : List Nat} {u : Nat} : u ∈ sortN l ↔ u ∈ l := List.mem_mergeSort
theorem sortN_len {l : List Nat} : (sortN l).length = l.length := List.length_mergeSort _
theorem sortN_asc {l : List Nat} : (sortN l).Pairwise (· ≤ ·) := by
 have := List.pairwise_mergeSort (le := fun a b : Nat => decide (a ≤ b)) (fun a b c h k => by simp at *; lia) (fun a b => by simp; lia) l
 exact this.imp fun h => by simpa using h
theorem sortI {l : List Nat} : ((l.map (fun n : Nat => (n : Int))).mergeSort (fun a b => decide (a ≤ b))).map D.int = (sortN l).map tI := by
 rw [sortN, ← List.map_mergeSort (r := fun a b : Nat => decide (a ≤ b)) (s := fun a b : Int => decide (a ≤ b)) (f := fun n : Nat => (n : Int)) (fun a _ b _ => by rw [decide_eq_decide]; lia), List.map_map]; rfl

theorem top3 {P : Nat → Prop} {u : Nat} : ∀ {as bs : List Nat}, as ++ u :: bs = [0, 13, 1] → (∀ a ∈ as, ¬ P a) → isTop u ∧ (u ≠ 0 → ¬ P 0) ∧ (u = 1 → ¬ P 13)
 | [], _, h, _ => by simp at h; obtain ⟨rfl, -⟩ := h; simp [isTop]
 | [a], _, h, k => by simp at h; obtain ⟨rfl, rfl, -⟩ := h; exact ⟨.inr (.inl rfl), fun _ => k 0 (.head _), nofun⟩
 | [a, a'], _, h, k => by simp at h; obtain ⟨rfl, rfl, rfl, -⟩ := h; exact ⟨.inr (.inr rfl), fun _ => k 0 (.head _), fun _ => k 13 (.tail _ (.head _))⟩
 | a :: a' :: a'' :: r, _, h, _ => by simp at h
theorem Ag.more {ws ws' : List String} {L0 L : Loc} (h : Ag ws L0 L) (k : ws.all (fun y => ws'.contains y) = true) : Ag ws' L0 L := fun y hy => h y (by
 cases e : ws.contains y with
 | false => rfl
 | true => rw [List.all_eq_true] at k; rw [k y (List.contains_iff_mem.mp e)] at hy; cases hy)
theorem Ag.setB {ws : List String} {L0 L : Loc} {x : String} {d : D} (h : Ag ws L0 L) : Ag ws (setL x d L0) (setL x d L) := fun y hy => by
 by_cases e : y = x
 ·subst e; rw [lk_set, lk_set]
 ·have : (y == x) = false := by simpa using e
  rw [lk_ne this, lk_ne this]; exact h y hy
section
variable {fns : String → Option Fn} {n b : Nat} {σ : St} {x : X} {R : List D}
theorem tabrows {a : String} {v : D} {P : D → Prop} (w : Wl x b R σ) (ha : (a = "rows" ∧ v = .ref x.rows) ∨ (a = "bounds" ∧ v = .ref x.bounds)) (h : P v) : PAttr σ a (.ref x.tab) P := by
 obtain ⟨fs, e, l1, l2, l3, l4⟩ := w.tab
 rcases ha with ⟨rfl, rfl⟩ | ⟨rfl, rfl⟩
 ·exact ⟨_, _, fs, _, rfl, e, l1, h⟩
 ·exact ⟨_, _, fs, _, rfl, e, l3, h⟩
theorem a_rows {P : D → Prop} (w : Wl x b R σ) (h : P (.ref x.rows)) : PAttr σ "rows" (.ref x.tab) P := tabrows w (.inl ⟨rfl, rfl⟩) h
theorem a_bounds {P : D → Prop} (w : Wl x b R σ) (h : P (.ref x.bounds)) : PAttr σ "bounds" (.ref x.tab) P := tabrows w (.inr ⟨rfl, rfl⟩) h
theorem a_tab {P : D → Prop} (w : Wl x b R σ) (h : P (.ref x.tab)) : PAttr σ "tab" (.ref x.host) P := by
 obtain ⟨fs, e, l1, _⟩ := w.host
 exact ⟨_, _, fs, _, rfl, e, l1, h⟩
theorem i_row {t : Nat} {r : D} {P : D → Prop} (w : Wl x b R σ) (e : R[t]? = some r) (h : P r) : Wm (item σ (.ref x.rows) (.int t)) P :=
 i_lst w.rows ⟨by lia, w.big⟩ (by rw [Int.toNat_natCast]; exact e) h
theorem i_hd {σ : St} {a : D} {rest : List D} {P : D → Prop} (l : rest.length ≤ 10) (h : P a) : Wm (item σ (.tup (a :: rest)) (.int 0)) P :=
 i_tup (big_of (by rw [List.length_cons]; lia)) rfl h
theorem m_put {Q : D → St → Prop} {c : Callee} {L : Loc} {es : List CE} (w : Wl x b R σ) (h : W (evs c L es σ) fun ds σ => W (c "TypeTable.put" (.ref x.tab :: ds) σ) Q) : PMeth σ "put" [("TypeTable", "TypeTable.put")] (.ref x.tab) fun i f => W (evs c L es σ) fun ds σ => W (c f (.ref i :: ds) σ) Q := by
 obtain ⟨fs, e, l1, l2, l3, l4⟩ := w.tab
 exact ⟨_, _, fs, _, rfl, e, l4, rfl, h⟩

theorem union_spec (F : Fns fns) {ks : List Nat} {o : Nat} (hk : ∀ t ∈ ks, ∃ k, k ≠ 6 ∧ Lk R t k) (hl : ks.length ≤ 20) (g : σ[o]? = some (.list (ks.map tI))) (hmu : ¬ x.mu o) (w : Wl x (b + 1) R σ) :
  W (callF fns (n + 2) "_law_union" [.ref x.tab, .ref o] σ) fun v σ' => ∃ R' t, Wk x σ b R' σ' ∧ R <+: R' ∧ v = tI t ∧ IsUn R ks R' t := by
 have w0 := Wk.start w
 have hb : ∀ {l : List Nat}, l.length ≤ 20 → (l.map tI).length ≤ big := fun h => big_of (by rw [List.length_map]; lia)
 refine f_call2 F.law_union fun Q' hQ => ?_
 dl_step
 intro of σ1 p1
 have l1 := w0.lo p1
 have w1 := w0.new p1
 dl_step
 refine t_seqL (w1.at hmu g) (hb hl) ?_
 refine forGo_map (fun done L σ' => E0C3 (Lo σ σ' of (.list (List.map tI done))) (Wk x σ (b + 1) R σ') (Ag ["one"] [("tab", .ref x.tab), ("kinds", .ref o), ("flat", .ref of)] L)) ?_ ?_ ⟨l1, w1, .refl⟩
 ·rintro L σ2 ⟨l2, w2, hA⟩
  refine ⟨still_list (w2.at hmu g), ?_⟩
  dl_step
  refine t_seqT (Nat.le_of_ble_eq_true rfl) ?_
  refine forGo_map (f := tI) (xs := [0, 13, 1]) (fun as L σ' => E0C3 (σ' = σ2) (∀ a ∈ as, a ∉ ks) (Ag ["one", "top"] [("tab", .ref x.tab), ("kinds", .ref o), ("flat", .ref of)] L)) ?_ ?_ ⟨rfl, nofun, hA.more rfl⟩
  ·rintro L σ3 ⟨rfl, h3, hA⟩
   refine ⟨rfl, ?_⟩
   have htop : ∀ u ∈ ks, ¬ isTop u := by
    rintro u hu (rfl | rfl | rfl)
    ·exact h3 0 (by simp) hu
    ·exact h3 13 (by simp) hu
    ·exact h3 1 (by simp) hu
   dl_step
   intro oo σ4 p4
   have l4 := w2.lo p4
   have lf4 := l2.new p4
   have w4 := w2.new p4
   have hne : of ≠ oo := l2.ne p4
   dl_step
   refine sorted_lst (ns := ks.map (fun n : Nat => (n : Int))) (by rw [List.map_map]; exact lf4.2) (by rw [List.length_map]; lia) ?_
   rw [sortI]
   intro os σ5 p5
   have l5 := w4.lo p5
   have lo5 := l4.new p5
   have lf5 := lf4.new p5
   have w5 := w4.new p5
   have hne2 : oo ≠ os := l4.ne p5
   refine t_seqL l5.2 (hb (by rw [sortN_len]; exact hl)) ?_
   refine forGo_map (fun pr L σ' => E1C8 (fun out => Lo σ σ' of (.list (List.map tI ks))) (fun out => Lo σ σ' os (.list (List.map tI (sortN ks)))) (fun out => Lo σ σ' oo (.list (List.map tI out))) (fun out => Wk x σ (b + 1) R σ') (fun out => Ag ["one", "top", "sort", "text"] [("tab", .ref x.tab), ("kinds", .ref o), ("flat", .ref of), ("out", .ref oo)] L) (fun out => Asc out) (fun out => (∀ u, u ∈ out ↔ u ∈ pr ∧ keepU R ks u)) (fun out => out.length ≤ pr.length)) ?_ ?_ ⟨[], lf5, l5, lo5, w5, (hA.more rfl).setB, .nil, fun u => ⟨nofun, fun h => nomatch h.1⟩, Nat.le_refl 0⟩
   ·rintro L σ6 ⟨out, lf6, ls6, lo6, w6, hA, hasc, hmem, hlen⟩
    refine ⟨still_list ls6.2, ?_⟩
    rw [sortN_len] at hlen
    have hmem : ∀ u, u ∈ out ↔ u ∈ ks ∧ keepU R ks u := fun u => by rw [hmem, sortN_mem]
    have hbo := hb (l := out) (by lia)
    dl_step
    refine len_lst lo6.2 hbo ?_
    rw [List.length_map]
    dl_step
    refine Br.dec (fun e => ?_) (fun e => ?_)
    ·dl_step
     have e : out = [] := List.length_eq_zero_iff.mp (by lia)
     exact ⟨R, 2, w6.less (by lia), List.prefix_refl _, rfl, .inr ⟨htop, out, hasc, hmem, .inl ⟨e, rfl⟩⟩⟩
    ·dl_step
     refine len_lst lo6.2 hbo ?_
     rw [List.length_map]
     dl_step
     refine Br.dec (fun e1 => ?_) (fun e1 => ?_)
     ·dl_step
      obtain ⟨q, hq⟩ := len_one e1
      refine i_lst lo6.2 ⟨by decide, hbo⟩ (d := tI q) (by rw [hq]; rfl) ?_
      dl_step
      exact ⟨R, q, w6.less (by lia), List.prefix_refl _, rfl, .inr ⟨htop, out, hasc, hmem, .inr (.inl hq)⟩⟩
     ·dl_step
      refine m_put w6.w ?_
      dl_step
      refine tuple_lst lo6.2 hbo ?_
      dl_step
      refine (put_spec F (isT (flatC (flatI _ _) (flatC (flatT flats_tI') rfl))) w6.w).mono ?_
      rintro d σ7 ⟨R', t, w7, rfl, hpre, ht, -⟩
      dl_step
      exact ⟨R', t, w6.next w7, hpre, rfl, .inr ⟨htop, out, hasc, hmem, .inr (.inr ⟨by lia, ht⟩)⟩⟩
   ·rintro pr u rest L σ6 h1 ⟨out, lf6, ls6, lo6, w6, hA, hasc, hmem, hlen⟩
    refine ⟨still_list ls6.2, ?_⟩
    have hu : u ∈ ks := sortN_mem.mp (mem_mid h1)
    have hprlen : pr.length < ks.length := sortN_len (l := ks) ▸ lt_mid h1
    obtain ⟨k, hk6, hLk⟩ := hk u hu
    have hLk' := hLk
    obtain ⟨rr, er, hr⟩ := hLk
    refine x_turn1 fun Q' hQ => ?_
    dl_step
    refine a_rows w6.w ?_
    dl_step
    refine i_row w6.w er ?_
    dl_step
    refine i_hd hr ?_
    have hA : Ag ["one", "top", "sort", "text"] [("tab", .ref x.tab), ("kinds", .ref o), ("flat", .ref of), ("out", .ref oo)] (setL "sort" (.int k) (setL "one" (tI u) L)) := (hA.set rfl).set rfl
    have hone : (setL "sort" (.int k) (setL "one" (tI u) L)).lookup "one" = some (tI u) := lk_setne rfl lk_set
    have hsort : (setL "sort" (.int k) (setL "one" (tI u) L)).lookup "sort" = some (.int k) := lk_set
    generalize setL "sort" (.int k) (setL "one" (tI u) L) = L1 at hA hone hsort ⊢
    refine x_cut (fun L' σ' => E0C2 (σ' = σ6) (E1C5 (fun (v : Bool) => L'.lookup "text" = some (.bool v)) (fun (v : Bool) => (v = true ↔ (Lk R u 3 ∨ Lk R u 18) ∧ 6 ∈ ks)) (fun (v : Bool) => Ag ["one", "top", "sort", "text"] [("tab", .ref x.tab), ("kinds", .ref o), ("flat", .ref of), ("out", .ref oo)] L') (fun (v : Bool) => L'.lookup "one" = some (tI u)) (fun (v : Bool) => L'.lookup "sort" = some (.int k)))) ?_ ?_
    ·intro Q' hQ
     have hk3 : (Lk R u 3 ∨ Lk R u 18) ↔ (k = 3 ∨ k = 18) := ⟨fun h => h.elim (fun h => .inl (hLk'.fn h)) (fun h => .inr (hLk'.fn h)), fun h => by rcases h with rfl | rfl; exact .inl hLk'; exact .inr hLk'⟩
     dl_step
     refine q_inT (ys := [.int 3, .int 18]) rfl rfl ?_
     have hin : D.int k ∈ [D.int 3, D.int 18] ↔ (k = 3 ∨ k = 18) := by simp
     refine Br.dec (fun e => ?_) (fun e => ?_)
     ·dl_step
      refine q_inL lf6.2 rfl flats_tI ?_
      dl_step
      refine ⟨rfl, _, lk_set, ?_, hA.set rfl, lk_setne rfl hone, lk_setne rfl hsort⟩
      rw [decide_eq_true_eq, hk3, ← hin]
      exact ⟨fun h => ⟨e, (mem_tI (t := 6)).mp h⟩, fun h => (mem_tI (t := 6)).mpr h.2⟩
     ·dl_step
      refine ⟨rfl, _, lk_set, ?_, hA.set rfl, lk_setne rfl hone, lk_setne rfl hsort⟩
      rw [decide_eq_true_eq, hk3, ← hin]
      exact ⟨fun h => absurd h e, fun h => absurd h.1 e⟩
    ·rintro L2 σ7 ⟨rfl, v, hv, hviff, hA, hone, hsort⟩
     have hk4 : Lk R u 4 ↔ k = 4 := ⟨fun h => hLk'.fn h, fun h => by rcases h with rfl; exact hLk'⟩
     refine x_ite (W.mono (Q := fun (d : D) σ' => σ' = σ7 ∧ ∃ v : Bool, d = .bool v ∧ (v = true ↔ u ∉ out ∧ keepU R ks u)) ?_ ?_)
     ·unfold keepU
      rw [← hviff, hk4]
      have e7 : tI 7 ∈ ks.map tI ↔ 7 ∈ ks := mem_tI
      have eu : tI u ∈ out.map tI ↔ u ∈ out := mem_tI
      dl_step
      refine Br.ndec (fun e1 => ?_) (fun e1 => ?_)
      ·have e1 : u ≠ 2 := by lia
       dl_step
       refine q_ninL lo6.2 rfl flats_tI ?_
       refine Br.ndec (fun e2 => ?_) (fun e2 => ?_)
       ·dl_step
        refine Br.bool (fun e3 => ?_) (fun e3 => ?_)
        ·dl_step
         refine Br.dec (fun e4 => ?_) (fun e4 => ?_)
         ·dl_step
          refine q_inL lf6.2 rfl flats_tI ?_
          dl_step
          refine ⟨rfl, _, rfl, ?_⟩
          rw [eu] at e2
          rw [Bool.not_eq_true', decide_eq_false_iff_not]
          exact ⟨fun h => ⟨e2, e1, fun q => (by rw [q] at e3; exact nof _ e3), fun q => h (e7.mpr q.2)⟩, fun h q => h.2.2.2 ⟨e4, e7.mp q⟩⟩
         ·dl_step
          refine ⟨rfl, _, rfl, ?_⟩
          rw [eu] at e2
          exact ⟨fun _ => ⟨e2, e1, fun q => (by rw [q] at e3; exact nof _ e3), fun q => e4 q.1⟩, fun _ => by rw [decide_eq_false e4]; rfl⟩
        ·refine ⟨rfl, _, rfl, ?_⟩
         exact ⟨fun h => (by rw [e3] at h; exact nof _ h), fun h => absurd (by cases v; cases e3; rfl) h.2.2.1⟩
       ·refine ⟨rfl, _, rfl, ?_⟩
        exact ⟨fun h => (by rw [decide_eq_true e2] at h; exact nof _ h), fun h => absurd (eu.mp e2) h.1⟩
      ·refine ⟨rfl, _, rfl, ?_⟩
       exact ⟨fun h => (by rw [decide_eq_true e1] at h; exact nof _ h), fun h => absurd (by lia : u = 2) h.2.1⟩
     ·rintro _ σ8 ⟨rfl, v', rfl, hv'⟩
      refine Br.bool (fun h => ?_) (fun h => ?_)
      ·obtain ⟨hnot, hkeep⟩ := hv'.mp h
       dl_step
       refine ⟨oo, _, rfl, lo6.ge w, lo6.2, ?_⟩
       dl_step
       refine ⟨_, lo6.2, hb (by lia), ?_⟩
       intro σ9 p9
       refine ⟨rfl, ?_⟩
       dl_step
       refine ⟨out ++ [u], lf6.updO p9 hne.symm, ls6.updO p9 hne2, by rw [List.map_append]; exact lo6.upd p9, w6.upd w lo6 p9, hA, ?_, ?_, by rw [List.length_append, List.length_append]; exact Nat.succ_le_succ hlen⟩
       ·refine List.pairwise_append.mpr ⟨hasc, by simp, fun a ha c hc => ?_⟩
        rw [List.mem_singleton] at hc; subst hc
        have hle := sortN_asc (l := ks)
        rw [← h1, List.pairwise_append] at hle
        have := hle.2.2 a ((hmem a).mp ha).1 c (.head _)
        rcases Nat.lt_or_eq_of_le this with l | l
        ·exact l
        ·subst l; exact absurd ha hnot
       ·intro z
        rw [List.mem_append, List.mem_append, hmem, List.mem_singleton]
        constructor
        ·rintro (⟨a, c⟩ | rfl)
         ·exact ⟨.inl a, c⟩
         ·exact ⟨.inr rfl, hkeep⟩
        ·rintro ⟨a | rfl, c⟩
         ·exact .inl ⟨a, c⟩
         ·exact .inr rfl
      ·dl_step
       refine ⟨out, lf6, ls6, lo6, w6, hA, hasc, ?_, by rw [List.length_append]; exact Nat.le_succ_of_le hlen⟩
       intro z
       rw [hmem, List.mem_append, List.mem_singleton]
       constructor
       ·rintro ⟨a, c⟩; exact ⟨.inl a, c⟩
       ·rintro ⟨a | rfl, c⟩
        ·exact ⟨a, c⟩
        ·rcases Classical.em (z ∈ out) with m | m
         ·exact (hmem z).mp m
         ·exact absurd (hv'.mpr ⟨m, c⟩) (by rw [h]; decide)
  ·rintro as u bs L σ3 h1 ⟨rfl, h3, hA⟩
   refine ⟨rfl, ?_⟩
   refine x_turn1 fun Q' hQ => ?_
   dl_step
   refine q_inL l2.2 rfl flats_tI ?_
   refine Br.dec (fun e => ?_) (fun e => ?_)
   ·dl_step
    rw [mem_tI] at e
    obtain ⟨t1, t2, t3⟩ := top3 (P := fun a => a ∈ ks) h1 h3
    exact ⟨R, u, w2.less (by lia), List.prefix_refl _, rfl, .inl ⟨u, e, t1, t1, e, t2, t3⟩⟩
   ·dl_step
    rw [mem_tI] at e
    refine ⟨rfl, ?_, hA.set rfl⟩
    intro a ha
    rcases List.mem_append.mp ha with h | h
    ·exact h3 a h
    ·rw [List.mem_singleton] at h; subst h; exact e
 ·rintro done u rest L σ2 h1 ⟨l2, w2, hA⟩
  refine ⟨still_list (w2.at hmu g), ?_⟩
  have hu : u ∈ ks := mem_mid h1
  have hdl : done.length < ks.length := lt_mid h1
  obtain ⟨k, hk6, rr, er, hr⟩ := hk u hu
  refine x_turn1 fun Q' hQ => ?_
  dl_step
  refine ⟨of, _, rfl, l2.ge w, l2.2, ?_⟩
  dl_step
  refine a_rows w2.w ?_
  dl_step
  refine i_row w2.w er ?_
  dl_step
  refine i_hd hr ?_
  dl_step
  refine Br.Fd hk6 ?_
  dl_step
  refine ⟨_, [tI u], l2.2, rfl, ⟨by rw [List.length_map]; exact big_of (by simp; lia), nofun, nofun, nofun⟩, ?_⟩
  intro σ3 p3
  refine ⟨rfl, ?_⟩
  dl_step
  exact ⟨by rw [List.map_append]; exact l2.upd p3, w2.upd w l2 p3, hA.set rfl⟩
end

noncomputable def F2 {α β : Type} (r : α → β → Prop) : List α → List β → Prop
 | [], [] => True
 | a :: l, b :: m => r a b ∧ F2 r l m
 | _, _ => False
section
variable {α β : Type} {r r' : α → β → Prop}
theorem F2.mono : ∀ {l : List α} {m : List β}, (∀ a ∈ l, ∀ b, r a b → r' a b) → F2 r l m → F2 r' l m
 | [], [], _, _ => trivial
 | a :: l, b :: m, h, k => ⟨h a (.head _) b k.1, F2.mono (fun a ha => h a (.tail _ ha)) k.2⟩
theorem F2.snoc : ∀ {l : List α} {m : List β} {a : α} {b : β}, F2 r l m → r a b → F2 r (l ++ [a]) (m ++ [b])
 | [], [], _, _, _, k => ⟨k, trivial⟩
 | a :: l, b :: m, _, _, h, k => ⟨h.1, F2.snoc h.2 k⟩
theorem F2.len : ∀ {l : List α} {m : List β}, F2 r l m → l.length = m.length
 | [], [], _ => rfl
 | a :: l, b :: m, h => by rw [List.length_cons, List.length_cons, F2.len h.2]
theorem F2.left : ∀ {l : List α} {m : List β}, F2 r l m → ∀ a ∈ l, ∃ b ∈ m, r a b
 | [], _, _, _, hc => by cases hc
 | a :: l, b :: m, h, c, hc => by
  rcases List.mem_cons.mp hc with rfl | hc
  ·exact ⟨b, .head _, h.1⟩
  ·obtain ⟨d, hd, k⟩ := F2.left h.2 c hc; exact ⟨d, .tail _ hd, k⟩
theorem F2.right : ∀ {l : List α} {m : List β}, F2 r l m → ∀ b ∈ m, ∃ a ∈ l, r a b
 | _, [], _, _, hc => by cases hc
 | a :: l, b :: m, h, c, hc => by
  rcases List.mem_cons.mp hc with rfl | hc
  ·exact ⟨a, .head _, h.1⟩
  ·obtain ⟨d, hd, k⟩ := F2.right h.2 c hc; exact ⟨d, .tail _ hd, k⟩
theorem F2.fn {f : α → β} : ∀ {l : List α} {m : List β}, F2 (fun a b => b = f a) l m → m = l.map f
 | [], [], _ => rfl
 | a :: l, b :: m, h => by rw [List.map_cons, h.1, ← F2.fn h.2]
end

noncomputable def atomVals (nb : Nat) : List Nat := [3, 4, 6, 17 + nb, 22 + nb, 5, 16 + nb, 7, 24 + nb, 18 + nb, 23 + nb, 9, 10, 11, 19 + nb, 20 + nb, 21 + nb, 0, 1, 13, 2, 0]
noncomputable def atomTy (nb : Nat) (k : Wd') : Nat := (atomVals nb)[k.val]'k.isLt
noncomputable def atomOrder : List Wd' := [0, 1, 5, 2, 7, 11, 12, 13, 17, 18, 19, 20, 6, 3, 9, 14, 15, 16, 4, 10, 8]
noncomputable def atomsD (nb : Nat) : List (D × D) := atomOrder.map fun k => (.str (nm k), tI (atomTy nb k))
theorem order_all : ∀ k : Wd', k.val < 21 → k ∈ atomOrder := by decide
theorem dfind_atoms {f : Wd' → D} {k : Wd'} : ∀ {l : List Wd'}, k ∈ l → dfind (l.map fun k => (.str (nm k), f k)) (.str (nm k)) = some (f k)
 | [], h => by cases h
 | a :: l, h => by
  by_cases e : a = k
  ·subst e; exact dfind_hit
  ·exact (dfind_miss fun h => e (nm_inj _ _ (D.str.inj h))).trans (dfind_atoms ((List.mem_cons.mp h).resolve_left (Ne.symm e)))
theorem keys_str {es : List (D × D)} {s : Str} (h : es.all (fun e => isStr e.1) = true) : keysOk es (.str s) = true := by
 unfold keysOk; rw [h]; rfl
theorem atoms_str {nb : Nat} : (atomsD nb).all (fun e => isStr e.1) = true := rfl
noncomputable def keyR (s : String) : D := .tup [.int 1, S s]
noncomputable def rowAs (nb : Nat) : List D := [keyR "void", keyR "undefined", keyR "string", .tup [.int 3, S "a", .int 0], .tup [.int 15, tI (16 + nb), .int 6], keyR "null", .tup [.int 8, .tup [.tup [S "a", .int 3, .int 0, .int 0]], .tup [], .tup [], .tup [], .tup [], .int 0], keyR "number",
 .tup [.int 16, .int 6, .int 7, .int 3, .int 3, .tup [], .int 0], .tup [.int 4, .int 3, .int 0], .tup [.int 14, tI (16 + nb)], .tup [.int 2, .int 1, .int 0], keyR "object", .tup [.int 8, .tup [], .tup [], .tup [], .tup [], .tup [], .int 0], .tup [.int 11, .int 3, .int 0],
 .tup [.int 13, .tup [], .tup [], .int 3, .tup [], .int 0], .tup [.int 18, .tup [S "x", S ""], .tup [.int 6]], keyR "any", keyR "unknown", keyR "error", keyR "never", .none]
noncomputable def rowA (nb : Nat) (k : Wd') : D := (rowAs nb)[k.val]'k.isLt
noncomputable def kindA : List Int := [1, 1, 1, 3, 15, 1, 8, 1, 16, 4, 14, 2, 1, 8, 11, 13, 18, 1, 1, 1, 1, 0]
structure Base (nb : Nat) (R : List D) : Prop where
 par : ∀ i, i < nb → R[16 + i]? = some (.tup [.int 10, tI i])
 atm : ∀ k : Wd', k.val < 21 → R[atomTy nb k]? = some (rowA nb k)
 b8 : Lk R 8 2
 b14 : Lk R 14 2
theorem Base.pre {nb : Nat} {R R' : List D} (h : R <+: R') (B : Base nb R) : Base nb R' := ⟨fun i hi => pre_at h (B.par i hi), fun k hk => pre_at h (B.atm k hk), B.b8.pre h, B.b14.pre h⟩
noncomputable def leafTy (nb : Nat) : Lf → Nat
 | .a k => atomTy nb k
 | .p i => 16 + i
theorem rowA_kind (nb : Nat) : ∀ k : Wd', k.val < 21 → ∃ rest, rowA nb k = .tup (.int (kindA[k.val]'k.isLt) :: rest) ∧ rest.length ≤ 10
 | ⟨0, _⟩, _ | ⟨1, _⟩, _ | ⟨2, _⟩, _ | ⟨3, _⟩, _ | ⟨4, _⟩, _ | ⟨5, _⟩, _ | ⟨6, _⟩, _ | ⟨7, _⟩, _ | ⟨8, _⟩, _ | ⟨9, _⟩, _ | ⟨10, _⟩, _ | ⟨11, _⟩, _ | ⟨12, _⟩, _ | ⟨13, _⟩, _ | ⟨14, _⟩, _ | ⟨15, _⟩, _ | ⟨16, _⟩, _ | ⟨17, _⟩, _ | ⟨18, _⟩, _ | ⟨19, _⟩, _ | ⟨20, _⟩, _ => ⟨_, rfl, Nat.le_of_ble_eq_true rfl⟩
 | ⟨k + 21, _⟩, h => absurd h (by show ¬ k + 21 < 21; lia)
theorem leafLk {nb : Nat} {R : List D} (B : Base nb R) {l : Lf} (h : okL nb l) : ∃ k, k ≠ 6 ∧ k ≠ 7 ∧ Lk R (leafTy nb l) k := by
 cases l with
 | a k =>
  obtain ⟨rest, e, hl⟩ := rowA_kind nb k h
  have : ∀ k : Wd', (kindA[k.val]'k.isLt) ≠ 6 ∧ (kindA[k.val]'k.isLt) ≠ 7 := by decide
  exact ⟨_, (this k).1, (this k).2, rest, e ▸ B.atm k h, hl⟩
 | p i => exact ⟨10, by decide, by decide, [tI i], B.par i h, by simp⟩

structure Wp (x : X) (nb wi ai pi ri : Nat) (σ : St) : Prop where
 w : σ[wi]? = some (.dict [(S "tab", .ref x.tab), (S "atoms", .ref ai), (S "params", .ref pi), (S "rows", .ref ri)])
 atoms : σ[ai]? = some (.dict (atomsD nb))
 params : σ[pi]? = some (.list (((List.range nb).map fun i => 16 + i).map tI))
 nw : ¬ x.mu wi
 na : ¬ x.mu ai
 np : ¬ x.mu pi
 nb : nb ≤ 20
theorem Wp.keep {x : X} {nb wi ai pi ri b : Nat} {R : List D} {σ σ' : St} (p : Wp x nb wi ai pi ri σ) (w : Wk x σ b R σ') : Wp x nb wi ai pi ri σ' :=
 ⟨w.at p.nw p.w, w.at p.na p.atoms, w.at p.np p.params, p.nw, p.na, p.np, p.nb⟩
theorem i_w {σ : St} {wi : Nat} {es : List (D × D)} {s : Str} {d : D} {P : D → Prop} (g : σ[wi]? = some (.dict es)) (h : es.all (fun e => isStr e.1) = true) (e : dfind es (.str s) = some d) (k : P d) : Wm (item σ (.ref wi) (.str s)) P :=
 i_dict g (keys_str h) e k
theorem i_atom {x : X} {nb wi ai pi ri : Nat} {σ : St} {k : Wd'} {P : D → Prop} (p : Wp x nb wi ai pi ri σ) (hk : k.val < 21) (h : P (tI (atomTy nb k))) : Wm (item σ (.ref ai) (.str (nm k))) P :=
 i_dict p.atoms (keys_str atoms_str) (dfind_atoms (order_all k hk)) h
theorem i_par {x : X} {nb wi ai pi ri : Nat} {σ : St} {i : Nat} {P : D → Prop} (p : Wp x nb wi ai pi ri σ) (hi : i < nb) (h : P (tI (16 + i))) : Wm (item σ (.ref pi) (.int i)) P :=
 i_lst p.params ⟨by lia, big_of (by rw [List.length_map, List.length_map, List.length_range]; have := p.nb; lia)⟩ (by rw [Int.toNat_natCast, List.getElem?_map, List.getElem?_map, List.getElem?_range hi]; rfl) h

noncomputable def rv {α : Type} (back : Bool) (l : List α) : List α := if back then l.reverse else l
noncomputable def TyP (nb : Nat) (back : Bool) (R : List D) : Tp → Nat → Prop
 | .lf l, t => t = leafTy nb l
 | .m ls, t => R[t]? = some (.tup [.int 7, .tup ((rv back (ls.map (leafTy nb))).map tI)])
noncomputable def TyT (nb : Nat) (back : Bool) (R : List D) : Tm → Nat → Prop
 | .tp p, t => TyP nb back R p t
 | .u ts, t => ∃ ks, F2 (TyP nb back R) ts ks ∧ IsUn R ks R t
theorem TyP.pre {nb : Nat} {back : Bool} {R R' : List D} (h : R <+: R') {p : Tp} {t : Nat} (k : TyP nb back R p t) : TyP nb back R' p t := by
 cases p with
 | lf l => exact k
 | m ls => exact pre_at h k
theorem TyP.lk {nb : Nat} {back : Bool} {R : List D} (B : Base nb R) {p : Tp} (h : okP nb p) {t : Nat} (k : TyP nb back R p t) : ∃ j, j ≠ 6 ∧ Lk R t j := by
 cases p with
 | lf l => obtain ⟨j, h1, _, h2⟩ := leafLk B h; exact ⟨j, h1, k ▸ h2⟩
 | m ls => exact ⟨7, by decide, _, k, by simp⟩
theorem Lk.back {R R' : List D} {t : Nat} {j k : Int} (h : R <+: R') (e : Lk R t j) (e' : Lk R' t k) : Lk R t k := by
 rw [← (e.pre h).fn e']; exact e
theorem IsOut.pre {R R' : List D} (h : R <+: R') {out : List Nat} {t : Nat} (k : IsOut R out t) : IsOut R' out t := by
 rcases k with k | k | ⟨k, e⟩
 ·exact .inl k
 ·exact .inr (.inl k)
 ·exact .inr (.inr ⟨k, pre_at h e⟩)
theorem IsUn.pre {R R1 R' : List D} {ks : List Nat} {t : Nat} (hk : ∀ u ∈ ks, ∃ k, k ≠ 6 ∧ Lk R u k) (h : R <+: R') (h1 : R1 <+: R') (k : IsUn R ks R1 t) : IsUn R' ks R' t := by
 rcases k with k | ⟨k1, out, k2, k3, k4⟩
 ·exact .inl k
 ·refine .inr ⟨k1, out, k2, fun u => ?_, k4.pre h1⟩
  rw [k3]
  refine ⟨fun ⟨a, c⟩ => ⟨a, ?_⟩, fun ⟨a, c⟩ => ⟨a, ?_⟩⟩
  all_goals
   obtain ⟨j, _, hj⟩ := hk u a
   have e : ∀ i, Lk R' u i ↔ Lk R u i := fun i => ⟨fun q => hj.back h q, fun q => q.pre h⟩
   unfold keepU at c ⊢
  ·rw [e, e, e]; exact c
  ·rw [e, e, e] at c; exact c
theorem TyT.pre {nb : Nat} {back : Bool} {R R' : List D} (B : Base nb R) (h : R <+: R') {p : Tm} (ok : okT nb p) {t : Nat} (k : TyT nb back R p t) : TyT nb back R' p t := by
 cases p with
 | tp p => exact TyP.pre h k
 | u ts =>
  obtain ⟨ks, k1, k2⟩ := k
  refine ⟨ks, k1.mono fun _ _ _ q => q.pre h, k2.pre (fun u hu => ?_) h h⟩
  obtain ⟨a, ha, q⟩ := k1.right u hu
  exact q.lk B (ok.1 a ha)

section
variable {fns : String → Option Fn} {n b : Nat} {σ : St} {x : X} {R : List D} {nb wi ai pi ri : Nat} {back : Bool}
theorem type_leaf (F : Fns fns) (p : Wp x nb wi ai pi ri σ) {l : Lf} (hl : okL nb l) (w : Wl x b R σ) : W (callF fns (n + 1) "_law_type" [.ref wi, l.enc, .bool back] σ) fun v σ' => Wk x σ b R σ' ∧ v = tI (leafTy nb l) := by
 refine f_call3 F.law_type fun Q' hQ => ?_
 cases l with
 | a k =>
  dl_step
  refine ⟨_, _, rfl, ?_⟩
  dl_step
  refine q_eqF rfl (strFlat sOk.1) (strFlat sOk.1) ?_
  refine Br.Td rfl ?_
  dl_step
  refine i_w p.w rfl rfl ?_
  dl_step
  refine i_atom p hl ?_
  dl_step
  exact ⟨.start w, rfl⟩
 | p i =>
  dl_step
  refine ⟨_, _, rfl, ?_⟩
  dl_step
  refine q_eqF rfl (strFlat sOk.2.1) (strFlat sOk.1) ?_
  refine Br.Fd (by decide) ?_
  dl_step
  refine q_eqF rfl (strFlat sOk.2.1) (strFlat sOk.2.1) ?_
  refine Br.Td rfl ?_
  dl_step
  refine i_w p.w rfl rfl ?_
  dl_step
  refine i_par p hl ?_
  dl_step
  exact ⟨.start w, rfl⟩

theorem comp_types {α : Type} {c : Callee} {L : Loc} {ok : St → Bool} {ts : List α} {enc : α → D} {T : List D → α → Nat → Prop} {k : Nat} (hok : ∀ σ, ok σ = true) (hw : L.lookup "w" = some (.ref wi)) (hb : L.lookup "back" = some (.bool back)) (hT : ∀ {R R' : List D} {a : α} {t : Nat}, R <+: R' → T R a t → T R' a t)
  (spec : ∀ a ∈ ts, ∀ σ' R' b', Wk x σ (b' + k) R' σ' → R <+: R' → W (c "_law_type" [.ref wi, enc a, .bool back] σ') fun v σ'' => ∃ R'' t, Wk x σ' b' R'' σ'' ∧ R' <+: R'' ∧ v = tI t ∧ T R'' a t) (w : Wl x (b + k * ts.length) R σ) :
  W (compGo ok (turn c L (.call "_law_type" [.var "w", .var "one", .var "back"]) (.one "one") none) (ts.map enc) [] σ) fun ys σ' => ∃ R' ks, ys = ks.map tI ∧ F2 (T R') ts ks ∧ Wk x σ b R' σ' ∧ R <+: R' := by
 refine compGo_map (fun done acc σ' => E2C4 (fun R' ks => acc = List.map tI ks) (fun R' ks => F2 (T R') done ks) (fun R' _ => Wk x σ (b + k * (ts.length - done.length)) R' σ') (fun R' _ => R <+: R')) ?_ ?_ ⟨R, [], rfl, trivial, .start w, List.prefix_refl _⟩
 ·rintro acc σ' ⟨R', ks, rfl, h3, h4, h5⟩
  exact ⟨hok _, R', ks, rfl, h3, h4.less (Nat.le_add_right _ _), h5⟩
 ·rintro done a rest acc σ' h1 ⟨R', ks, rfl, h3, h4, h5⟩
  refine ⟨hok _, ?_⟩
  have hl : ts.length - done.length = ts.length - (done ++ [a]).length + 1 := by rw [List.length_append]; exact (Nat.succ_pred_eq_of_pos (Nat.sub_pos_of_lt (lt_mid h1))).symm
  rw [hl, Nat.mul_succ, ← Nat.add_assoc] at h4
  refine c_turn1 rfl fun Q' hQ => ?_
  refine e_call (es_cons (e_var (lk_there rfl hw) (es_cons (e_var rfl (es_cons (e_var (lk_there rfl hb) (es_nil ?_)))))))
  refine (spec a (mem_mid h1) σ' R' (b + k * (ts.length - (done ++ [a]).length)) h4 h5).m4 fun σ'' R'' t g1 g2 g3 => ?_
  dl_step
  exact ⟨R'', ks ++ [t], by rw [List.map_append]; rfl, (h3.mono fun _ _ _ q => hT g2 q).snoc g3, h4.next g1, h5.trans g2⟩

theorem type_tp (F : Fns fns) (B : Base nb R) (p : Wp x nb wi ai pi ri σ) {t : Tp} (ht : okP nb t) (w : Wl x (b + 1) R σ) : W (callF fns (n + 2) "_law_type" [.ref wi, t.enc, .bool back] σ) fun v σ' => ∃ R' u, Wk x σ b R' σ' ∧ R <+: R' ∧ v = tI u ∧ TyP nb back R' t u := by
 cases t with
 | lf l =>
  refine (type_leaf F p ht w).m2 fun σ' w1 => ?_
  exact ⟨R, _, w1.less (by lia), List.prefix_refl _, rfl, rfl⟩
 | m ls =>
  refine f_call3 F.law_type fun Q' hQ => ?_
  dl_step
  refine ⟨_, _, rfl, ?_⟩
  dl_step
  refine q_eqF rfl (strFlat sOk.2.2.1) (strFlat sOk.1) ?_
  refine Br.Fd (by decide) ?_
  dl_step
  refine q_eqF rfl (strFlat sOk.2.2.1) (strFlat sOk.2.1) ?_
  refine Br.Fd (by decide) ?_
  dl_step
  have hlen : (ls.map Lf.enc).length ≤ big := big_of (by rw [List.length_map]; have := ht.2.2.2; lia)
  refine t_seqT hlen ?_
  refine (comp_types (α := Lf) (b := b + 1) (k := 0) (T := fun _ l t => t = leafTy nb l) (fun _ => rfl) rfl rfl (fun _ h => h) (fun l hl σ' R' b' w' _ => (type_leaf F (p.keep w') (ht.1 l hl) w'.w).mono fun v σ'' h => ⟨R', _, h.1, List.prefix_refl _, h.2, rfl⟩) (by rw [Nat.zero_mul]; exact w)).mono ?_
  rintro ys σ1 ⟨R', ks, rfl, h1, w1, h2⟩
  have hks := h1.fn
  intro o σ2 p2
  have l2 := w1.lo p2
  have w2 := w1.new p2
  have hlen : (ks.map tI).length ≤ big := big_of (by rw [List.length_map, ← h1.len]; have := ht.2.2.2; lia)
  dl_step
  refine q_eqF rfl (strFlat sOk.2.2.1) (strFlat sOk.2.2.2.1) ?_
  refine Br.Fd (by decide) ?_
  dl_step
  refine i_w (p.keep w2).w rfl rfl ?_
  refine m_put w2.w ?_
  refine es_cons (e_tup (es_cons (e_lit (es_cons (e_bi ?_)))))
  refine W.mono (Q := fun (v : D) σ' => ∃ o, v = .ref o ∧ Lo σ σ' o (.list ((rv back ks).map tI)) ∧ Wk x σ (b + 1) R' σ') ?_ ?_
  ·dl_step
   cases back with
   | true =>
    refine Br.T ?_
    dl_step
    refine ⟨o, _, rfl, l2.2, hlen, ?_⟩
    intro o3 σ3 p3
    exact ⟨o3, rfl, by rw [rv, if_pos rfl, List.map_reverse]; exact w2.lo p3, w2.new p3⟩
   | false =>
    refine Br.F ?_
    dl_step
    exact ⟨o, rfl, l2, w2⟩
  rintro _ σ3 ⟨o3, rfl, l3, w3⟩
  refine tuple_lst l3.2 (by rw [rv]; split; rw [List.map_reverse, List.length_reverse]; exact hlen; exact hlen) ?_
  dl_step
  refine (put_spec F (isT (flatC (flatI _ _) (flatC (flatT flats_tI') rfl))) w3.w).mono ?_
  rintro d σ4 ⟨R'', u, w4, rfl, hpre, hu, -⟩
  dl_step
  exact ⟨R'', u, w3.next w4, h2.trans hpre, rfl, by rw [TyP, ← hks]; exact hu⟩

theorem type_spec (F : Fns fns) (B : Base nb R) (p : Wp x nb wi ai pi ri σ) {t : Tm} (ht : okT nb t) (w : Wl x (b + 11) R σ) : W (callF fns (n + 3) "_law_type" [.ref wi, t.enc, .bool back] σ) fun v σ' => ∃ R' u, Wk x σ b R' σ' ∧ R <+: R' ∧ v = tI u ∧ TyT nb back R' t u := by
 cases t with
 | tp t =>
  refine (type_tp F B p ht (w.less (by lia : b + 1 ≤ _))).mono ?_
  rintro v σ' ⟨R', u, h1, h2, h3, h4⟩
  exact ⟨R', u, h1, h2, h3, h4⟩
 | u ts =>
  refine f_call3 F.law_type fun Q' hQ => ?_
  dl_step
  refine ⟨_, _, rfl, ?_⟩
  dl_step
  refine q_eqF rfl (strFlat sOk.2.2.2.1) (strFlat sOk.1) ?_
  refine Br.Fd (by decide) ?_
  dl_step
  refine q_eqF rfl (strFlat sOk.2.2.2.1) (strFlat sOk.2.1) ?_
  refine Br.Fd (by decide) ?_
  dl_step
  have hlen : (ts.map Tp.enc).length ≤ big := big_of (by rw [List.length_map]; have := ht.2; lia)
  refine t_seqT hlen ?_
  refine (comp_types (α := Tp) (b := b + 1) (k := 1) (T := TyP nb back) (fun _ => rfl) rfl rfl (fun h k => k.pre h) (fun l hl σ' R' b' w' hp => type_tp F (B.pre hp) (p.keep w') (ht.1 l hl) w'.w) (w.less (by have := ht.2; lia))).mono ?_
  rintro ys σ1 ⟨R', ks, rfl, h1, w1, h2⟩
  intro o σ2 p2
  have l2 := w1.lo p2
  have w2 := w1.new p2
  dl_step
  refine q_eqF rfl (strFlat sOk.2.2.2.1) (strFlat sOk.2.2.2.1) ?_
  refine Br.Td rfl ?_
  dl_step
  refine i_w (p.keep w2).w rfl rfl ?_
  dl_step
  have hk : ∀ u ∈ ks, ∃ k, k ≠ 6 ∧ Lk R' u k := fun u hu => by
   obtain ⟨a, ha, q⟩ := h1.right u hu
   exact q.lk (B.pre h2) (ht.1 a ha)
  refine (union_spec F hk (by rw [← h1.len]; have := ht.2; lia) l2.2 (w.notmu l2.1) w2.w).m4 fun σ3 R'' u w3 hpre hu => ?_
  dl_step
  exact ⟨R'', u, w2.next w3, h2.trans hpre, rfl, ks, h1.mono fun _ _ _ q => q.pre hpre, hu.pre hk hpre (List.prefix_refl _)⟩
end

structure Hs (x : X) (nb : Nat) (bs : List Int) (σ : St) : Prop where
 fam : σ[1]? = some (.dict famDict)
 bounds : σ[x.bounds]? = some (.list (bs.map .int))
 nbnd : ¬ x.mu x.bounds
 len : bs.length = nb
 nb : nb ≤ 20
theorem Wl.n1 {x : X} {b : Nat} {R : List D} {σ : St} (w : Wl x b R σ) : ¬ x.mu 1 := by
 obtain ⟨h1, h2, h3⟩ := w.ge
 rintro (e | e | e) <;> lia
theorem Hs.keep {x : X} {nb b : Nat} {bs : List Int} {R : List D} {σ σ' : St} (h : Hs x nb bs σ) (w : Wk x σ b R σ') : Hs x nb bs σ' := ⟨w.at w.w.n1 h.fam, w.at h.nbnd h.bounds, h.nbnd, h.len, h.nb⟩

noncomputable def Pts (R : List D) (t : Nat) (out : List Nat) : Prop := (t = 2 ∧ out = []) ∨ (t ≠ 2 ∧ out = [t] ∧ ∃ k, k ≠ 6 ∧ Lk R t k) ∨ (t ≠ 2 ∧ R[t]? = some (.tup [.int 6, .tup (out.map tI)]))
noncomputable def freeK : List D := [.int 10, .int 15, .int 16]
noncomputable def famT (t : Nat) : Int := if t = 3 then 6 else if t = 4 then 5 else if t = 5 then 4 else if t = 6 then 1 else if t = 7 then 2 else if t = 10 then 7 else 0
noncomputable def famK (k : Int) (t : Nat) : Int := if k = 1 then famT t else if k = 2 then 3 else if k = 8 ∨ k = 9 ∨ k = 11 ∨ k = 12 ∨ k = 13 then 7 else if k = 3 ∨ k = 18 then 1 else if k = 4 then 2 else 0
theorem fd {i t : Nat} {v X : Int} {r : List (D × D)} (h : (dfind r (tI t)).getD (.int 0) = .int X) : (dfind ((.int (i : Int), .int v) :: r) (tI t)).getD (.int 0) = .int (if t = i then v else X) := by
 by_cases e : t = i
 ·subst e; rw [dfind_hit, if_pos rfl]; rfl
 ·rw [dfind_miss fun q => e (tI_inj q).symm, if_neg e]; exact h
theorem fam_find (t : Nat) : (dfind famDict (tI t)).getD (.int 0) = .int (famK 1 t) := by
 rw [famK, if_pos rfl]
 exact fd (i := 3) (fd (i := 4) (fd (i := 5) (fd (i := 6) (fd (i := 7) (fd (i := 10) rfl)))))

section
variable {fns : String → Option Fn} {n b : Nat} {σ : St} {x : X} {R : List D} {nb : Nat} {bs : List Int}
theorem kind_spec (F : Fns fns) {t : Nat} {k : Int} (h : Lk R t k) (w : Wl x b R σ) : W (callF fns (n + 1) "kind_of" [.ref x.tab, tI t] σ) fun v σ' => σ' = σ ∧ v = .int k := by
 obtain ⟨rest, e, l⟩ := h
 refine f_call2 F.kind_of fun Q' hQ => ?_
 dl_step
 refine a_rows w ?_
 dl_step
 refine i_row w e ?_
 dl_step
 refine i_hd l ?_
 dl_step
 exact ⟨rfl, rfl⟩
theorem parts_spec (F : Fns fns) {t : Nat} {out : List Nat} (h : Pts R t out) (w : Wl x b R σ) : W (callF fns (n + 1) "parts_of" [.ref x.tab, tI t] σ) fun v σ' => σ' = σ ∧ v = .tup (out.map tI) := by
 refine f_call2 F.parts_of fun Q' hQ => ?_
 dl_step
 rcases h with ⟨rfl, rfl⟩ | ⟨h, rfl, k, hk, rest, e, l⟩ | ⟨h, e⟩
 ·refine Br.Td rfl ?_
  dl_step
  exact ⟨rfl, rfl⟩
 ·refine Br.Fd (by lia) ?_
  dl_step
  refine a_rows w ?_
  dl_step
  refine i_row w e ?_
  dl_step
  refine i_hd l ?_
  dl_step
  refine Br.Fd hk ?_
  dl_step
  exact ⟨rfl, rfl⟩
 ·refine Br.Fd (by lia) ?_
  dl_step
  refine a_rows w ?_
  dl_step
  refine i_row w e ?_
  dl_step
  refine i_hd (Nat.le_of_ble_eq_true rfl) ?_
  dl_step
  refine Br.Td rfl ?_
  dl_step
  refine i_tup (Nat.le_of_ble_eq_true rfl) rfl ?_
  dl_step
  exact ⟨rfl, rfl⟩
theorem whole_spec (F : Fns fns) {k : Int} {rest : List D} (hl : rest.length ≤ 10) (h5 : k ≠ 5) : W (callF fns (n + 1) "whole_of_row" [.tup (.int k :: rest)] σ) fun v σ' => σ' = σ ∧ v = .int (if k = 3 ∨ k = 18 then 6 else if k = 4 then 7 else -1) := by
 refine f_call1n F.whole_of_row ?_
 dl_step
 refine i_hd hl ?_
 dl_step
 refine Br.dec (fun e => ?_) (fun e => ?_)
 ·refine Br.Td e ?_
  dl_step
  exact ⟨rfl, by rw [if_pos (.inl e)]⟩
 ·dl_step
  refine Br.dec (fun e' => ?_) (fun e' => ?_)
  ·dl_step
   exact ⟨rfl, by rw [if_pos (.inr e')]⟩
  ·dl_step
   rw [if_neg (not_or.mpr ⟨e, e'⟩)]
   refine Br.dec (fun e2 => ?_) (fun e2 => ?_)
   ·dl_step
    exact ⟨rfl, by rw [if_pos e2]⟩
   ·dl_step
    refine Br.Fd h5 ?_
    dl_step
    refine ⟨1, rfl, ?_⟩
    dl_step
    exact ⟨rfl, by rw [if_neg e2]⟩
theorem fam_leaf (F : Fns fns) (hs : Hs x nb bs σ) {t : Nat} {k : Int} (h : Lk R t k) (h5 : k ≠ 5) (h6 : k ≠ 6) (h7 : k ≠ 7) (w : Wl x b R σ) : W (callF fns (n + 2) "family" [.ref x.tab, tI t] σ) fun v σ' => σ' = σ ∧ v = .int (famK k t) := by
 obtain ⟨rest, e, l⟩ := h
 refine f_call2n F.family ?_
 dl_step
 refine a_rows w ?_
 dl_step
 refine i_row w e ?_
 dl_step
 refine i_hd l ?_
 dl_step
 refine Br.dec (fun e1 => ?_) (fun e1 => ?_)
 ·subst e1
  dl_step
  refine ⟨1, _, rfl, hs.fam, ?_⟩
  dl_step
  refine ⟨_, hs.fam, rfl, ?_⟩
  rw [fam_find]
  dl_step
  exact ⟨rfl, rfl⟩
 dl_step
 refine Br.dec (fun e2 => ?_) (fun e2 => ?_)
 ·subst e2; dl_step; exact ⟨rfl, rfl⟩
 dl_step
 refine q_inT rfl rfl ?_
 have h8 : D.int k ∈ [D.int 8, .int 9, .int 11, .int 12, .int 13] ↔ (k = 8 ∨ k = 9 ∨ k = 11 ∨ k = 12 ∨ k = 13) := by simp
 refine Br.dec (fun e3 => ?_) (fun e3 => ?_)
 ·dl_step
  refine ⟨rfl, ?_⟩
  rw [famK, if_neg e1, if_neg e2, if_pos (h8.mp e3)]
 rw [h8] at e3
 dl_step
 refine Br.Fd h6 ?_
 dl_step
 refine Br.Fd h7 ?_
 dl_step
 refine (whole_spec F l h5).m1 ?_
 rw [famK, if_neg e1, if_neg e2, if_neg e3]
 dl_step
 by_cases e4 : k = 3 ∨ k = 18
 ·rw [if_pos e4, if_pos e4]
  refine Br.Fd (by decide) ?_
  dl_step
  refine Br.Td rfl ?_
  dl_step
  exact ⟨rfl, rfl⟩
 rw [if_neg e4, if_neg e4]
 by_cases e5 : k = 4
 ·rw [if_pos e5, if_pos e5]
  refine Br.Fd (by decide) ?_
  dl_step
  refine Br.Fd (by decide) ?_
  dl_step
  exact ⟨rfl, rfl⟩
 rw [if_neg e5, if_neg e5]
 refine Br.Td (by decide) ?_
 dl_step
 exact ⟨rfl, rfl⟩

theorem kindA5 : ∀ k : Wd', kindA[k.val]'k.isLt ≠ 5 := by decide
theorem leafLk' {l : Lf} (B : Base nb R) (h : okL nb l) : ∃ k, k ≠ 5 ∧ k ≠ 6 ∧ k ≠ 7 ∧ Lk R (leafTy nb l) k ∧ (match l with | .a a => k = kindA[a.val]'a.isLt | .p _ => k = 10) := by
 cases l with
 | a k =>
  obtain ⟨rest, e, hl⟩ := rowA_kind nb k h
  have : ∀ k : Wd', (kindA[k.val]'k.isLt) ≠ 6 ∧ (kindA[k.val]'k.isLt) ≠ 7 := by decide
  exact ⟨_, kindA5 k, (this k).1, (this k).2, ⟨rest, e ▸ B.atm k h, hl⟩, rfl⟩
 | p i => exact ⟨10, by decide, by decide, by decide, ⟨[tI i], B.par i h, by simp⟩, rfl⟩
noncomputable def famA : List Int := [6, 5, 1, 1, 0, 4, 7, 2, 0, 2, 0, 3, 7, 7, 7, 7, 1, 0, 0, 0, 0, 0]
noncomputable def famL : Lf → Int
 | .a k => famA[k.val]'k.isLt
 | .p _ => 0
theorem famK_leaf : ∀ k : Wd', k.val < 21 → famK (kindA[k.val]'k.isLt) (atomTy nb k) = famA[k.val]'k.isLt
 | ⟨0, _⟩, _ | ⟨1, _⟩, _ | ⟨2, _⟩, _ | ⟨3, _⟩, _ | ⟨4, _⟩, _ | ⟨5, _⟩, _ | ⟨6, _⟩, _ | ⟨7, _⟩, _ | ⟨8, _⟩, _ | ⟨9, _⟩, _ | ⟨10, _⟩, _ | ⟨11, _⟩, _ | ⟨12, _⟩, _ | ⟨13, _⟩, _ | ⟨14, _⟩, _ | ⟨15, _⟩, _ | ⟨16, _⟩, _ | ⟨17, _⟩, _ | ⟨18, _⟩, _ | ⟨19, _⟩, _ | ⟨20, _⟩, _ => rfl
 | ⟨k + 21, _⟩, h => absurd h (by show ¬ k + 21 < 21; lia)
theorem family_leaf (F : Fns fns) (B : Base nb R) (hs : Hs x nb bs σ) {l : Lf} (h : okL nb l) (w : Wl x b R σ) : W (callF fns (n + 2) "family" [.ref x.tab, tI (leafTy nb l)] σ) fun v σ' => σ' = σ ∧ v = .int (famL l) := by
 obtain ⟨k, h5, h6, h7, hk, e⟩ := leafLk' B h
 refine (fam_leaf F hs hk h5 h6 h7 w).m1 ?_
 refine ⟨rfl, ?_⟩
 cases l with
 | a a => subst e; rw [show leafTy nb (.a a) = atomTy nb a from rfl, famK_leaf a h]; rfl
 | p i => subst e; rfl
theorem famL_void : ∀ l : Lf, famL l = 6 ↔ l = .a 0
 | .a k => by
  have : ∀ k : Wd', famA[k.val]'k.isLt = 6 ↔ k = 0 := by decide
  exact (this k).trans ⟨fun h => by rw [h], fun h => Lf.a.inj h⟩
 | .p i => by simp [famL]
noncomputable def codes : List Nat := [3, 4, 6, 101, 106, 5, 100, 7, 108, 102, 107, 9, 10, 11, 103, 104, 105, 0, 1, 13, 2, 0]
theorem atomTy_code : ∀ k : Wd', atomTy nb k = if codes[k.val]'k.isLt < 100 then codes[k.val]'k.isLt else codes[k.val]'k.isLt - 84 + nb
 | ⟨0, _⟩ | ⟨1, _⟩ | ⟨2, _⟩ | ⟨3, _⟩ | ⟨4, _⟩ | ⟨5, _⟩ | ⟨6, _⟩ | ⟨7, _⟩ | ⟨8, _⟩ | ⟨9, _⟩ | ⟨10, _⟩ | ⟨11, _⟩ | ⟨12, _⟩ | ⟨13, _⟩ | ⟨14, _⟩ | ⟨15, _⟩ | ⟨16, _⟩ | ⟨17, _⟩ | ⟨18, _⟩ | ⟨19, _⟩ | ⟨20, _⟩ | ⟨21, _⟩ => rfl
 | ⟨k + 22, h⟩ => absurd h (by lia)
theorem codes_ok : ∀ k : Wd', codes[k.val]'k.isLt < 16 ∨ 100 ≤ codes[k.val]'k.isLt ∧ codes[k.val]'k.isLt ≤ 108 := by decide
theorem code_eq {e c nb : Nat} (h : e < 16 ∨ 100 ≤ e ∧ e ≤ 108) (hc : c < 16) : (if e < 100 then e else e - 84 + nb) = c ↔ e = c := by split <;> lia
theorem code_eqN {e c nb : Nat} (h : e < 16 ∨ 100 ≤ e ∧ e ≤ 108) (hc : c < 9) : (if e < 100 then e else e - 84 + nb) = 16 + c + nb ↔ e = 100 + c := by split <;> lia
theorem code_no {e nb : Nat} (h : e < 16 ∨ 100 ≤ e ∧ e ≤ 108) : ¬ (16 ≤ (if e < 100 then e else e - 84 + nb) ∧ (if e < 100 then e else e - 84 + nb) < 16 + nb) := by split <;> lia
theorem atom_eq {c : Nat} (hc : c < 16) (k : Wd') : atomTy nb k = c ↔ codes[k.val]'k.isLt = c := by
 rw [atomTy_code]; exact code_eq (codes_ok k) hc
theorem atom_eqN {c : Nat} (hc : c < 9) (k : Wd') : atomTy nb k = 16 + c + nb ↔ codes[k.val]'k.isLt = 100 + c := by
 rw [atomTy_code]; exact code_eqN (codes_ok k) hc
theorem ty3 (l : Lf) (_ : okL nb l) : leafTy nb l = 3 ↔ l = .a 0 := by
 cases l with
 | p i => exact ⟨fun h => by simp [leafTy] at h; lia, nofun⟩
 | a k =>
  rw [leafTy, atom_eq (by decide)]
  have : ∀ k : Wd', codes[k.val]'k.isLt = 3 ↔ k = 0 := by decide
  exact (this k).trans ⟨fun h => by rw [h], fun h => Lf.a.inj h⟩

theorem rv_mem {α : Type} {back : Bool} {l : List α} {a : α} : a ∈ rv back l ↔ a ∈ l := by
 unfold rv; split
 ·exact List.mem_reverse
 ·rfl
theorem rv_len {α : Type} {back : Bool} {l : List α} : (rv back l).length = l.length := by
 unfold rv; split
 ·exact List.length_reverse
 ·rfl
theorem famM : ∀ k : Wd', k.val ∈ [0, 1, 2, 4, 6, 8, 10, 13] → famA[k.val]'k.isLt = 0 ∨ famA[k.val]'k.isLt = 7 ∨ k = 0 ∨ k = 1 ∨ k = 2 := by decide
theorem meet_family (F : Fns fns) (B : Base nb R) (hs : Hs x nb bs σ) {back : Bool} {ls : List Lf} (h : okM nb ls) (w : Wl x b R σ) : W (callF fns (n + 3) "meet_family" [.ref x.tab, .tup ((rv back (ls.map (leafTy nb))).map tI)] σ) fun v σ' => σ' = σ ∧ ∃ i, v = .int i ∧ (i = 6 ↔ Lf.a 0 ∈ ls) := by
 have hmem : ∀ u ∈ rv back (ls.map (leafTy nb)), ∃ l ∈ ls, u = leafTy nb l := fun u hu => by
  rw [rv_mem] at hu
  obtain ⟨l, hl, e⟩ := List.mem_map.mp hu
  exact ⟨l, hl, e.symm⟩
 have hin : ∀ l ∈ ls, leafTy nb l ∈ rv back (ls.map (leafTy nb)) := fun l hl => rv_mem.mpr (List.mem_map_of_mem hl)
 have hlen : (rv back (ls.map (leafTy nb))).length ≤ 10 := by rw [rv_len, List.length_map]; exact h.2.2.2
 generalize rv back (ls.map (leafTy nb)) = us at hmem hin hlen
 refine f_call2 F.meet_family fun Q' hQ => ?_
 dl_step
 refine t_seqT (big_of (by rw [List.length_map]; lia)) ?_
 refine forGo_map (fun done L σ' => E1C5 (fun i => L.lookup "found" = some (.int i)) (fun i => i ≠ 6) (fun _ => σ' = σ) (fun _ => ∀ l, okL nb l → leafTy nb l ∈ done → l ≠ .a 0) (fun _ => Ag ["found", "part", "fam"] [("tab", .ref x.tab), ("parts", .tup (us.map tI))] L)) ?_ ?_ ⟨0, rfl, by decide, rfl, by simp, fun y hy => ?_⟩
 ·rintro L σ1 ⟨i, hi, hi6, rfl, h3, hA⟩
  refine ⟨rfl, ?_⟩
  dl_step
  exact ⟨rfl, i, rfl, fun e => absurd e hi6, fun e => absurd rfl (h3 _ (h.1 _ e) (hin _ e))⟩
 ·rintro done u rest L σ1 h1 ⟨i, hi, hi6, rfl, h3, hA⟩
  refine ⟨rfl, ?_⟩
  obtain ⟨l, hl, rfl⟩ := hmem u (mem_mid h1)
  have hok := h.1 l hl
  refine x_turn1 fun Q' hQ => ?_
  have hA : Ag ["found", "part", "fam"] [("tab", .ref x.tab), ("parts", .tup (us.map tI))] (setL "part" (tI (leafTy nb l)) L) := hA.set rfl
  have hi : (setL "part" (tI (leafTy nb l)) L).lookup "found" = some (.int i) := lk_setne rfl hi
  have hpt : (setL "part" (tI (leafTy nb l)) L).lookup "part" = some (tI (leafTy nb l)) := lk_set
  generalize setL "part" (tI (leafTy nb l)) L = L1 at hA hi hpt ⊢
  dl_step
  refine (family_leaf F B hs hok w).m1 ?_
  have hA : Ag ["found", "part", "fam"] [("tab", .ref x.tab), ("parts", .tup (us.map tI))] (setL "fam" (.int (famL l)) L1) := hA.set rfl
  have hi : (setL "fam" (.int (famL l)) L1).lookup "found" = some (.int i) := lk_setne rfl hi
  have hpt : (setL "fam" (.int (famL l)) L1).lookup "part" = some (tI (leafTy nb l)) := lk_setne rfl hpt
  have hf : (setL "fam" (.int (famL l)) L1).lookup "fam" = some (.int (famL l)) := lk_set
  generalize setL "fam" (.int (famL l)) L1 = L2 at hA hi hpt hf ⊢
  have next : l ≠ .a 0 → ∀ l', okL nb l' → leafTy nb l' ∈ done ++ [leafTy nb l] → l' ≠ .a 0 := fun hn l' hl' hm => by
   rcases List.mem_append.mp hm with hm | hm
   ·exact h3 l' hl' hm
   ·rw [List.mem_singleton] at hm
    rintro rfl
    exact hn ((ty3 l hok).mp (hm.symm.trans ((ty3 (.a 0) hl').mpr rfl)))
  have stop : famL l ≠ 0 → famL l ≠ 7 → (famL l = 6 ↔ Lf.a 0 ∈ ls) := fun e0 e7 => by
   rw [famL_void]
   refine ⟨fun e => e ▸ hl, fun e => ?_⟩
   have ho := h.2.1 e l hl
   cases l with
   | p i => exact absurd rfl e0
   | a k =>
    rcases famM k (h.2.2.1 k hl) with q | q | rfl | rfl | rfl
    ·exact absurd q e0
    ·exact absurd q e7
    ·rfl
    ·exact absurd rfl ho.1
    ·exact absurd rfl ho.2
  have go : famL l = 0 ∨ famL l = 7 → l ≠ .a 0 := by rintro h rfl; exact absurd h (by decide)
  dl_step
  refine Br.ndec (fun e0 => ?_) (fun e0 => ?_)
  ·dl_step
   refine Br.ndec (fun e7 => ?_) (fun e7 => ?_)
   ·dl_step
    exact ⟨rfl, _, rfl, stop e0 e7⟩
   ·dl_step
    refine Br.Td e7 ?_
    dl_step
    refine Br.ndec (fun e11 => ?_) (fun e11 => ?_)
    ·dl_step
     exact ⟨7, lk_set, by decide, rfl, next (go (.inr e7)), hA.set rfl⟩
    ·dl_step
     exact ⟨i, hi, hi6, rfl, next (go (.inr e7)), hA⟩
  ·refine Br.Ff (by rw [decide_eq_true e0]; rfl) ?_
   dl_step
   refine Br.Fd (by rw [e0]; decide) ?_
   refine Br.Fd (by rw [e0]; decide) ?_
   dl_step
   exact ⟨i, hi, hi6, rfl, next (go (.inl e0)), hA⟩
 ·have : (y == "found") = false := by simp only [List.contains_cons, Bool.or_eq_false_iff] at hy; exact hy.1
  exact lk_ne this
end

noncomputable def vL (nb : Nat) (f : Nat → Bool) (u : Nat) : Bool := decide (u = 3) || (decide (16 ≤ u ∧ u < 16 + nb) && f (u - 16))
noncomputable def frU (nb : Nat) (lone : Nat → Bool) (u : Nat) : Bool := (decide (16 ≤ u ∧ u < 16 + nb) && lone (u - 16)) || decide (u = 22 + nb) || decide (u = 24 + nb)
noncomputable def mA (nb : Nat) (lone : Nat → Bool) (g : Nat → Bool) (us : List Nat) : Bool := us.all (fun u => vL nb g u || frU nb lone u) && us.any (vL nb g)
noncomputable def mV (nb : Nat) (lone : Nat → Bool) (g : Nat → Bool) (us : List Nat) : Bool := us.contains 3 || mA nb lone g us
noncomputable def hvP (nb : Nat) (lone : Nat → Bool) (f g : Nat → Bool) : Tp → Bool
 | .lf l => vL nb f (leafTy nb l)
 | .m ls => mV nb lone g (ls.map (leafTy nb))
noncomputable def topP : Tp → Bool
 | .lf (.a k) => k.val == 17 || k.val == 18 || k.val == 19
 | _ => false
noncomputable def hvT (nb : Nat) (lone : Nat → Bool) (f g : Nat → Bool) : Tm → Bool
 | .tp p => hvP nb lone f g p
 | .u ts => !(ts.any topP) && ts.any (hvP nb lone f g)
noncomputable def stepH (nb : Nat) (lone : Nat → Bool) (B : List (Option Tm)) (f g : Nat → Bool) (i : Nat) : Bool := !lone i && (match B[i]? with | some (some t) => hvT nb lone f g t | _ => false)
noncomputable def Hh (nb : Nat) (lone : Nat → Bool) (B : List (Option Tm)) : Nat → Nat → Bool
 | 0 => fun _ => false
 | 1 => stepH nb lone B (fun _ => false) (fun _ => false)
 | l + 2 => stepH nb lone B (Hh nb lone B (l + 1)) (Hh nb lone B l)
theorem Hh_succ {nb : Nat} {lone : Nat → Bool} {B : List (Option Tm)} : ∀ l, Hh nb lone B (l + 1) = stepH nb lone B (Hh nb lone B l) (Hh nb lone B (l - 1))
 | 0 => rfl
 | l + 1 => rfl
theorem Hh_0 {nb : Nat} {lone : Nat → Bool} {B : List (Option Tm)} {i : Nat} : Hh nb lone B 0 i = false := rfl
structure Bnds (nb : Nat) (B : List (Option Tm)) (lone : Nat → Bool) (bs : List Int) (R : List D) : Prop where
 it : ∀ i, i < nb → (lone i = true ∧ ∃ z : Int, bs[i]? = some z ∧ (z = -1 ∨ z = ((16 + i : Nat) : Int) ∨ z = 0 ∨ z = 1 ∨ z = 13)) ∨
  (lone i = false ∧ ∃ tm t, B[i]? = some (some tm) ∧ okT nb tm ∧ bs[i]? = some ((t : Nat) : Int) ∧ TyT nb false R tm t ∧ t ≠ 16 + i ∧ t ≠ 0 ∧ t ≠ 1 ∧ t ≠ 13 ∧ t ≠ 2)
theorem Bnds.pre {nb : Nat} {B : List (Option Tm)} {lone : Nat → Bool} {bs : List Int} {R R' : List D} (Ba : Base nb R) (h : R <+: R') (k : Bnds nb B lone bs R) : Bnds nb B lone bs R' := ⟨fun i hi => by
 rcases k.it i hi with h1 | ⟨h1, tm, t, h2, h3, h4, h5, h6⟩
 ·exact .inl h1
 ·exact .inr ⟨h1, tm, t, h2, h3, h4, h5.pre Ba h h3, h6⟩⟩

section
variable {R : List D} {nb : Nat} {lone : Nat → Bool} {f g : Nat → Bool}
theorem map_tI_inj : ∀ {a b : List Nat}, a.map tI = b.map tI → a = b
 | [], [], _ => rfl
 | [], _ :: _, h => by cases h
 | _ :: _, [], h => by cases h
 | x :: a, y :: b, h => by
  rw [List.map_cons, List.map_cons, List.cons.injEq] at h
  rw [tI_inj h.1, map_tI_inj h.2]
theorem rv_inj {α : Type} {back : Bool} {a b : List α} (h : rv back a = rv back b) : a = b := by
 unfold rv at h; split at h
 ·exact List.reverse_inj.mp h
 ·exact h
theorem hv_wd (B : Base nb R) {back : Bool} {p q : Tp} {u : Nat} (hp : okP nb p) (hq : okP nb q) (tp : TyP nb back R p u) (tq : TyP nb back R q u) : hvP nb lone f g p = hvP nb lone f g q := by
 have no : ∀ {l : Lf} {ls : List Lf}, okL nb l → TyP nb back R (.lf l) u → TyP nb back R (.m ls) u → False := fun ho h1 h2 => by
  obtain ⟨k, _, h7, hk⟩ := leafLk B ho
  have h1 : u = leafTy nb _ := h1
  rw [← h1] at hk
  exact h7 (hk.fn ⟨_, h2, by simp⟩)
 cases p with
 | lf l =>
  cases q with
  | lf l' => rw [hvP, hvP, ← (show u = leafTy nb l from tp), ← (show u = leafTy nb l' from tq)]
  | m ls => exact (no hp tp tq).elim
 | m ls =>
  cases q with
  | lf l' => exact (no hq tq tp).elim
  | m ls' =>
   have e := (show R[u]? = _ from tp).symm.trans (show R[u]? = _ from tq)
   simp only [Option.some.injEq, D.tup.injEq, List.cons.injEq, true_and, and_true] at e
   rw [hvP, hvP, rv_inj (map_tI_inj e)]
theorem top_leaf (B : Base nb R) {back : Bool} {p : Tp} {u : Nat} (hp : okP nb p) (tp : TyP nb back R p u) : isTop u ↔ topP p = true := by
 cases p with
 | lf l =>
  have tp : u = leafTy nb l := tp
  subst tp
  cases l with
  | p i => exact ⟨fun h => by have h' : 16 + i = 0 ∨ 16 + i = 13 ∨ 16 + i = 1 := h; lia, fun h => by cases h⟩
  | a k =>
   unfold isTop
   rw [leafTy, atom_eq (by decide), atom_eq (by decide), atom_eq (by decide)]
   have : ∀ k : Wd', (codes[k.val]'k.isLt = 0 ∨ codes[k.val]'k.isLt = 13 ∨ codes[k.val]'k.isLt = 1) ↔ k.val = 21 ∨ topP (.lf (.a k)) = true := by decide
   rw [this]
   exact ⟨fun h => h.resolve_left (fun e => by have : k.val < 21 := hp; lia), .inr⟩
 | m ls =>
  refine ⟨fun h => ?_, fun h => by cases h⟩
  have h1 : ∃ k : Wd', k.val < 21 ∧ u = leafTy nb (.a k) := by
   rcases h with rfl | rfl | rfl
   ·exact ⟨17, by decide, rfl⟩
   ·exact ⟨19, by decide, rfl⟩
   ·exact ⟨18, by decide, rfl⟩
  obtain ⟨k, hk, rfl⟩ := h1
  obtain ⟨j, _, h7, hj⟩ := leafLk B (l := .a k) hk
  exact absurd (hj.fn ⟨_, tp, by simp⟩) h7
theorem hv_keep (B : Base nb R) {back : Bool} {p : Tp} {u : Nat} (hp : okP nb p) (tp : TyP nb back R p u) (h : hvP nb lone f g p = true) (ks : List Nat) : keepU R ks u := by
 have key : ∀ k, Lk R u k → u ≠ 2 → k ≠ 3 → k ≠ 18 → k ≠ 4 → keepU R ks u := fun k hk h2 h3 h18 h4 => ⟨h2, fun q => q.1.elim (fun e => h3 (hk.fn e)) (fun e => h18 (hk.fn e)), fun q => h4 (hk.fn q.1)⟩
 cases p with
 | m ls =>
  have hk : Lk R u 7 := ⟨_, tp, by simp⟩
  refine key 7 hk ?_ (by decide) (by decide) (by decide)
  rintro rfl
  obtain ⟨j, _, h7, hj⟩ := leafLk B (l := .a 20) (by decide : (20 : Wd').val < 21)
  exact h7 (hj.fn hk)
 | lf l =>
  have tp : u = leafTy nb l := tp
  subst tp
  obtain ⟨k, h5, h6, h7, hk, e⟩ := leafLk' B hp
  cases l with
  | p i => subst e; exact key 10 hk (by rw [leafTy]; lia) (by decide) (by decide) (by decide)
  | a a =>
   have h3 : a = 0 := by
    have : vL nb f (leafTy nb (.a a)) = true := h
    unfold vL at this
    have hno : ¬ (16 ≤ leafTy nb (.a a) ∧ leafTy nb (.a a) < 16 + nb) := by
     rw [leafTy, atomTy_code]
     have := codes_ok a
     split <;> lia
    rw [decide_eq_false hno, Bool.false_and, Bool.or_false, decide_eq_true_eq, ty3 (.a a) hp] at this
    exact Lf.a.inj this
   subst h3
   subst e
   exact key _ hk (by show (3 : Nat) ≠ 2; decide) (by decide) (by decide) (by decide)
theorem ty_parts (B : Base nb R) {back : Bool} {tm : Tm} {t : Nat} (ho : okT nb tm) (ht : TyT nb back R tm t) : ∃ out, Pts R t out ∧ (∀ u ∈ out, ∃ p, okP nb p ∧ TyP nb back R p u) ∧ out.length ≤ 10 ∧ (t ≠ 2 → out ≠ []) ∧
  ∀ lone f g, (∃ u ∈ out, ∃ p, okP nb p ∧ TyP nb back R p u ∧ hvP nb lone f g p = true) ↔ hvT nb lone f g tm = true := by
 cases tm with
 | tp p =>
  have ht : TyP nb back R p t := ht
  by_cases h2 : t = 2
  ·subst h2
   refine ⟨[], .inl ⟨rfl, rfl⟩, nofun, by decide, fun h => absurd rfl h, fun lone f g => ⟨fun ⟨_, h, _⟩ => (nomatch h), fun h => ?_⟩⟩
   exact absurd rfl (hv_keep B ho ht h []).1
  ·refine ⟨[t], .inr (.inl ⟨h2, rfl, TyP.lk B ho ht⟩), fun u hu => ?_, Nat.le_of_ble_eq_true rfl, fun _ => by simp, fun lone f g => ⟨?_, fun h => ⟨t, by simp, p, ho, ht, h⟩⟩⟩
   ·rw [List.mem_singleton] at hu; subst hu; exact ⟨p, ho, ht⟩
   ·rintro ⟨u, hu, q, hq, tq, h⟩
    rw [List.mem_singleton] at hu; subst hu
    rw [hvT, hv_wd B ho hq ht tq]; exact h
 | u ts =>
  obtain ⟨ks, hF, hU⟩ := ht
  have hlen := hF.len
  rcases hU with ⟨u, hu, htu, htt, htk, -, -⟩ | ⟨hno, out, hasc, hmem, hout⟩
  ·obtain ⟨p, hp, tp⟩ := hF.right t htk
   have hop := ho.1 p hp
   have htop := (top_leaf B hop tp).mp htt
   have h2 : t ≠ 2 := by rcases htt with rfl | rfl | rfl <;> decide
   refine ⟨[t], .inr (.inl ⟨h2, rfl, TyP.lk B hop tp⟩), fun u hu => ?_, Nat.le_of_ble_eq_true rfl, fun _ => by simp, fun lone f g => ⟨?_, fun h => ?_⟩⟩
   ·rw [List.mem_singleton] at hu; subst hu; exact ⟨p, hop, tp⟩
   ·rintro ⟨u, hu, q, hq, tq, h⟩
    rw [List.mem_singleton] at hu; subst hu
    rw [← hv_wd (lone := lone) (f := f) (g := g) B hop hq tp tq] at h
    cases p with
    | m ls => exact nof _ htop
    | lf l =>
     cases l with
     | p i => exact nof _ htop
     | a k =>
      exfalso
      have : vL nb f (leafTy nb (.a k)) = true := h
      unfold vL at this
      have tp : u = leafTy nb (.a k) := tp
      rw [← tp] at this
      rcases htt with rfl | rfl | rfl <;> simp at this
   ·rw [hvT, List.any_eq_true.mpr ⟨p, hp, htop⟩] at h; exact nof _ h
  ·have hnt : ts.any topP = false := by
    rw [Bool.eq_false_iff]
    intro h
    obtain ⟨p, hp, h⟩ := List.any_eq_true.mp h
    obtain ⟨v, hv, tp⟩ := hF.left p hp
    exact hno v hv ((top_leaf B (ho.1 p hp) tp).mpr h)
   have hcls : ∀ u ∈ out, ∃ p ∈ ts, okP nb p ∧ TyP nb back R p u := fun u hu => by
    obtain ⟨p, hp, tp⟩ := hF.right u ((hmem u).mp hu).1
    exact ⟨p, hp, ho.1 p hp, tp⟩
   have hval : ∀ lone f g, (∃ u ∈ out, ∃ p, okP nb p ∧ TyP nb back R p u ∧ hvP nb lone f g p = true) ↔ hvT nb lone f g (.u ts) = true := fun lone f g => by
    rw [hvT, hnt]
    show _ ↔ ts.any (hvP nb lone f g) = true
    rw [List.any_eq_true]
    constructor
    ·rintro ⟨u, hu, p, hp, tp, h⟩
     obtain ⟨q, hq, hoq, tq⟩ := hcls u hu
     exact ⟨q, hq, by rw [hv_wd B hoq hp tq tp]; exact h⟩
    ·rintro ⟨p, hp, h⟩
     obtain ⟨v, hv, tp⟩ := hF.left p hp
     exact ⟨v, (hmem v).mpr ⟨hv, hv_keep B (ho.1 p hp) tp h ks⟩, p, ho.1 p hp, tp, h⟩
   have hlt : out.length ≤ 10 := by
    have hsub : out.length ≤ ks.length := (List.nodup_iff_pairwise_ne.mpr (hasc.imp fun h => Nat.ne_of_lt h)).length_le_of_subset fun u hu => ((hmem u).mp hu).1
    have := ho.2
    lia
   rcases hout with ⟨rfl, rfl⟩ | rfl | ⟨hl, e⟩
   ·exact ⟨[], .inl ⟨rfl, rfl⟩, nofun, hlt, fun h => absurd rfl h, hval⟩
   ·have h2 : t ≠ 2 := ((hmem t).mp (.head _)).2.1
    obtain ⟨p, hp, hop, tp⟩ := hcls t (.head _)
    exact ⟨[t], .inr (.inl ⟨h2, rfl, TyP.lk B hop tp⟩), fun u hu => by obtain ⟨p, _, h⟩ := hcls u hu; exact ⟨p, h⟩, hlt, fun _ => by simp, hval⟩
   ·have h2 : t ≠ 2 := by
     rintro rfl
     obtain ⟨j, h6, _, hj⟩ := leafLk B (l := .a 20) (by decide : (20 : Wd').val < 21)
     exact h6 (hj.fn ⟨_, e, by simp⟩)
    exact ⟨out, .inr (.inr ⟨h2, e⟩), fun u hu => by obtain ⟨p, _, h⟩ := hcls u hu; exact ⟨p, h⟩, hlt, fun _ => by rintro rfl; simp at hl, hval⟩
end

section
variable {fns : String → Option Fn} {n b : Nat} {σ : St} {x : X} {R : List D} {nb : Nat} {bs : List Int} {lone : Nat → Bool} {Bs : List (Option Tm)}
theorem q_truthT {σ : St} {xs : List D} {P : Bool → Prop} (l : xs.length ≤ big) (h : P (!xs.isEmpty)) : Wm (truth σ (.tup xs)) P := .of (gd_pos l) h
theorem h_force {Q : D → St → Prop} {c : Callee} {L : Loc} {es : List CE} (w : Wl x b R σ) (h : W (evs c L es σ) fun ds σ => W (c "Thin.force" (.ref x.host :: ds) σ) Q) : PMeth σ "force" [("BoundHost", "Thin.force")] (.ref x.host) fun i f => W (evs c L es σ) fun ds σ => W (c f (.ref i :: ds) σ) Q := by
 obtain ⟨fs, e, l1, l2, l3, l4⟩ := w.host
 exact ⟨_, _, fs, _, rfl, e, l2, rfl, h⟩
theorem h_bound {Q : D → St → Prop} {c : Callee} {L : Loc} {es : List CE} (w : Wl x b R σ) (h : W (evs c L es σ) fun ds σ => W (c "BoundHost.bound" (.ref x.host :: ds) σ) Q) : PMeth σ "bound" [("BoundHost", "BoundHost.bound")] (.ref x.host) fun i f => W (evs c L es σ) fun ds σ => W (c f (.ref i :: ds) σ) Q := by
 obtain ⟨fs, e, l1, l2, l3, l4⟩ := w.host
 exact ⟨_, _, fs, _, rfl, e, l3, rfl, h⟩
theorem force_spec (F : Fns fns) {d : D} : W (callF fns (n + 1) "Thin.force" [.ref x.host, d] σ) fun v σ' => σ' = σ ∧ v = d := by
 refine f_call2 F.Thin_force fun Q' hQ => ?_
 dl_step
 exact ⟨rfl, rfl⟩
theorem boundOf_par (F : Fns fns) (B : Base nb R) (hs : Hs x nb bs σ) {i : Nat} {z : Int} (hi : i < nb) (hz : bs[i]? = some z) (w : Wl x b R σ) : W (callF fns (n + 1) "bound_of" [.ref x.tab, tI (16 + i)] σ) fun v σ' => σ' = σ ∧ v = .int (if z < 0 ∨ z = 0 then 1 else z) := by
 refine f_call2 F.bound_of fun Q' hQ => ?_
 dl_step
 refine a_rows w ?_
 dl_step
 refine i_row w (B.par i hi) ?_
 dl_step
 refine i_hd (by simp) ?_
 dl_step
 refine Br.Ff rfl ?_
 dl_step
 refine a_bounds w ?_
 dl_step
 refine i_tup (Nat.le_of_ble_eq_true rfl) rfl ?_
 refine i_lst hs.bounds ⟨by lia, big_of (by rw [List.length_map, hs.len]; have := hs.nb; lia)⟩ (by rw [Int.toNat_natCast, List.getElem?_map, hz]; rfl) ?_
 dl_step
 refine Br.dec (fun e => ?_) (fun e => ?_)
 ·refine Br.Td e ?_
  dl_step
  exact ⟨rfl, by rw [if_pos (.inl e)]⟩
 ·dl_step
  refine Br.dec (fun e' => ?_) (fun e' => ?_)
  ·dl_step
   exact ⟨rfl, by rw [if_pos (.inr e')]⟩
  ·dl_step
   exact ⟨rfl, by rw [if_neg (not_or.mpr ⟨e, e'⟩)]⟩
theorem boundOf_other (F : Fns fns) {t : Nat} {k : Int} (h : Lk R t k) (hk : k ≠ 10) (w : Wl x b R σ) : W (callF fns (n + 1) "bound_of" [.ref x.tab, tI t] σ) fun v σ' => σ' = σ ∧ v = tI t := by
 obtain ⟨rest, e, l⟩ := h
 refine f_call2 F.bound_of fun Q' hQ => ?_
 dl_step
 refine a_rows w ?_
 dl_step
 refine i_row w e ?_
 dl_step
 refine i_hd l ?_
 dl_step
 refine Br.Tt (by rw [decide_eq_false hk]; rfl) ?_
 dl_step
 exact ⟨rfl, rfl⟩
theorem bp_gen (F : Fns fns) {u : Nat} {z : Int} {out : List Nat} (hz : W (callF fns (n + 1) "bound_of" [.ref x.tab, tI u] σ) fun v σ' => σ' = σ ∧ v = .int z) (k : (z = u ∨ z = 1 ∨ z = 0 ∨ z = 13) ∧ out = [] ∨ ¬ (z = u ∨ z = 1 ∨ z = 0 ∨ z = 13) ∧ ∃ t : Nat, z = t ∧ Pts R t out) (w : Wl x b R σ) :
  W (callF fns (n + 3) "bound_parts" [.ref x.host, tI u] σ) fun v σ' => σ' = σ ∧ v = .tup (out.map tI) := by
 refine f_call2 F.bound_parts fun Q' hQ => ?_
 dl_step
 refine h_force w ?_
 dl_step
 refine h_bound w ?_
 dl_step
 refine f_call2 F.BoundHost_bound fun Q' hQ => ?_
 dl_step
 refine a_tab w ?_
 dl_step
 refine hz.mono ?_
 rintro _ _ ⟨rfl, rfl⟩
 dl_step
 refine (force_spec F).m1 ?_
 dl_step
 refine q_inT rfl rfl ?_
 have hin : D.int z ∈ [tI u, .int 1, .int 0, .int 13] ↔ (z = u ∨ z = 1 ∨ z = 0 ∨ z = 13) := by simp
 rcases k with ⟨k, rfl⟩ | ⟨k, t, rfl, hp⟩
 ·refine Br.Td (hin.mpr k) ?_
  dl_step
  exact ⟨rfl, rfl⟩
 ·refine Br.Fd (fun h => k (hin.mp h)) ?_
  dl_step
  refine a_tab w ?_
  dl_step
  refine (parts_spec F hp w).m1 ?_
  dl_step
  exact ⟨rfl, rfl⟩
theorem bp_lone (F : Fns fns) (B : Base nb R) (hs : Hs x nb bs σ) (hb : Bnds nb Bs lone bs R) {i : Nat} (hi : i < nb) (hl : lone i = true) (w : Wl x b R σ) : W (callF fns (n + 3) "bound_parts" [.ref x.host, tI (16 + i)] σ) fun v σ' => σ' = σ ∧ v = .tup [] := by
 rcases hb.it i hi with ⟨_, z, hz, h⟩ | ⟨h, _⟩
 ·refine bp_gen (out := []) F (boundOf_par F B hs hi hz w) (.inl ⟨?_, rfl⟩) w
  rcases h with rfl | rfl | rfl | rfl | rfl
  ·exact .inr (.inl rfl)
  ·rw [if_neg (by lia)]; exact .inl rfl
  ·exact .inr (.inl rfl)
  ·exact .inr (.inl rfl)
  ·exact .inr (.inr (.inr rfl))
 ·rw [h] at hl; exact nof _ hl
theorem bp_par (F : Fns fns) (B : Base nb R) (hs : Hs x nb bs σ) {i t : Nat} {out : List Nat} (hi : i < nb) (hz : bs[i]? = some ((t : Nat) : Int)) (h1 : t ≠ 16 + i) (h2 : t ≠ 0) (h3 : t ≠ 1) (h4 : t ≠ 13) (hp : Pts R t out) (w : Wl x b R σ) :
  W (callF fns (n + 3) "bound_parts" [.ref x.host, tI (16 + i)] σ) fun v σ' => σ' = σ ∧ v = .tup (out.map tI) := by
 refine bp_gen F (boundOf_par F B hs hi hz w) ?_ w
 rw [if_neg (by lia)]
 exact .inr ⟨by lia, t, rfl, hp⟩
theorem bp_other (F : Fns fns) {t : Nat} {k : Int} (h : Lk R t k) (hk : k ≠ 10) (w : Wl x b R σ) : W (callF fns (n + 3) "bound_parts" [.ref x.host, tI t] σ) fun v σ' => σ' = σ ∧ v = .tup [] :=
 bp_gen (out := []) (z := (t : Int)) F (boundOf_other F h hk w) (.inl ⟨.inl rfl, rfl⟩) w

theorem hv_comp {c : Callee} {L : Loc} {e : CE} {ok : St → Bool} {us : List Nat} {T : Nat → Bool → Prop} {Q : D → St → Prop} (hok : ∀ σ, ok σ = true) (hh : L.lookup "host" = some (.ref x.host)) (hd : ∀ (d : D) σ (Q : D → St → Prop), Q (.int e') σ → W (ev c (("one", d) :: L) e σ) Q)
  (spec : ∀ u ∈ us, ∀ σ', Wk x σ b R σ' → W (c "holds_void" [.ref x.host, tI u, .int e'] σ') fun v σ'' => Wk x σ' b R σ'' ∧ ∃ v', v = .bool v' ∧ T u v') (w : Wl x b R σ)
  (k : ∀ (vs : List Bool) σ', F2 T us vs → Wk x σ b R σ' → Wn σ' (.list (vs.map .bool)) Q) :
  W (compGo ok (turn c L (.call "holds_void" [.var "host", .var "one", e]) (.one "one") none) (us.map tI) [] σ) fun ys σ' => Wn σ' (.list ys) Q := by
 refine compGo_map (f := tI) (xs := us) (fun done acc σ' => E1C3 (fun vs => acc = List.map D.bool vs) (fun vs => F2 T done vs) (fun vs => Wk x σ b R σ')) ?_ ?_ ⟨[], rfl, trivial, .start w⟩
 ·rintro acc σ' ⟨vs, rfl, h3, h4⟩
  exact ⟨hok _, k vs σ' h3 h4⟩
 ·rintro done a rest acc σ' h1 ⟨vs, rfl, h3, h4⟩
  refine ⟨hok _, ?_⟩
  refine c_turn1 rfl fun Q' hQ => ?_
  refine e_call (es_cons (e_var (lk_there rfl hh) (es_cons (e_var rfl (es_cons (hd _ _ _ (es_nil ?_)))))))
  refine (spec a (by rw [← h1]; simp) σ' h4).m3 fun σ'' v' g1 g2 => ?_
  dl_step
  exact ⟨vs ++ [v'], by simp, h3.snoc g2, h4.next g1⟩
theorem F2.fn' {α β : Type} {f : α → β} {l : List α} {m : List β} (h : F2 (fun a b => b = f a) l m) : m = l.map f := h.fn

theorem isFree {l : Lf} (B : Base nb R) (hok : okL nb l) : ∃ k, Lk R (leafTy nb l) k ∧ k ≠ 6 ∧ k ≠ 7 ∧ (D.int k ∈ freeK ↔ (∃ i, l = .p i) ∨ l = .a 4 ∨ l = .a 8) ∧ (k = 10 ↔ ∃ i, l = .p i) := by
 obtain ⟨k, h5, h6, h7, hk, e⟩ := leafLk' B hok
 refine ⟨k, hk, h6, h7, ?_, ?_⟩
 ·cases l with
  | p i => subst e; exact ⟨fun _ => .inl ⟨i, rfl⟩, fun _ => by decide⟩
  | a a =>
   subst e
   have : ∀ a : Wd', D.int (kindA[a.val]'a.isLt) ∈ freeK ↔ a = 4 ∨ a = 8 := by decide
   rw [this]
   exact ⟨fun h => h.elim (fun h => .inr (.inl (by rw [h]))) (fun h => .inr (.inr (by rw [h]))), fun h => by
    rcases h with ⟨i, h⟩ | h | h
    ·cases h
    ·exact .inl (Lf.a.inj h)
    ·exact .inr (Lf.a.inj h)⟩
 ·cases l with
  | p i => exact ⟨fun _ => ⟨i, rfl⟩, fun _ => e⟩
  | a a =>
   subst e
   have : ∀ a : Wd', ¬ kindA[a.val]'a.isLt = 10 := by decide
   exact ⟨fun h => absurd h (this a), fun ⟨i, h⟩ => by cases h⟩
theorem frU_leaf {l : Lf} (hok : okL nb l) : frU nb lone (leafTy nb l) = true ↔ (∃ i, l = .p i ∧ lone i = true) ∨ l = .a 4 ∨ l = .a 8 := by
 unfold frU
 rw [Bool.or_eq_true, Bool.or_eq_true, Bool.and_eq_true, decide_eq_true_eq, decide_eq_true_eq, decide_eq_true_eq]
 cases l with
 | p i =>
  have hok : i < nb := hok
  have e : leafTy nb (.p i) = 16 + i := rfl
  rw [e, Nat.add_sub_cancel_left]
  refine ⟨fun h => ?_, fun h => ?_⟩
  ·rcases h with (h | h) | h
   ·exact .inl ⟨i, rfl, h.2⟩
   ·lia
   ·lia
  ·rcases h with ⟨j, h, h'⟩ | h | h
   ·cases h; exact .inl (.inl ⟨by lia, h'⟩)
   ·cases h
   ·cases h
 | a a =>
  rw [leafTy, show 22 + nb = 16 + 6 + nb from rfl, show 24 + nb = 16 + 8 + nb from rfl, atom_eqN (by decide), atom_eqN (by decide)]
  have hno : ¬ (16 ≤ atomTy nb a ∧ atomTy nb a < 16 + nb) := by
   rw [atomTy_code]
   have := codes_ok a
   split <;> lia
  have h4 : ∀ a : Wd', codes[a.val]'a.isLt = 100 + 6 ↔ a = 4 := by decide
  have h8 : ∀ a : Wd', codes[a.val]'a.isLt = 100 + 8 ↔ a = 8 := by decide
  rw [h4, h8]
  constructor
  ·rintro ((h | h) | h)
   ·exact absurd h.1 hno
   ·exact .inr (.inl (by rw [h]))
   ·exact .inr (.inr (by rw [h]))
  ·rintro (⟨i, h, _⟩ | h | h)
   ·cases h
   ·exact .inl (.inr (Lf.a.inj h))
   ·exact .inr (Lf.a.inj h)

theorem mhv (F : Fns fns) (B : Base nb R) (hs : Hs x nb bs σ) (hb : Bnds nb Bs lone bs R) {back : Bool} {ls : List Lf} (h : okM nb ls) (w : Wl x b R σ) {d : Nat} {g : Nat → Bool}
  (IH : ∀ l σ', okL nb l → Wk x σ b R σ' → W (callF fns (n + 3) "holds_void" [.ref x.host, tI (leafTy nb l), .int ((d + 1 : Nat) : Int)] σ') fun v σ'' => Wk x σ' b R σ'' ∧ v = .bool (vL nb g (leafTy nb l))) :
  W (callF fns (n + 4) "meet_holds_void" [.ref x.host, .tup ((rv back (ls.map (leafTy nb))).map tI), .int d] σ) fun v σ' => Wk x σ b R σ' ∧ v = .bool (mA nb lone g (ls.map (leafTy nb))) := by
 have hm : mA nb lone g (ls.map (leafTy nb)) = mA nb lone g (rv back (ls.map (leafTy nb))) := by
  unfold rv; split
  ·unfold mA; rw [List.all_reverse, List.any_reverse]
  ·rfl
 rw [hm]
 have hmem : ∀ u ∈ rv back (ls.map (leafTy nb)), ∃ l ∈ ls, u = leafTy nb l := fun u hu => by
  rw [rv_mem] at hu
  obtain ⟨l, hl, e⟩ := List.mem_map.mp hu
  exact ⟨l, hl, e.symm⟩
 have hlen : (rv back (ls.map (leafTy nb))).length ≤ 10 := by rw [rv_len, List.length_map]; exact h.2.2.2
 generalize rv back (ls.map (leafTy nb)) = us at hmem hlen ⊢
 have hbig : (us.map tI).length ≤ big := big_of (by rw [List.length_map]; lia)
 refine f_call3 F.meet_holds_void fun Q' hQ => ?_
 dl_step
 refine t_seqT hbig ?_
 refine hv_comp (e' := ((d + 1 : Nat) : Int)) (T := fun u v => v = vL nb g u) (fun _ => rfl) rfl (fun d' σ' Q h => e_bin (e_var rfl (e_lit (b_add h)))) (fun u hu σ' w' => ?_) w ?_
 ·obtain ⟨l, hl, rfl⟩ := hmem u hu
  refine (IH l σ' (h.1 l hl) w').m2 fun σ'' g1 => ?_
  exact ⟨g1, _, rfl, rfl⟩
 intro vs σ1 hF w1 o σ2 p2
 have hvs := hF.fn
 have hvl : (vs.map D.bool).length ≤ big := big_of (by rw [List.length_map, ← hF.len]; lia)
 have l2 := w1.lo p2
 have w2 := w1.new p2
 have hs2 := hs.keep w2
 dl_step
 refine len_tup hbig ?_
 rw [List.length_map]
 refine t_range (by lia) ?_
 refine forGo_inv (fun ds L σ' => E0C2 (σ' = σ2) (E1C3 (fun i => ds = ((List.range us.length).drop i).map (fun (j : Nat) => D.int j)) (fun i => (∀ j (h : j < us.length), j < i → (vL nb g us[j] || frU nb lone us[j]) = true)) (fun i => Ag ["place", "free"] [("host", .ref x.host), ("parts", .tup (us.map tI)), ("deep", .int d), ("held", .ref o)] L))) ?_ ?_ ⟨rfl, 0, rfl, fun j _ h => absurd h (Nat.not_lt_zero _), .refl⟩
 ·rintro L σ3 ⟨rfl, i, hds, hall, hA⟩
  refine ⟨rfl, ?_⟩
  have hi : us.length ≤ i := by
   have := congrArg List.length hds
   rw [List.length_map, List.length_drop, List.length_range] at this
   simp at this; lia
  dl_step
  refine any_lst l2.2 (by rw [← hF.len]; exact big_of (by lia)) ?_
  dl_step
  refine ⟨w2, ?_⟩
  have ha : us.all (fun u => vL nb g u || frU nb lone u) = true := by
   rw [List.all_eq_true]
   intro u hu
   obtain ⟨j, hj, rfl⟩ := List.getElem_of_mem hu
   exact hall j hj (by lia)
  rw [mA, ha, Bool.true_and, hvs, List.any_map]; rfl
 ·rintro d' ds L σ3 ⟨rfl, i, hds, hall, hA⟩
  refine ⟨rfl, ?_⟩
  have hi : i < us.length := by
   have := congrArg List.length hds
   rw [List.length_map, List.length_drop, List.length_range] at this
   simp at this; lia
  rw [List.drop_eq_getElem_cons (by rw [List.length_range]; exact hi), List.map_cons, List.cons.injEq, List.getElem_range] at hds
  obtain ⟨rfl, rfl⟩ := hds
  obtain ⟨l, hl, eu⟩ := hmem us[i] (List.getElem_mem hi)
  have hok := h.1 l hl
  obtain ⟨k, hk, h6, h7, hfree, h10⟩ := isFree B hok
  refine x_turn1 fun Q' hQ => ?_
  have hA : Ag ["place", "free"] [("host", .ref x.host), ("parts", .tup (us.map tI)), ("deep", .int d), ("held", .ref o)] (setL "place" (.int i) L) := hA.set rfl
  have hpl : (setL "place" (.int i) L).lookup "place" = some (D.int i) := lk_set
  generalize setL "place" (.int i) L = L1 at hA hpl ⊢
  have hgetp : nth (us.map tI) (i : Int) = some (tI (leafTy nb l)) := by
   rw [nth, if_pos (by lia), Int.toNat_natCast, List.getElem?_map, List.getElem?_eq_getElem hi, eu]; rfl
  refine x_cut (fun L' σ' => E0C4 (σ' = σ3) (L'.lookup "free" = some (.bool (frU nb lone (leafTy nb l)))) (Ag ["place", "free"] [("host", .ref x.host), ("parts", .tup (us.map tI)), ("deep", .int d), ("held", .ref o)] L') (L'.lookup "place" = some (D.int i))) ?_ ?_
  ·intro Q' hQ
   refine x_assign (W.mono (Q := fun (v : D) σ' => σ' = σ3 ∧ v = .bool (frU nb lone (leafTy nb l))) ?_ ?_)
   ·dl_step
    refine a_tab w2.w ?_
    dl_step
    refine i_tup hbig hgetp ?_
    dl_step
    refine (kind_spec F hk w2.w).m1 ?_
    dl_step
    refine q_inT rfl rfl ?_
    refine Br.dec (fun e => ?_) (fun e => ?_)
    ·have hf := hfree.mp e
     dl_step
     refine i_tup hbig hgetp ?_
     dl_step
     rcases Classical.em (∃ i, l = .p i) with ⟨q, rfl⟩ | hno
     ·cases hlq : lone q with
      | true =>
       refine (bp_lone F B hs2 hb hok hlq w2.w).m1 ?_
       refine q_truthT (Nat.le_of_ble_eq_true rfl) ⟨rfl, ?_⟩
       rw [(frU_leaf hok).mpr (.inl ⟨q, rfl, hlq⟩)]; rfl
      | false =>
       rcases hb.it q hok with ⟨h1, _⟩ | ⟨_, tm, t, h2, h3, h4, h5, n1, n2, n3, n4, n5⟩
       ·rw [hlq] at h1; exact nof _ h1
       ·obtain ⟨out, hP, hcls, hol, hne, _⟩ := ty_parts B h3 h5
        refine (bp_par F B hs2 hok h4 n1 n2 n3 n4 hP w2.w).m1 ?_
        refine q_truthT (big_of (by rw [List.length_map]; lia)) ⟨rfl, ?_⟩
        have e1 : frU nb lone (leafTy nb (.p q)) = false := by
         rw [Bool.eq_false_iff]
         intro h
         rcases (frU_leaf hok).mp h with ⟨j, h, h'⟩ | h | h
         ·cases h; rw [hlq] at h'; exact nof _ h'
         ·cases h
         ·cases h
        rw [e1]
        cases out with
        | nil => exact absurd rfl (hne n5)
        | cons a r => rfl
     ·refine (bp_other F hk (fun h => hno (h10.mp h)) w2.w).mono ?_
      rintro _ _ ⟨rfl, rfl⟩
      refine q_truthT (Nat.le_of_ble_eq_true rfl) ⟨rfl, ?_⟩
      rw [(frU_leaf hok).mpr (.inr (hf.resolve_left hno))]; rfl
    ·refine ⟨rfl, ?_⟩
     have e1 : frU nb lone (leafTy nb l) = false := by
      rw [Bool.eq_false_iff]
      intro h
      refine e (hfree.mpr ?_)
      rcases (frU_leaf hok).mp h with ⟨j, h, _⟩ | h
      ·exact .inl ⟨j, h⟩
      ·exact .inr h
     rw [e1, decide_eq_false e]
   ·rintro _ _ ⟨rfl, rfl⟩
    dl_step
    exact ⟨rfl, lk_set, hA.set rfl, lk_setne rfl hpl⟩
  ·rintro L2 σ4 ⟨rfl, hfr, hA, hpl⟩
   dl_step
   refine i_lst (d := .bool (vL nb g us[i])) l2.2 ⟨by lia, hvl⟩ (by rw [Int.toNat_natCast, hvs, List.getElem?_map, List.getElem?_map, List.getElem?_eq_getElem hi]; rfl) ?_
   dl_step
   refine Br.bool (fun e => ?_) (fun e => ?_)
   ·have e : vL nb g us[i] = false := by cases hv : vL nb g us[i] with | false => rfl | true => rw [hv] at e; exact nof _ e
    dl_step
    refine Br.bool (fun e' => ?_) (fun e' => ?_)
    ·dl_step
     refine ⟨w2, ?_⟩
     have ha : us.all (fun u => vL nb g u || frU nb lone u) = false := by
      rw [List.all_eq_false]
      refine ⟨us[i], List.getElem_mem hi, ?_⟩
      rw [e, eu]
      simpa using e'
     rw [mA, ha]; rfl
    ·dl_step
     refine ⟨rfl, i + 1, rfl, fun j hj hji => ?_, hA⟩
     rcases Nat.lt_or_eq_of_le (Nat.lt_succ_iff.mp hji) with q | rfl
     ·exact hall j hj q
     ·rw [eu]; simp at e'; rw [e', Bool.or_true]
   ·have e : vL nb g us[i] = true := by cases hv : vL nb g us[i] with | true => rfl | false => rw [hv] at e; cases e
    refine Br.Ff (by rw [e]; rfl) ?_
    dl_step
    refine ⟨rfl, i + 1, rfl, fun j hj hji => ?_, hA⟩
    rcases Nat.lt_or_eq_of_le (Nat.lt_succ_iff.mp hji) with q | rfl
    ·exact hall j hj q
    ·rw [e, Bool.true_or]
end

section
variable {fns : String → Option Fn} {n b : Nat} {σ : St} {x : X} {R : List D} {nb : Nat} {bs : List Int} {lone : Nat → Bool} {Bs : List (Option Tm)}
theorem family_meet (F : Fns fns) (B : Base nb R) (hs : Hs x nb bs σ) {back : Bool} {ls : List Lf} {u : Nat} (h : okM nb ls) (hu : TyP nb back R (.m ls) u) (w : Wl x b R σ) : W (callF fns (n + 4) "family" [.ref x.tab, tI u] σ) fun v σ' => σ' = σ ∧ ∃ i, v = .int i ∧ (i = 6 ↔ Lf.a 0 ∈ ls) := by
 refine f_call2 F.family fun Q' hQ => ?_
 dl_step
 refine a_rows w ?_
 dl_step
 refine i_row w hu ?_
 dl_step
 refine i_hd (Nat.le_of_ble_eq_true rfl) ?_
 dl_step
 refine Br.Fd (by decide) ?_
 dl_step
 refine Br.Fd (by decide) ?_
 dl_step
 refine q_inT rfl rfl ?_
 refine Br.Fd (by decide) ?_
 dl_step
 refine Br.Fd (by decide) ?_
 dl_step
 refine Br.Td rfl ?_
 dl_step
 refine i_tup (Nat.le_of_ble_eq_true rfl) rfl ?_
 dl_step
 refine (meet_family F B hs h w).mono ?_
 rintro _ _ ⟨rfl, i, rfl, hi⟩
 dl_step
 exact ⟨rfl, i, rfl, hi⟩
theorem vL_p {f : Nat → Bool} {i : Nat} (hi : i < nb) : vL nb f (leafTy nb (.p i)) = f i := by
 unfold vL
 rw [show leafTy nb (.p i) = 16 + i from rfl, decide_eq_false (by lia), decide_eq_true (by lia), Nat.add_sub_cancel_left]; rfl
theorem vL_a {f : Nat → Bool} {k : Wd'} (hk : k.val < 21) : vL nb f (leafTy nb (.a k)) = decide (Lf.a k = .a 0) := by
 unfold vL
 have hno : ¬ (16 ≤ leafTy nb (.a k) ∧ leafTy nb (.a k) < 16 + nb) := by
  rw [leafTy, atomTy_code]
  have := codes_ok k
  split <;> lia
 rw [decide_eq_false hno, Bool.false_and, Bool.or_false, decide_eq_decide]
 exact ty3 (.a k) hk
theorem Br.of {v : Bool} {A B : Prop} {σ : St} (h : v = false) (b : B) : Br (truth σ (.bool v)) A B := Br.Ff h b

theorem hv_main (F : Fns fns) (B : Base nb R) (hs : Hs x nb bs σ) (hb : Bnds nb Bs lone bs R) (w : Wl x b R σ) {back : Bool} {t : Nat} {out : List Nat} (hP : Pts R t out) (hol : out.length ≤ 10) {d : Nat} {f g g' : Nat → Bool} {mt : Bool}
  (cls : ∀ u ∈ out, ∃ p, okP nb p ∧ TyP nb back R p u ∧ ∀ ls, p = .m ls → mt = true)
  (hf : ∀ i, f i = if d < 12 then stepH nb lone Bs g g' i else false)
  (IHl : mt = true → ∀ l σ', okL nb l → Wk x σ b R σ' → W (callF fns (n + 3) "holds_void" [.ref x.host, tI (leafTy nb l), .int ((d + 1 : Nat) : Int)] σ') fun v σ'' => Wk x σ' b R σ'' ∧ v = .bool (vL nb g (leafTy nb l)))
  (IHp : d < 12 → ∀ p u σ', okP nb p → TyP nb false R p u → Wk x σ b R σ' → W (callF fns (n + 4) "holds_void" [.ref x.host, tI u, .int ((d + 1 : Nat) : Int)] σ') fun v σ'' => Wk x σ' b R σ'' ∧ v = .bool (hvP nb lone g g' p)) :
  W (callF fns (n + 5) "holds_void" [.ref x.host, tI t, .int d] σ) fun v σ' => Wk x σ b R σ' ∧ ∃ vb, v = .bool vb ∧ (vb = true ↔ ∃ u ∈ out, ∃ p, okP nb p ∧ TyP nb back R p u ∧ hvP nb lone f g p = true) := by
 refine f_call3 F.holds_void fun Q' hQ => ?_
 dl_step
 refine a_tab w ?_
 dl_step
 refine (parts_spec F hP w).m1 ?_
 refine t_seqT (big_of (by rw [List.length_map]; lia)) ?_
 refine forGo_map (f := tI) (xs := out) (fun done L σ' => E0C3 ((∀ u ∈ done, ∀ p, okP nb p → TyP nb back R p u → hvP nb lone f g p = false)) (Wk x σ b R σ') (Ag ["part", "row"] [("host", .ref x.host), ("t", tI t), ("deep", .int d)] L)) ?_ ?_ ⟨nofun, .start w, .refl⟩
 ·rintro L σ1 ⟨h3, w1, hA⟩
  refine ⟨rfl, ?_⟩
  dl_step
  refine ⟨w1, false, rfl, nofun, ?_⟩
  rintro ⟨u, hu, p, hp, tp, h⟩
  rw [h3 u hu p hp tp] at h; exact nof _ h
 ·rintro done u rest L σ1 h1 ⟨h3, w1, hA⟩
  refine ⟨rfl, ?_⟩
  have hu : u ∈ out := mem_mid h1
  obtain ⟨p, hp, tp, hmt⟩ := cls u hu
  have hs1 := hs.keep w1
  have yes : hvP nb lone f g p = true → ∃ vb, D.bool true = .bool vb ∧ (vb = true ↔ ∃ u ∈ out, ∃ p, okP nb p ∧ TyP nb back R p u ∧ hvP nb lone f g p = true) := fun h => ⟨true, rfl, fun _ => ⟨u, hu, p, hp, tp, h⟩, fun _ => rfl⟩
  have no : hvP nb lone f g p = false → ∀ u' ∈ done ++ [u], ∀ p, okP nb p → TyP nb back R p u' → hvP nb lone f g p = false := fun h u' hu' q hq tq => by
   rcases List.mem_append.mp hu' with hm | hm
   ·exact h3 u' hm q hq tq
   ·rw [List.mem_singleton] at hm; subst hm
    rw [← hv_wd B hp hq tp tq]; exact h
  refine x_turn1 fun Q' hQ => ?_
  have hA : Ag ["part", "row"] [("host", .ref x.host), ("t", tI t), ("deep", .int d)] (setL "part" (tI u) L) := hA.set rfl
  have hpt : (setL "part" (tI u) L).lookup "part" = some (tI u) := lk_set
  generalize setL "part" (tI u) L = L1 at hA hpt ⊢
  cases p with
  | lf l =>
   have tp : u = leafTy nb l := tp
   subst tp
   have hok : okL nb l := hp
   obtain ⟨k, hk, h6, h7, hfree, h10⟩ := isFree B hok
   have hkk := hk
   obtain ⟨rr, er, hr⟩ := hk
   dl_step
   refine a_tab w1.w ?_
   dl_step
   refine a_rows w1.w ?_
   dl_step
   refine i_row w1.w er ?_
   have hA : Ag ["part", "row"] [("host", .ref x.host), ("t", tI t), ("deep", .int d)] (setL "row" (.tup (.int k :: rr)) L1) := hA.set rfl
   have hpt : (setL "row" (.tup (.int k :: rr)) L1).lookup "part" = some (tI (leafTy nb l)) := lk_setne rfl hpt
   have hrow : (setL "row" (.tup (.int k :: rr)) L1).lookup "row" = some (.tup (.int k :: rr)) := lk_set
   generalize setL "row" (.tup (.int k :: rr)) L1 = L2 at hA hpt hrow ⊢
   dl_step
   refine a_tab w1.w ?_
   dl_step
   refine (family_leaf F B hs1 hok w1.w).m1 ?_
   dl_step
   refine Br.dec (fun e => ?_) (fun e => ?_)
   ·dl_step
    refine ⟨w1, yes ?_⟩
    have := (famL_void l).mp e
    subst this
    rw [hvP, vL_a hok]; rfl
   rw [famL_void] at e
   dl_step
   refine i_hd hr ?_
   dl_step
   refine Br.Fd h7 ?_
   refine Br.Fd h7 ?_
   dl_step
   refine i_hd hr ?_
   dl_step
   refine q_inT rfl rfl ?_
   have hpar : ∀ i, l = .p i → hvP nb lone f g (.lf l) = f i := by rintro i rfl; rw [hvP, vL_p hok]
   have hnp : (¬ ∃ i, l = .p i) → hvP nb lone f g (.lf l) = false := fun h => by
    cases l with
    | p i => exact absurd ⟨i, rfl⟩ h
    | a k => rw [hvP, vL_a hok]; exact decide_eq_false e
   have fin : ∀ {σ2 : St}, hvP nb lone f g (.lf l) = false → Wk x σ b R σ2 → E0C3 (∀ u ∈ done ++ [leafTy nb l], ∀ p, okP nb p → TyP nb back R p u → hvP nb lone f g p = false) (Wk x σ b R σ2) (Ag ["part", "row"] [("host", .ref x.host), ("t", tI t), ("deep", .int d)] L2) :=
    fun h w2 => ⟨no h, w2, hA⟩
   refine Br.dec (fun ef => ?_) (fun ef => ?_)
   ·dl_step
    refine Br.dec (fun hd => ?_) (fun hd => ?_)
    ·have hd : d < 12 := by lia
     dl_step
     rcases Classical.em (∃ i, l = .p i) with ⟨i, rfl⟩ | hno
     ·cases hlq : lone i with
      | true =>
       have hfi : f i = false := by rw [hf, if_pos hd, stepH, hlq]; rfl
       refine (bp_lone F B hs1 hb hok hlq w1.w).m1 ?_
       refine t_seqT (Nat.le_of_ble_eq_true rfl) ?_
       refine W.gd rfl (W.ret ?_)
       intro o σ2 p2
       have l2 := w1.lo p2
       have w2 := w1.new p2
       refine any_lst (bs := []) l2.2 (Nat.zero_le _) ?_
       refine Br.F ?_
       dl_step
       exact fin (by rw [hpar i rfl, hfi]) w2
      | false =>
       rcases hb.it i hok with ⟨h1', _⟩ | ⟨_, tm, t', h2, h3', h4, h5, n1, n2, n3, n4, n5⟩
       ·rw [hlq] at h1'; exact nof _ h1'
       ·obtain ⟨out', hP', hcls, hol', hne, hval⟩ := ty_parts B h3' h5
        have hfi : f i = hvT nb lone g g' tm := by rw [hf, if_pos hd, stepH, hlq, h2]; rfl
        refine (bp_par F B hs1 hok h4 n1 n2 n3 n4 hP' w1.w).m1 ?_
        refine t_seqT (big_of (by rw [List.length_map]; lia)) ?_
        refine hv_comp (e' := ((d + 1 : Nat) : Int)) (T := fun u v => ∃ p, okP nb p ∧ TyP nb false R p u ∧ v = hvP nb lone g g' p) (fun _ => rfl) (hA.look rfl rfl) (fun d' σ' Q h => e_bin (e_var (lk_there rfl (hA.look rfl rfl)) (e_lit (b_add h)))) (fun u hu σ' w' => ?_) w1.w ?_
        ·obtain ⟨p', hp', tp'⟩ := hcls u hu
         refine (IHp hd p' u σ' hp' tp' (w1.next w')).m2 fun σ'' g1 => ?_
         exact ⟨g1, _, rfl, p', hp', tp', rfl⟩
        intro vs σ2 hF w2 o σ3 p3
        have w2 := w1.next w2
        have l3 := w2.lo p3
        have w3 := w2.new p3
        refine any_lst l3.2 (by rw [← hF.len]; exact big_of (by lia)) ?_
        have hany : vs.any id = f i := by
         rw [hfi, Bool.eq_iff_iff, ← hval lone g g', List.any_eq_true]
         constructor
         ·rintro ⟨v, hv, e⟩
          obtain ⟨u, hu, p', hp', tp', rfl⟩ := hF.right v hv
          exact ⟨u, hu, p', hp', tp', e⟩
         ·rintro ⟨u, hu, q, hq, tq, e⟩
          obtain ⟨v, hv, p', hp', tp', rfl⟩ := hF.left u hu
          exact ⟨_, hv, by rw [hv_wd B hp' hq tp' tq]; exact e⟩
        rw [hany]
        refine Br.bool (fun e' => ?_) (fun e' => ?_)
        ·dl_step
         exact ⟨w3, yes (by rw [hpar i rfl, e'])⟩
        ·dl_step
         exact fin (by rw [hpar i rfl, e']) w3
     ·refine (bp_other F hkk (fun h => hno (h10.mp h)) w1.w).mono ?_
      rintro _ σ1 ⟨rfl, rfl⟩
      refine t_seqT (Nat.le_of_ble_eq_true rfl) ?_
      refine W.gd rfl (W.ret ?_)
      intro o σ2 p2
      have l2 := w1.lo p2
      have w2 := w1.new p2
      refine any_lst (bs := []) l2.2 (Nat.zero_le _) ?_
      refine Br.F ?_
      dl_step
      exact fin (hnp hno) w2
    ·have hd : ¬ d < 12 := by lia
     dl_step
     refine fin ?_ w1
     rcases Classical.em (∃ i, l = .p i) with ⟨i, rfl⟩ | hno
     ·rw [hpar i rfl, hf, if_neg hd]
     ·exact hnp hno
   ·refine Br.Fd ef ?_
    dl_step
    exact fin (hnp fun ⟨i, h⟩ => ef (hfree.mpr (.inl ⟨i, h⟩))) w1
  | m ls =>
   have hokm : okM nb ls := hp
   dl_step
   refine a_tab w1.w ?_
   dl_step
   refine a_rows w1.w ?_
   dl_step
   refine i_row w1.w tp ?_
   have hA : Ag ["part", "row"] [("host", .ref x.host), ("t", tI t), ("deep", .int d)] (setL "row" (.tup [.int 7, .tup ((rv back (ls.map (leafTy nb))).map tI)]) L1) := hA.set rfl
   have hpt : (setL "row" (.tup [.int 7, .tup ((rv back (ls.map (leafTy nb))).map tI)]) L1).lookup "part" = some (tI u) := lk_setne rfl hpt
   have hrow : (setL "row" (.tup [.int 7, .tup ((rv back (ls.map (leafTy nb))).map tI)]) L1).lookup "row" = some (.tup [.int 7, .tup ((rv back (ls.map (leafTy nb))).map tI)]) := lk_set
   generalize setL "row" (.tup [.int 7, .tup ((rv back (ls.map (leafTy nb))).map tI)]) L1 = L2 at hA hpt hrow ⊢
   have h3in : (ls.map (leafTy nb)).contains 3 = true ↔ Lf.a 0 ∈ ls := by
    rw [List.contains_iff_mem, List.mem_map]
    refine ⟨fun ⟨l, hl, e⟩ => ?_, fun h => ⟨_, h, rfl⟩⟩
    have := (ty3 l (hokm.1 l hl)).mp e
    subst this; exact hl
   dl_step
   refine a_tab w1.w ?_
   dl_step
   refine (family_meet F B hs1 hokm tp w1.w).mono ?_
   rintro _ σ1 ⟨rfl, i, rfl, hi⟩
   dl_step
   refine Br.dec (fun e => ?_) (fun e => ?_)
   ·dl_step
    refine ⟨w1, yes ?_⟩
    rw [hvP, mV, h3in.mpr (hi.mp e)]; rfl
   have h3no : (ls.map (leafTy nb)).contains 3 = false := by
    rw [Bool.eq_false_iff]; intro h; exact e (hi.mpr (h3in.mp h))
   dl_step
   refine i_hd (Nat.le_of_ble_eq_true rfl) ?_
   dl_step
   refine Br.Td rfl ?_
   dl_step
   refine i_tup (Nat.le_of_ble_eq_true rfl) rfl ?_
   dl_step
   refine (mhv (g := g) F B hs1 hb hokm w1.w (fun l σ' hl w' => IHl (hmt ls rfl) l σ' hl (w1.next w'))).m2 fun σ2 w2 => ?_
   have w2 := w1.next w2
   refine Br.bool (fun e' => ?_) (fun e' => ?_)
   ·dl_step
    refine ⟨w2, yes ?_⟩
    rw [hvP, mV, e', Bool.or_true]
   ·dl_step
    refine i_hd (Nat.le_of_ble_eq_true rfl) ?_
    dl_step
    refine q_inT rfl rfl ?_
    refine Br.Fd (by decide) ?_
    refine Br.Fd (by decide) ?_
    dl_step
    exact ⟨no (by rw [hvP, mV, e', h3no]; rfl), w2, hA⟩
end

section
variable {fns : String → Option Fn} {n b : Nat} {σ : St} {x : X} {R : List D} {nb : Nat} {bs : List Int} {lone : Nat → Bool} {Bs : List (Option Tm)}
noncomputable def Hd (nb : Nat) (lone : Nat → Bool) (Bs : List (Option Tm)) (d : Nat) : Nat → Bool := Hh nb lone Bs (12 - d)
theorem Hd_step (d i : Nat) : Hd nb lone Bs d i = if d < 12 then stepH nb lone Bs (Hd nb lone Bs (d + 1)) (Hd nb lone Bs (d + 2)) i else false := by
 unfold Hd
 by_cases h : d < 12
 ·rw [if_pos h, show 12 - d = (12 - (d + 1)) + 1 from (Nat.succ_pred_eq_of_pos (Nat.sub_pos_of_lt h)).symm, Hh_succ]; rfl
 ·rw [if_neg h, Nat.sub_eq_zero_of_le (Nat.not_lt.mp h)]; rfl
noncomputable def HvAt (fns : String → Option Fn) (x : X) (nb : Nat) (lone : Nat → Bool) (Bs : List (Option Tm)) (bs : List Int) (R : List D) (d m : Nat) : Prop :=
 ∀ (b : Nat) (σ : St) (back : Bool) (tm : Tm) (t : Nat), Wl x b R σ → Hs x nb bs σ → okT nb tm → TyT nb back R tm t → W (callF fns m "holds_void" [.ref x.host, tI t, .int d] σ) fun v σ' => Wk x σ b R σ' ∧ v = .bool (hvT nb lone (Hd nb lone Bs d) (Hd nb lone Bs (d + 1)) tm)
theorem hv_leaf (F : Fns fns) (B : Base nb R) (hb : Bnds nb Bs lone bs R) {d : Nat} (hd : 12 ≤ d) (hs : Hs x nb bs σ) (w : Wl x b R σ) {l : Lf} (hl : okL nb l) : W (callF fns (n + 5) "holds_void" [.ref x.host, tI (leafTy nb l), .int d] σ) fun v σ' => Wk x σ b R σ' ∧ v = .bool (vL nb (Hd nb lone Bs d) (leafTy nb l)) := by
 obtain ⟨out, hP, hcls, hol, -, hval⟩ := ty_parts (back := false) B (tm := .tp (.lf l)) hl rfl
 have hno : ∀ u ∈ out, u = leafTy nb l := by
  rcases hP with ⟨_, rfl⟩ | ⟨_, rfl, _⟩ | ⟨_, e⟩
  ·nofun
  ·intro u hu; rw [List.mem_singleton] at hu; exact hu
  ·obtain ⟨j, h6, _, hj⟩ := leafLk B hl
   exact absurd (hj.fn ⟨_, e, by simp⟩) h6
 refine (hv_main (f := Hd nb lone Bs d) (g := Hd nb lone Bs (d + 1)) (g' := Hd nb lone Bs (d + 2)) (mt := false) (back := false) F B hs hb w hP hol (fun u hu => ⟨.lf l, hl, hno u hu, nofun⟩) (Hd_step d) nofun (fun h => absurd h (by lia))).m3 fun σ' vb w1 hv => ?_
 refine ⟨w1, ?_⟩
 rw [hval, ← Bool.eq_iff_iff] at hv
 rw [hv]; rfl
theorem hv_step (F : Fns fns) (B : Base nb R) (hb : Bnds nb Bs lone bs R) {d : Nat} (IHl : ∀ (b : Nat) (σ : St) l, Wl x b R σ → Hs x nb bs σ → okL nb l → W (callF fns (n + 3) "holds_void" [.ref x.host, tI (leafTy nb l), .int ((d + 1 : Nat) : Int)] σ) fun v σ' => Wk x σ b R σ' ∧ v = .bool (vL nb (Hd nb lone Bs (d + 1)) (leafTy nb l)))
  (IHp : d < 12 → HvAt fns x nb lone Bs bs R (d + 1) (n + 4)) : HvAt fns x nb lone Bs bs R d (n + 5) := by
 intro b σ back tm t w hs ho ht
 obtain ⟨out, hP, hcls, hol, -, hval⟩ := ty_parts B ho ht
 refine (hv_main (f := Hd nb lone Bs d) (g := Hd nb lone Bs (d + 1)) (g' := Hd nb lone Bs (d + 2)) (mt := true) F B hs hb w hP hol (fun u hu => by obtain ⟨p, h1, h2⟩ := hcls u hu; exact ⟨p, h1, h2, fun _ _ => rfl⟩) (Hd_step d) (fun _ l σ' hl w' => IHl b σ' l w'.w (hs.keep w') hl) (fun hd p u σ' hp tp w' => IHp hd b σ' false (.tp p) u w'.w (hs.keep w') hp tp)).m3 fun σ' vb w1 hv => ?_
 refine ⟨w1, ?_⟩
 rw [hval, ← Bool.eq_iff_iff] at hv
 rw [hv]
theorem hv_deep (F : Fns fns) (B : Base nb R) (hb : Bnds nb Bs lone bs R) {d : Nat} (hd : 12 ≤ d) : HvAt fns x nb lone Bs bs R d (n + 7) :=
 hv_step (n := n + 2) F B hb (fun b σ l w hs hl => hv_leaf F B hb (by lia) hs w hl) (fun h => absurd h (by lia))
theorem hv_all (F : Fns fns) (B : Base nb R) (hb : Bnds nb Bs lone bs R) : ∀ (e d n : Nat), d + e = 12 → HvAt fns x nb lone Bs bs R d (n + 2 * e + 7)
 | 0, d, n, h => hv_deep F B hb (by lia)
 | e + 1, d, n, h => by
  have e1 : n + 2 * (e + 1) + 7 = (n + 2 * e + 4) + 5 := by lia
  rw [e1]
  refine hv_step (n := n + 2 * e + 4) F B hb (fun b σ l w hs hl => ?_) (fun _ => ?_)
  ·exact hv_all F B hb e (d + 1) n (by lia) b σ false (.tp (.lf l)) _ w hs hl rfl
  ·exact (show n + 2 * e + 4 + 4 = (n + 1) + 2 * e + 7 by lia) ▸ hv_all F B hb e (d + 1) (n + 1) (by lia)
theorem hv_spec (F : Fns fns) (B : Base nb R) (hb : Bnds nb Bs lone bs R) (d n : Nat) : HvAt fns x nb lone Bs bs R d (n + 31) := by
 by_cases h : d ≤ 12
 ·have e1 : n + 31 = (n + 2 * d) + 2 * (12 - d) + 7 := by lia
  rw [e1]; exact hv_all F B hb (12 - d) d _ (by lia)
 ·exact hv_deep (n := n + 24) F B hb (by lia)

theorem equals_other (F : Fns fns) {a : Int} {rest : List D} (hl : rest.length ≤ 10) (ha : a ≠ 3) : W (callF fns (n + 1) "equals_void" [.ref x.host, .tup (.int a :: rest)] σ) fun v σ' => σ' = σ ∧ v = .bool false := by
 refine f_call2 F.equals_void fun Q' hQ => ?_
 dl_step
 refine i_hd hl ?_
 dl_step
 refine Br.Fd ha ?_
 dl_step
 exact ⟨rfl, by rw [decide_eq_false ha]⟩
theorem equals_spec (F : Fns fns) (B : Base nb R) (hb : Bnds nb Bs lone bs R) (hs : Hs x nb bs σ) (w : Wl x b R σ) {back : Bool} {tm : Tm} {t : Nat} (ho : okT nb tm) (ht : TyT nb back R tm t) {v0 : Bool} :
  W (callF fns (n + 32) "equals_void" [.ref x.host, .tup [.int 3, tI t, .bool v0]] σ) fun v σ' => Wk x σ b R σ' ∧ v = .bool (hvT nb lone (Hd nb lone Bs 0) (Hd nb lone Bs 1) tm) := by
 refine f_call2 F.equals_void fun Q' hQ => ?_
 dl_step
 refine i_hd (Nat.le_of_ble_eq_true rfl) ?_
 dl_step
 refine Br.Td rfl ?_
 dl_step
 refine h_force w ?_
 dl_step
 refine i_tup (Nat.le_of_ble_eq_true rfl) rfl ?_
 dl_step
 refine (force_spec F).m1 ?_
 dl_step
 refine (hv_spec F B hb 0 n b _ back tm t w hs ho ht).m2 fun σ' w1 => ?_
 dl_step
 exact ⟨w1, rfl⟩
theorem loses_spec (F : Fns fns) (B : Base nb R) (hb : Bnds nb Bs lone bs R) (hs : Hs x nb bs σ) (w : Wl x b R σ) {tm tm' : Tm} {t t' : Nat} (ho : okT nb tm) (ht : TyT nb false R tm t) (ho' : okT nb tm') (ht' : TyT nb false R tm' t') :
  W (callF fns (n + 32) "loses_void" [.ref x.host, tI t, tI t'] σ) fun v σ' => Wk x σ b R σ' ∧ v = .bool (hvT nb lone (Hd nb lone Bs 0) (Hd nb lone Bs 1) tm && !hvT nb lone (Hd nb lone Bs 0) (Hd nb lone Bs 1) tm') := by
 refine f_call3 F.loses_void fun Q' hQ => ?_
 dl_step
 refine h_force w ?_
 dl_step
 refine (force_spec F).m1 ?_
 dl_step
 refine (hv_spec F B hb 0 n b _ false tm t w hs ho ht).m2 fun σ1 w1 => ?_
 refine Br.bool (fun e => ?_) (fun e => ?_)
 ·dl_step
  refine (hv_spec F B hb 0 n b _ false tm' t' w1.w (hs.keep w1) ho' ht').m2 fun σ2 w2 => ?_
  dl_step
  exact ⟨w1.next w2, by rw [e]; rfl⟩
 ·dl_step
  exact ⟨w1, by rw [e]; rfl⟩
end

noncomputable def wD (k : Wd') : D := .str (nm k)
theorem wD_inj {a b : Wd'} (h : wD a = wD b) : a = b := nm_inj _ _ (D.str.inj h)
theorem mem_wD {k : Wd'} {ws : List Wd'} : wD k ∈ ws.map wD ↔ k ∈ ws :=
 ⟨fun h => by obtain ⟨u, hu, e⟩ := List.mem_map.mp h; rw [← wD_inj e]; exact hu, List.mem_map_of_mem⟩
theorem flats_wD {ws : List Wd'} : flats 6 (ws.map wD) = true := by
 rw [flats, List.all_eq_true]; intro d h; obtain ⟨u, _, rfl⟩ := List.mem_map.mp h; exact nm_ok u
theorem map_wD_inj : ∀ {a b : List Wd'}, a.map wD = b.map wD → a = b
 | [], [], _ => rfl
 | [], _ :: _, h => by cases h
 | _ :: _, [], h => by cases h
 | x :: a, y :: b, h => by
  rw [List.map_cons, List.map_cons, List.cons.injEq] at h
  rw [wD_inj h.1, map_wD_inj h.2]
noncomputable def LW (x : X) (σ : St) (o : Nat) (ws : List Wd') : Prop := σ[o]? = some (.list (ws.map wD)) ∧ ¬ x.mu o
theorem LW.keep {x : X} {b o : Nat} {R : List D} {σ σ' : St} {ws : List Wd'} (h : LW x σ o ws) (w : Wk x σ b R σ') : LW x σ' o ws := ⟨w.at h.2 h.1, h.2⟩
noncomputable def Nr (lo hi : Nat) (σ : St) (o : Nat) : Prop := (lo < o ∧ o < hi) ∨ σ.length ≤ o
noncomputable def RowAt (x : X) (lo hi : Nat) (σ : St) (r : Nat) (row : List (List Wd')) : Prop := 1 ≤ lo ∧ lo < r ∧ r < hi ∧ ∃ qs : List Nat, σ[r]? = some (.list (qs.map .ref)) ∧ ¬ x.mu r ∧ F2 (fun q ws => LW x σ q ws ∧ lo < q ∧ q < hi) qs row
theorem RowAt.keep {x : X} {b r lo hi : Nat} {R : List D} {σ σ' : St} {row : List (List Wd')} (h : RowAt x lo hi σ r row) (w : Wk x σ b R σ') : RowAt x lo hi σ' r row := by
 obtain ⟨h0, h01, h02, qs, h1, h2, h3⟩ := h
 exact ⟨h0, h01, h02, qs, w.at h2 h1, h2, h3.mono fun _ _ _ k => ⟨k.1.keep w, k.2⟩⟩
theorem F2.at {α β : Type} {r : α → β → Prop} : ∀ {l : List α} {m : List β} {i : Nat} {b : β}, F2 r l m → m[i]? = some b → ∃ a, l[i]? = some a ∧ r a b
 | [], [], _, _, _, e => by simp at e
 | a :: l, b :: m, 0, c, h, e => by simp at e; subst e; exact ⟨a, rfl, h.1⟩
 | a :: l, b :: m, i + 1, c, h, e => by simp at e; obtain ⟨d, h1, h2⟩ := F2.at h.2 e; exact ⟨d, by simpa using h1, h2⟩

noncomputable def wL (row : List (List Wd')) : Lf → List Wd'
 | .a k => if k = 4 ∨ k = 8 then [21] else if k = 17 ∨ k = 18 ∨ k = 19 then [] else [k]
 | .p i => row.getD i []
noncomputable def cutS (row : List (List Wd')) (out : List Wd') (l : Lf) : List Wd' := if 21 ∈ wL row l then out else if out = [21] then wL row l else out.filter (fun k => decide (k ∈ wL row l))
noncomputable def wCut (row : List (List Wd')) (ls : List Lf) : List Wd' := if Lf.a 0 ∈ ls then [0] else ls.foldl (cutS row) [21]
noncomputable def wP (row fewer : List (List Wd')) : Tp → List Wd'
 | .lf l => wL row l
 | .m ls => wCut fewer ls
noncomputable def wT (row fewer : List (List Wd')) : Tm → List Wd'
 | .tp p => wP row fewer p
 | .u ts => if ts.any topP then [] else ts.flatMap (wP row fewer)
noncomputable def Short (nb m : Nat) (row : List (List Wd')) : Prop := row.length = nb ∧ ∀ ws ∈ row, ws.length ≤ m
theorem wL_len {nb m : Nat} {row : List (List Wd')} (h : Short nb m row) (hm : 1 ≤ m) : ∀ l : Lf, (wL row l).length ≤ m
 | .a k => by
  rw [wL]
  by_cases h1 : k = 4 ∨ k = 8
  ·rw [if_pos h1]; exact hm
  ·rw [if_neg h1]
   by_cases h2 : k = 17 ∨ k = 18 ∨ k = 19
   ·rw [if_pos h2]; exact Nat.zero_le _
   ·rw [if_neg h2]; exact hm
 | .p i => by
  rw [wL, List.getD_eq_getElem?_getD]
  cases e : row[i]? with
  | none => exact Nat.zero_le _
  | some ws => exact h.2 ws (List.mem_of_getElem? e)
theorem cutS_len {nb m : Nat} {row : List (List Wd')} (h : Short nb m row) (hm : 1 ≤ m) {out : List Wd'} {l : Lf} (ho : out.length ≤ m) : (cutS row out l).length ≤ m := by
 unfold cutS; split
 ·exact ho
 ·split
  ·exact wL_len h hm l
  ·exact Nat.le_trans (List.length_filter_le _ _) ho
theorem fold_len {nb m : Nat} {row : List (List Wd')} (h : Short nb m row) (hm : 1 ≤ m) : ∀ {ls : List Lf} {out : List Wd'}, out.length ≤ m → (ls.foldl (cutS row) out).length ≤ m
 | [], _, ho => ho
 | l :: ls, _, ho => fold_len h hm (ls := ls) (cutS_len h hm ho)
theorem wCut_len {nb m : Nat} {row : List (List Wd')} (h : Short nb m row) (hm : 1 ≤ m) {ls : List Lf} : (wCut row ls).length ≤ m := by
 unfold wCut; split
 ·simpa using hm
 ·exact fold_len h hm (by simpa using hm)
theorem wP_len {nb m : Nat} {row fewer : List (List Wd')} (h : Short nb m row) (h' : Short nb m fewer) (hm : 1 ≤ m) : ∀ p : Tp, (wP row fewer p).length ≤ m
 | .lf l => wL_len h hm l
 | .m ls => wCut_len h' hm

section
variable {fns : String → Option Fn} {n b : Nat} {σ : St} {x : X} {R : List D} {nb m : Nat} {row fewer : List (List Wd')} {r r' lo hi : Nat}
theorem q_eqL {σ : St} {i j : Nat} {xs ys : List D} {P : Bool → Prop} (g : σ[i]? = some (.list xs)) (g' : σ[j]? = some (.list ys)) (fx : flats 6 xs = true) (fy : flats 6 ys = true) (h : P (decide (xs = ys))) : Wm (cmp .eq (.ref i) (.ref j) σ) P :=
 .of (by show ((lst σ i).bind fun xs => (lst σ j).bind fun ys => _) = _; rw [at_lst g, at_lst g', Option.bind_some, Option.bind_some, fx, fy]; exact congrArg some (D.beqs_eq _ _)) h
theorem LW.of {σ' : St} {o : Nat} {ws : List Wd'} (w : Wl x b R σ) (l : Lo σ σ' o (.list (ws.map wD))) : LW x σ' o ws := ⟨l.2, w.notmu l.1⟩
theorem star1 : ∀ k : Wd', D.str (nm k) ∈ [S "T[K]", S "question"] ↔ (k = 4 ∨ k = 8) := by decide +kernel
theorem top1 : ∀ k : Wd', D.str (nm k) ∈ [S "any", S "unknown", S "error"] ↔ (k = 17 ∨ k = 18 ∨ k = 19) := by decide +kernel
theorem flatsS : flats 6 [S "T[K]", S "question"] = true ∧ flats 6 [S "any", S "unknown", S "error"] = true := by decide +kernel
theorem words_leaf (F : Fns fns) (hr : RowAt x lo hi σ r row) (hs : Short nb m row) (hm : m ≤ 100) (hnb : nb ≤ 20) {l : Lf} (hl : okL nb l) (w : Wl x b R σ) : W (callF fns (n + 1) "_law_words" [l.enc, .ref r, .ref r'] σ) fun v σ' => Wk x σ b R σ' ∧ ∃ o, v = .ref o ∧ LW x σ' o (wL row l) ∧ Nr lo hi σ o := by
 have w0 := Wk.start w
 refine f_call3 F.law_words fun Q' hQ => ?_
 cases l with
 | p i =>
  dl_step
  refine ⟨_, _, rfl, ?_⟩
  dl_step
  refine q_eqF rfl (strFlat sOk.2.1) (strFlat sOk.2.1) ?_
  refine Br.Td rfl ?_
  dl_step
  obtain ⟨-, -, -, qs, h1, h2, h3⟩ := hr
  have hi : i < row.length := by rw [hs.1]; exact hl
  have e := List.getElem?_eq_getElem hi
  obtain ⟨q, hq, hq'⟩ := h3.at e
  refine i_lst h1 ⟨by lia, big_of (by rw [List.length_map, h3.len, hs.1]; lia)⟩ (d := .ref q) (by rw [Int.toNat_natCast, List.getElem?_map, hq]; rfl) ?_
  dl_step
  refine ⟨w0, q, rfl, ?_, .inl hq'.2⟩
  rw [wL, List.getD_eq_getElem?_getD, e]; exact hq'.1
 | a k =>
  dl_step
  refine ⟨_, _, rfl, ?_⟩
  dl_step
  refine q_eqF rfl (strFlat sOk.1) (strFlat sOk.2.1) ?_
  refine Br.Fd (by decide) ?_
  dl_step
  refine q_eqF rfl (strFlat sOk.1) (strFlat sOk.2.2.1) ?_
  refine Br.Fd (by decide) ?_
  dl_step
  refine q_eqF rfl (strFlat sOk.1) (strFlat sOk.2.2.2.1) ?_
  refine Br.Fd (by decide) ?_
  dl_step
  refine q_inT (strFlat (nm_ok k)) flatsS.1 ?_
  refine Br.dec (fun e => ?_) (fun e => ?_)
  ·rw [star1] at e
   dl_step
   intro o σ1 p1
   dl_step
   refine ⟨w0.new p1, o, rfl, ?_, .inr (w0.lo p1).1⟩
   rw [wL, if_pos e]
   exact LW.of (ws := [21]) w (w0.lo p1)
  ·rw [star1] at e
   dl_step
   refine q_inT (strFlat (nm_ok k)) flatsS.2 ?_
   refine Br.dec (fun e' => ?_) (fun e' => ?_)
   ·rw [top1] at e'
    dl_step
    intro o σ1 p1
    dl_step
    refine ⟨w0.new p1, o, rfl, ?_, .inr (w0.lo p1).1⟩
    rw [wL, if_neg e, if_pos e']
    exact LW.of (ws := []) w (w0.lo p1)
   ·rw [top1] at e'
    dl_step
    intro o σ1 p1
    dl_step
    refine ⟨w0.new p1, o, rfl, ?_, .inr (w0.lo p1).1⟩
    rw [wL, if_neg e, if_neg e']
    exact LW.of (ws := [k]) w (w0.lo p1)

theorem void_enc {l : Lf} : l.enc = D.tup [S "a", S "void"] ↔ l = .a 0 := by
 cases l with
 | p i => exact ⟨fun h => absurd h (by simp [Lf.enc, S]), nofun⟩
 | a k =>
  have : ∀ k : Wd', (Lf.a k).enc = D.tup [S "a", S "void"] ↔ k = 0 := by decide +kernel
  exact (this k).trans ⟨fun h => by rw [h], fun h => Lf.a.inj h⟩
theorem voidFlat : flat 6 (D.tup [S "a", S "void"]) = true := by decide +kernel
theorem words_cut (F : Fns fns) (hr : RowAt x lo hi σ r row) (hs : Short nb m row) (hm : m ≤ 100) (hm1 : 1 ≤ m) (hnb : nb ≤ 20) {ls : List Lf} (hl : okM nb ls) (w : Wl x b R σ) : W (callF fns (n + 2) "_law_cut" [.tup (ls.map Lf.enc), .ref r] σ) fun v σ' => Wk x σ b R σ' ∧ ∃ o, v = .ref o ∧ LW x σ' o (wCut row ls) ∧ Nr lo hi σ o := by
 have w0 := Wk.start w
 refine f_call2 F.law_cut fun Q' hQ => ?_
 dl_step
 refine q_inT voidFlat (Lf.flats6 ls) ?_
 have hin : D.tup [S "a", S "void"] ∈ ls.map Lf.enc ↔ Lf.a 0 ∈ ls := by
  rw [List.mem_map]
  exact ⟨fun ⟨l, h, e⟩ => by rw [void_enc] at e; exact e ▸ h, fun h => ⟨_, h, void_enc.mpr rfl⟩⟩
 refine Br.dec (fun e => ?_) (fun e => ?_)
 ·rw [hin] at e
  dl_step
  intro o σ1 p1
  dl_step
  refine ⟨w0.new p1, o, rfl, ?_, .inr (w0.lo p1).1⟩
  rw [wCut, if_pos e]
  exact LW.of (ws := [0]) w (w0.lo p1)
 rw [hin] at e
 dl_step
 intro o σ1 p1
 have w1 := w0.new p1
 have l1 := LW.of (ws := [21]) w (w0.lo p1)
 have hcut : wCut row ls = List.foldl (cutS row) [21] ls := by rw [wCut, if_neg e]
 refine x_loop (e_var rfl (t_seqT (big_of (by rw [List.length_map]; have := hl.2.2.2; lia)) ?_))
 refine forGo_map (f := Lf.enc) (xs := ls) (fun done L σ' => E2C6 (fun out o => out = List.foldl (cutS row) [21] done) (fun out o => LW x σ' o out) (fun out o => Nr lo hi σ o) (fun out o => L.lookup "out" = some (.ref o)) (fun out o => Wk x σ b R σ') (fun out o => Ag ["out", "one", "said"] [("parts", .tup (ls.map Lf.enc)), ("row", .ref r)] L)) ?_ ?_ ⟨[21], o, rfl, l1, .inr (w0.lo p1).1, lk_set, w1, Ag.set .refl rfl⟩
 ·rintro L σ2 ⟨out, o2, h3, l2, nr, ho, w2, hA⟩
  refine ⟨rfl, ?_⟩
  dl_step
  exact ⟨w2, o2, rfl, by rw [hcut, ← h3]; exact l2, nr⟩
 ·rintro done l rest L σ2 h1 ⟨out, o2, h3, l2, nr, ho, w2, hA⟩
  refine ⟨rfl, ?_⟩
  have hll : l ∈ ls := mem_mid h1
  have hout : out.length ≤ m := h3 ▸ fold_len hs hm1 (by simpa using hm1)
  have hdone : List.foldl (cutS row) [21] (done ++ [l]) = cutS row out l := by rw [List.foldl_append, ← h3]; rfl
  refine x_turn1 fun Q' hQ => ?_
  have hA : Ag ["out", "one", "said"] [("parts", .tup (ls.map Lf.enc)), ("row", .ref r)] (setL "one" l.enc L) := hA.set rfl
  have ho : (setL "one" l.enc L).lookup "out" = some (.ref o2) := lk_setne rfl ho
  have h1l : (setL "one" l.enc L).lookup "one" = some l.enc := lk_set
  generalize setL "one" l.enc L = L1 at hA ho h1l ⊢
  dl_step
  refine (words_leaf F (hr.keep w2) hs hm hnb (hl.1 l hll) w2.w).m3 fun σ3 o3 w3 hA' => ?_
  obtain ⟨l3, nr3⟩ := hA'
  have nr3 : Nr lo hi σ o3 := nr3.imp id fun h => Nat.le_trans w2.len h
  have l2 := l2.keep w3
  have w3 := w2.next w3
  have hA : Ag ["out", "one", "said"] [("parts", .tup (ls.map Lf.enc)), ("row", .ref r)] (setL "said" (.ref o3) L1) := hA.set rfl
  have ho : (setL "said" (.ref o3) L1).lookup "out" = some (.ref o2) := lk_setne rfl ho
  have hsd : (setL "said" (.ref o3) L1).lookup "said" = some (.ref o3) := lk_set
  generalize setL "said" (.ref o3) L1 = L2 at hA ho hsd ⊢
  dl_step
  refine q_ninL (x := S "*") l3.1 (strFlat (nm_ok 21)) flats_wD ?_
  have h21 : S "*" ∈ (wL row l).map wD ↔ 21 ∈ wL row l := mem_wD (k := 21)
  refine Br.ndec (fun e1 => ?_) (fun e1 => ?_)
  ·rw [h21] at e1
   dl_step
   intro o4 σ4 p4
   have l4 := (LW.of (ws := [21]) w (w3.lo p4))
   have w4 := w3.new p4
   have l24 : LW x σ4 o2 out := l2.keep (Wk.new (Wk.start w3.w) p4)
   have l34 : LW x σ4 o3 (wL row l) := l3.keep (Wk.new (Wk.start w3.w) p4)
   refine q_eqL l24.1 l4.1 flats_wD flats_wD ?_
   have h22 : out.map wD = [21].map wD ↔ out = [21] := ⟨map_wD_inj, fun h => by rw [h]⟩
   refine Br.dec (fun e2 => ?_) (fun e2 => ?_)
   ·rw [h22] at e2
    dl_step
    exact ⟨_, o3, by rw [hdone, cutS, if_neg e1, if_pos e2], l34, nr3, lk_set, w4, hA.set rfl⟩
   ·rw [h22] at e2
    dl_step
    refine t_seqL l24.1 (big_of (by rw [List.length_map]; lia)) ?_
    refine comp_fil (g := wD) (p := fun k => decide (k ∈ wL row l)) (· = σ4) (fun _ h => h ▸ still_list l24.1) (fun k _ _ h => ?_) (fun _ h => ?_) rfl
    ·subst h
     refine c_turn rfl fun Q' hQ => ?_
     dl_step
     refine q_inL l34.1 (strFlat (nm_ok k)) flats_wD ?_
     dl_step
     refine ⟨fun h => ?_, fun h => ?_⟩
     ·dl_step
      exact ⟨rfl, by rw [decide_eq_true (mem_wD.mp (of_decide_eq_true h))]; rfl⟩
     ·dl_step
      exact ⟨rfl, by rw [decide_eq_false fun h' => of_decide_eq_false h (mem_wD.mpr h')]; rfl⟩
    ·subst h
     intro o5 σ5 p5
     dl_step
     exact ⟨_, o5, by rw [hdone, cutS, if_neg e1, if_neg e2], LW.of w (w4.lo p5), .inr (w4.lo p5).1, lk_set, w4.new p5, hA.set rfl⟩
  ·rw [h21] at e1
   dl_step
   exact ⟨out, o2, by rw [hdone, cutS, if_pos e1], l2, nr, ho, w3, hA⟩
end

section
variable {fns : String → Option Fn} {n b : Nat} {σ : St} {x : X} {R : List D} {nb m : Nat} {row fewer : List (List Wd')} {r r' lo hi : Nat}
theorem enc_sub0 {p : Tp} : ∃ a c, p.enc = .tup [.str a, c] ∧ PyData.strOk a = true ∧ (a = Str.ofString "a" ↔ ∃ k, p = .lf (.a k)) := by
 have h1 : Str.ofString "p" ≠ Str.ofString "a" := by decide
 have h2 : Str.ofString "&" ≠ Str.ofString "a" := by decide
 cases p with
 | lf l =>
  cases l with
  | a k => exact ⟨_, _, rfl, sOk.1, fun _ => ⟨k, rfl⟩, fun _ => rfl⟩
  | p i => exact ⟨_, _, rfl, sOk.2.1, fun h => absurd h h1, fun ⟨k, h⟩ => by cases h⟩
 | m ls => exact ⟨_, _, rfl, sOk.2.2.1, fun h => absurd h h2, fun ⟨k, h⟩ => by cases h⟩
theorem top_eq (k : Wd') : topP (.lf (.a k)) = decide (k = 17 ∨ k = 18 ∨ k = 19) := by revert k; decide
theorem law_top (F : Fns fns) {ts : List Tp} (hl : ts.length ≤ 100) (w : Wl x b R σ) : W (callF fns (n + 1) "_law_top" [.tup (ts.map Tp.enc)] σ) fun v σ' => Wk x σ b R σ' ∧ v = .bool (ts.any topP) := by
 refine f_call1 F.law_top fun Q' hQ => ?_
 dl_step
 refine t_seqT (big_of (by rw [List.length_map]; lia)) ?_
 refine comp_fil (g := Tp.enc) (p := topP) (· = σ) (fun _ _ => rfl) (fun p _ _ h => ?_) (fun _ h => ?_) rfl
 rotate_left
 ·subst h
  intro o σ1 p1
  have w0 := Wk.start w
  have hle : (ts.filter topP).length ≤ ts.length := List.length_filter_le _ _
  refine len_lst (w0.lo p1).2 (big_of (by rw [List.length_map]; lia)) ?_
  dl_step
  refine ⟨w0.new p1, ?_⟩
  rw [List.length_map]
  congr 1
  rw [Bool.eq_iff_iff, decide_eq_true_eq, List.any_eq_true]
  constructor
  ·intro h
   have : 0 < (ts.filter topP).length := by lia
   obtain ⟨a, ha⟩ := List.exists_mem_of_length_pos this
   rw [List.mem_filter] at ha
   exact ⟨a, ha.1, ha.2⟩
  ·rintro ⟨a, ha, h⟩
   have : 0 < (ts.filter topP).length := List.length_pos_of_mem (List.mem_filter.mpr ⟨ha, h⟩)
   lia
 ·subst h
  obtain ⟨a, c, he, hs, ha⟩ := enc_sub0 (p := p)
  refine c_turn rfl fun Q' hQ => ?_
  dl_step
  rw [he]
  refine i_tup (Nat.le_of_ble_eq_true rfl) rfl ?_
  dl_step
  refine q_eqF rfl (strFlat hs) (strFlat sOk.1) ?_
  refine Br.dec (fun e => ?_) (fun e => ?_)
  ·obtain ⟨k, rfl⟩ := ha.mp (D.str.inj e)
   have hc : c = .str (nm k) := by
    have he' : D.tup [S "a", .str (nm k)] = .tup [.str a, c] := he
    injection he' with he'; injection he' with _ he'; injection he' with he' _
    exact he'.symm
   subst hc
   dl_step
   refine i_tup (Nat.le_of_ble_eq_true rfl) rfl ?_
   dl_step
   refine q_inT (strFlat (nm_ok k)) flatsS.2 ?_
   dl_step
   refine ⟨fun h => ?_, fun h => ?_⟩
   ·have h := (top1 k).mp (of_decide_eq_true h)
    dl_step
    exact ⟨rfl, by rw [top_eq, decide_eq_true h, he]; rfl⟩
   ·have h := fun q => of_decide_eq_false h ((top1 k).mpr q)
    dl_step
    exact ⟨rfl, by rw [top_eq, decide_eq_false h]; rfl⟩
  ·dl_step
   refine ⟨fun h => absurd (of_decide_eq_true h) e, fun _ => ?_⟩
   dl_step
   refine ⟨rfl, ?_⟩
   cases p with
   | m ls => rfl
   | lf l =>
    cases l with
    | p i => rfl
    | a k => exact absurd (congrArg D.str (ha.mpr ⟨k, rfl⟩)) e

theorem words_tp (F : Fns fns) (hr : RowAt x lo hi σ r row) (hf : RowAt x lo hi σ r' fewer) (hs : Short nb m row) (hs' : Short nb m fewer) (hm : m ≤ 100) (hm1 : 1 ≤ m) (hnb : nb ≤ 20) {p : Tp} (hp : okP nb p) (w : Wl x b R σ) : W (callF fns (n + 3) "_law_words" [p.enc, .ref r, .ref r'] σ) fun v σ' => Wk x σ b R σ' ∧ ∃ o, v = .ref o ∧ LW x σ' o (wP row fewer p) ∧ Nr lo hi σ o := by
 cases p with
 | lf l => exact words_leaf F hr hs hm hnb hp w
 | m ls =>
  refine f_call3 F.law_words fun Q' hQ => ?_
  dl_step
  refine ⟨_, _, rfl, ?_⟩
  dl_step
  refine q_eqF rfl (strFlat sOk.2.2.1) (strFlat sOk.2.1) ?_
  refine Br.Fd (by decide) ?_
  dl_step
  refine q_eqF rfl (strFlat sOk.2.2.1) (strFlat sOk.2.2.1) ?_
  refine Br.Td rfl ?_
  dl_step
  refine (words_cut F hf hs' hm hm1 hnb hp w).m3 fun σ1 o w1 h => ?_
  dl_step
  exact ⟨w1, o, rfl, h⟩

theorem words_spec (F : Fns fns) (hr : RowAt x lo hi σ r row) (hf : RowAt x lo hi σ r' fewer) (hs : Short nb m row) (hs' : Short nb m fewer) (hm : m ≤ 100) (hm1 : 1 ≤ m) (hnb : nb ≤ 20) (hhi : hi ≤ σ.length) {tm : Tm} (ht : okT nb tm) (w : Wl x b R σ) : W (callF fns (n + 4) "_law_words" [tm.enc, .ref r, .ref r'] σ) fun v σ' => Wk x σ b R σ' ∧ ∃ o, v = .ref o ∧ LW x σ' o (wT row fewer tm) ∧ Nr lo hi σ o := by
 cases tm with
 | tp p => exact words_tp F hr hf hs hs' hm hm1 hnb ht w
 | u ts =>
  have w0 := Wk.start w
  have hlen : (ts.map Tp.enc).length ≤ big := big_of (by rw [List.length_map]; have := ht.2; lia)
  refine f_call3 F.law_words fun Q' hQ => ?_
  dl_step
  refine ⟨_, _, rfl, ?_⟩
  dl_step
  refine q_eqF rfl (strFlat sOk.2.2.2.1) (strFlat sOk.2.1) ?_
  refine Br.Fd (by decide) ?_
  dl_step
  refine q_eqF rfl (strFlat sOk.2.2.2.1) (strFlat sOk.2.2.1) ?_
  refine Br.Fd (by decide) ?_
  dl_step
  refine q_eqF rfl (strFlat sOk.2.2.2.1) (strFlat sOk.2.2.2.1) ?_
  refine Br.Td rfl ?_
  dl_step
  intro o σ1 p1
  have l1 := w0.lo p1
  have w1 := w0.new p1
  have hAg : Ag ["one"] [("term", (Tm.u ts).enc), ("row", .ref r), ("fewer", .ref r'), ("sort", S "|"), ("what", .tup (ts.map Tp.enc)), ("out", .ref o)] (setL "out" (.ref o) (setL "what" (.tup (ts.map Tp.enc)) (setL "sort" (S "|") [("term", (Tm.u ts).enc), ("row", .ref r), ("fewer", .ref r')]))) := .refl
  generalize setL "out" (.ref o) (setL "what" (.tup (ts.map Tp.enc)) (setL "sort" (S "|") [("term", (Tm.u ts).enc), ("row", .ref r), ("fewer", .ref r')])) = L0 at hAg ⊢
  refine x_loop (e_var (hAg.look rfl rfl) (t_seqT hlen ?_))
  refine forGo_map (f := Tp.enc) (xs := ts) (fun done L σ' => E0C4 (Lo σ σ' o (.list ((done.flatMap (wP row fewer)).map wD))) ((done.flatMap (wP row fewer)).length ≤ m * done.length) (Wk x σ b R σ') (Ag ["one"] [("term", (Tm.u ts).enc), ("row", .ref r), ("fewer", .ref r'), ("sort", S "|"), ("what", .tup (ts.map Tp.enc)), ("out", .ref o)] L)) ?_ ?_ ⟨l1, Nat.zero_le _, w1, hAg⟩
  ·rintro L σ2 ⟨l2, hln, w2, hA⟩
   refine ⟨rfl, ?_⟩
   dl_step
   refine (law_top F (by have := ht.2; lia) w2.w).m2 fun σ3 w3 => ?_
   have l3 := l2.call w w3
   have w3 := w2.next w3
   refine Br.bool (fun e => ?_) (fun e => ?_)
   ·dl_step
    intro o4 σ4 p4
    dl_step
    refine ⟨w3.new p4, o4, rfl, ?_, .inr (w3.lo p4).1⟩
    rw [wT, if_pos e]
    exact LW.of (ws := []) w (w3.lo p4)
   ·dl_step
    refine ⟨w3, o, rfl, ?_, .inr l3.1⟩
    rw [wT, if_neg (by rw [e]; decide)]
    exact LW.of w l3
  ·rintro done p rest L σ2 h1 ⟨l2, hln, w2, hA⟩
   refine ⟨rfl, ?_⟩
   have hp : p ∈ ts := mem_mid h1
   have hdl : done.length + 1 ≤ 10 := by
    have := congrArg List.length h1
    simp at this; have := ht.2; lia
   refine x_turn1 fun Q' hQ => ?_
   dl_step
   refine ⟨o, _, rfl, l2.ge w, l2.2, ?_⟩
   dl_step
   refine (words_tp F (hr.keep w2) (hf.keep w2) hs hs' hm hm1 hnb (ht.1 p hp) w2.w).m3 fun σ3 o3 w3 hA' => ?_
   obtain ⟨l3, nr⟩ := hA'
   have hoo : o < σ2.length := at_lt l2.2
   have ho3 : o3 ≠ o ∧ 2 ≤ o3 := by
    have h1 := hr.1; have h2 := l2.1; have h3 := w2.two
    rcases nr with ⟨h, h'⟩ | h <;> lia
   have l2' := l2.call w w3
   have w3' := w2.next w3
   have hpl := wP_len hs hs' hm1 p
   have hmul : m * done.length ≤ 100 * 10 := Nat.mul_le_mul hm (by lia)
   refine ⟨_, _, l2'.2, at_lst l3.1, ⟨?_, ?_, ?_, ?_⟩, ?_⟩
   ·rw [List.length_map, List.length_map]
    show _ ≤ 100000
    lia
   ·exact rn ho3.1
   ·exact rn (by lia)
   ·exact rn (by lia)
   intro σ4 p4
   refine ⟨rfl, ?_⟩
   dl_step
   refine ⟨?_, ?_, w3'.upd w l2' p4, hA.set rfl⟩
   ·have := l2'.upd p4
    rw [← List.map_append] at this
    rw [List.flatMap_append]
    simpa using this
   ·rw [List.flatMap_append, List.length_append, List.length_append, Nat.mul_add]
    have e1 : (List.flatMap (wP row fewer) [p]).length = (wP row fewer p).length := by simp
    rw [e1]
    show _ ≤ m * done.length + m * 1
    lia
end

noncomputable def loneO (i : Nat) : Option Tm → Bool
 | none => true
 | some (.tp (.lf (.p j))) => decide (j = i)
 | some (.u ts) => ts.any topP
 | some _ => false
noncomputable def loneF (Bs : List (Option Tm)) (i : Nat) : Bool := loneO i ((Bs[i]?).getD none)
noncomputable def stepW (nb : Nat) (lone : Nat → Bool) (Bs : List (Option Tm)) (row fewer : List (List Wd')) : List (List Wd') := (List.range nb).map fun i => if lone i then [21] else match Bs[i]? with | some (some t) => (wT row fewer t).filter (fun k => decide (k ≠ 21)) | _ => []
noncomputable def Wr (nb : Nat) (lone : Nat → Bool) (Bs : List (Option Tm)) : Nat → List (List Wd')
 | 0 => (List.range nb).map fun i => if lone i then [21] else []
 | 1 => stepW nb lone Bs (Wr nb lone Bs 0) (Wr nb lone Bs 0)
 | l + 2 => stepW nb lone Bs (Wr nb lone Bs (l + 1)) (Wr nb lone Bs l)
section
variable {nb : Nat} {lone : Nat → Bool} {Bs : List (Option Tm)}
theorem Wr_succ : ∀ l, Wr nb lone Bs (l + 1) = stepW nb lone Bs (Wr nb lone Bs l) (Wr nb lone Bs (l - 1))
 | 0 => rfl
 | l + 1 => rfl
theorem Wr_0 : Wr nb lone Bs 0 = (List.range nb).map fun i => if lone i then [21] else [] := rfl
theorem loneO_p {i j : Nat} : loneO i (some (.tp (.lf (.p j)))) = decide (j = i) := rfl
theorem Short.more {m m' : Nat} {row : List (List Wd')} (h : Short nb m row) (k : m ≤ m') : Short nb m' row := ⟨h.1, fun ws hw => Nat.le_trans (h.2 ws hw) k⟩
theorem wB_len {m : Nat} {row fewer : List (List Wd')} (h : Short nb m row) (h' : Short nb m fewer) (hm : 1 ≤ m) {t : Tm} (ht : okB nb (some t)) : (wT row fewer t).length ≤ m + 1 := by
 cases t with
 | tp p => exact Nat.le_succ_of_le (wP_len h h' hm p)
 | u ts =>
  obtain ⟨_, ⟨k, hk⟩, hl⟩ := ht
  have h1 : ∀ k, (wP row fewer (.lf (.a k))).length ≤ 1 := fun k => by
   show (wL row (.a k)).length ≤ 1
   rw [wL]
   by_cases h1 : k = 4 ∨ k = 8
   ·rw [if_pos h1]; exact Nat.le_refl 1
   ·rw [if_neg h1]
    by_cases h2 : k = 17 ∨ k = 18 ∨ k = 19
    ·rw [if_pos h2]; exact Nat.zero_le _
    ·rw [if_neg h2]; exact Nat.le_refl 1
  rw [wT]
  by_cases hany : ts.any topP = true
  ·rw [if_pos hany]; exact Nat.zero_le _
  ·rw [if_neg hany]
   clear hany
   match ts, hk, hl with
   | [], hk, _ => cases hk
   | [p], _, _ => have := wP_len h h' hm p; simp; lia
   | [p, q], hk, _ =>
    have hp := wP_len h h' hm p
    have hq := wP_len h h' hm q
    have h1 := h1 k
    simp only [List.mem_cons, List.not_mem_nil, or_false] at hk
    simp only [List.flatMap_cons, List.flatMap_nil, List.length_append, List.length_nil]
    rcases hk with rfl | rfl <;> lia
   | _ :: _ :: _ :: _, _, hl => simp at hl
theorem step_short {m : Nat} {row fewer : List (List Wd')} (h : Short nb m row) (h' : Short nb m fewer) (hm : 1 ≤ m) (hB : ∀ t ∈ Bs, okB nb t) : Short nb (m + 1) (stepW nb lone Bs row fewer) := by
 refine ⟨by rw [stepW, List.length_map, List.length_range], fun ws hw => ?_⟩
 obtain ⟨i, _, rfl⟩ := List.mem_map.mp hw
 split
 ·show 1 ≤ _; lia
 ·split
  ·rename_i t e
   exact Nat.le_trans (List.length_filter_le _ _) (wB_len h h' hm (hB _ (List.mem_of_getElem? e)))
  ·exact Nat.zero_le _
theorem Wr_short (hB : ∀ t ∈ Bs, okB nb t) : ∀ l, Short nb (l + 1) (Wr nb lone Bs l) ∧ Short nb (l + 2) (Wr nb lone Bs (l + 1))
 | 0 => by
  have h0 : Short nb 1 (Wr nb lone Bs 0) := ⟨by rw [Wr_0, List.length_map, List.length_range], fun ws hw => by
   rw [Wr_0] at hw
   obtain ⟨i, _, rfl⟩ := List.mem_map.mp hw
   split
   ·exact Nat.le_refl 1
   ·exact Nat.zero_le _⟩
  exact ⟨h0, by rw [Wr_succ]; exact step_short h0 h0 (by lia) hB⟩
 | l + 1 => by
  obtain ⟨h1, h2⟩ := Wr_short hB l
  exact ⟨h2, by rw [Wr_succ]; exact step_short h2 (h1.more (by lia)) (by lia) hB⟩
theorem okT_of_okB {t : Tm} (h : okB nb (some t)) : okT nb t := by
 cases t with
 | tp p =>
  cases p with
  | lf l =>
   cases l with
   | a k => have h : k = 0 := h; subst h; show (0 : Nat) < 21; decide
   | p i => exact h
  | m ls => exact h
 | u ts => exact ⟨fun t ht => (h.1 t ht).1, by have := h.2.2; lia⟩
end

section
variable {fns : String → Option Fn} {n b : Nat} {σ : St} {x : X} {R : List D} {nb : Nat} {lone : Nat → Bool} {Bs : List (Option Tm)}
theorem enc_p {t : Tm} {i : Nat} : t.enc = (Lf.p i).enc ↔ t = .tp (.lf (.p i)) := by
 have h1 : Str.ofString "a" ≠ Str.ofString "p" := by decide
 have h2 : Str.ofString "&" ≠ Str.ofString "p" := by decide
 have h3 : Str.ofString "|" ≠ Str.ofString "p" := by decide
 refine ⟨fun h => ?_, fun h => by rw [h]; rfl⟩
 cases t with
 | tp p =>
  cases p with
  | lf l =>
   cases l with
   | a k => injection h with h; injection h with h _; exact absurd (D.str.inj h) h1
   | p j => injection h with h; injection h with _ h; injection h with h _; rw [Int.ofNat_inj.mp (D.int.inj h)]
  | m ls => injection h with h; injection h with h _; exact absurd (D.str.inj h) h2
 | u ts => injection h with h; injection h with h _; exact absurd (D.str.inj h) h3
theorem bare_spec (F : Fns fns) {o i : Nat} (g : σ[o]? = some (.list (Bs.map encO))) (hl : Bs.length ≤ 20) (hi : i < Bs.length) (hB : ∀ t ∈ Bs, okB nb t) (w : Wl x b R σ) : W (callF fns (n + 2) "_law_bare" [.ref o, .int i] σ) fun v σ' => Wk x σ b R σ' ∧ v = .bool (loneF Bs i) := by
 have w0 := Wk.start w
 have e := List.getElem?_eq_getElem hi
 have hok := hB _ (List.getElem_mem hi)
 rw [loneF, e, Option.getD_some]
 generalize Bs[i] = t at e hok
 refine f_call2 F.law_bare fun Q' hQ => ?_
 dl_step
 refine i_lst g ⟨by lia, big_of (by rw [List.length_map]; lia)⟩ (d := encO t) (by rw [Int.toNat_natCast, List.getElem?_map, e]; rfl) ?_
 dl_step
 cases t with
 | none =>
  refine Br.T ?_
  refine Br.T ?_
  dl_step
  exact ⟨w0, rfl⟩
 | some t =>
  have hn : (decide (encO (some t) = .none) == true) = false := by
   have : t.enc ≠ .none := by have := t.isFlat; intro h; rw [h] at this; exact nof _ this
   rw [show encO (some t) = t.enc from rfl, decide_eq_false this]; rfl
  refine Br.Ff hn ?_
  dl_step
  refine q_eqF t.isFlat t.flat (Lf.p i).flat6 ?_
  have hp : (encO (some t) = D.tup [S "p", .int i]) ↔ t = .tp (.lf (.p i)) := enc_p
  refine Br.dec (fun e1 => ?_) (fun e1 => ?_)
  ·rw [hp] at e1
   subst e1
   dl_step
   exact ⟨w0, by rw [loneO_p, decide_eq_true rfl]⟩
  ·rw [hp] at e1
   dl_step
   cases t with
   | tp p =>
    obtain ⟨a, c, he, hs, _⟩ := enc_sub0 (p := p)
    have hne : D.str a ≠ S "|" := by
     have h1 : Str.ofString "a" ≠ Str.ofString "|" := by decide
     have h2 : Str.ofString "p" ≠ Str.ofString "|" := by decide
     have h3 : Str.ofString "&" ≠ Str.ofString "|" := by decide
     intro h
     have h := D.str.inj h
     subst h
     cases p with
     | lf l =>
      cases l with
      | a k => injection he with he; injection he with he _; exact h1 (D.str.inj he)
      | p j => injection he with he; injection he with he _; exact h2 (D.str.inj he)
     | m ls => injection he with he; injection he with he _; exact h3 (D.str.inj he)
    rw [show encO (some (.tp p)) = p.enc from rfl, he]
    refine i_tup (Nat.le_of_ble_eq_true rfl) rfl ?_
    dl_step
    refine q_eqF rfl (strFlat hs) (strFlat sOk.2.2.2.1) ?_
    refine Br.Fd hne ?_
    dl_step
    refine ⟨w0, ?_⟩
    rw [decide_eq_false hne]
    cases p with
    | lf l =>
     cases l with
     | a k => rfl
     | p j => rw [loneO_p, decide_eq_false (fun h => e1 (by rw [h]))]
    | m ls => rfl
   | u ts =>
    refine i_tup (Nat.le_of_ble_eq_true rfl) rfl ?_
    dl_step
    refine q_eqF rfl (strFlat sOk.2.2.2.1) (strFlat sOk.2.2.2.1) ?_
    refine Br.Td rfl ?_
    dl_step
    refine i_tup (Nat.le_of_ble_eq_true rfl) rfl ?_
    dl_step
    refine (law_top F (by have := hok.2.2; omega) w).m2 fun σ1 w1 => ?_
    dl_step
    exact ⟨w1, rfl⟩

noncomputable def RowsAt (x : X) (lo hi : Nat) (σ : St) (ri : Nat) (rows : List (List (List Wd'))) : Prop := ∃ refs : List Nat, σ[ri]? = some (.list (refs.map .ref)) ∧ ¬ x.mu ri ∧ F2 (fun q row => RowAt x lo hi σ q row) refs rows
theorem RowsAt.keep {lo hi ri : Nat} {σ' : St} {rows : List (List (List Wd'))} (h : RowsAt x lo hi σ ri rows) (w : Wk x σ b R σ') : RowsAt x lo hi σ' ri rows := by
 obtain ⟨refs, h1, h2, h3⟩ := h
 exact ⟨refs, w.at h2 h1, h2, h3.mono fun _ _ _ k => k.keep w⟩
theorem i_ref {σ : St} {o i q : Nat} {refs : List Nat} {P : D → Prop} (g : σ[o]? = some (.list (refs.map .ref))) (hl : refs.length ≤ 100) (e : refs[i]? = some q) (h : P (.ref q)) : Wm (item σ (.ref o) (.int i)) P :=
 i_lst g ⟨by lia, big_of (by rw [List.length_map]; lia)⟩ (by rw [Int.toNat_natCast, List.getElem?_map, e]; rfl) h
theorem range_get {α : Type} {f : Nat → α} {m i : Nat} (h : i < m) : ((List.range m).map f)[i]? = some (f i) := by
 rw [List.getElem?_map, List.getElem?_range h]; rfl
theorem holds_spec (F : Fns fns) {wi ai pi ri lo hi : Nat} (p : Wp x nb wi ai pi ri σ) (hr : RowsAt x lo hi σ ri ((List.range 13).map (Wr nb lone Bs))) (hB : ∀ t ∈ Bs, okB nb t) (hhi : hi ≤ σ.length) {tm : Tm} (ht : okT nb tm) {d : Nat} (w : Wl x b R σ) :
  W (callF fns (n + 5) "_law_holds" [.ref wi, tm.enc, .int d] σ) fun v σ' => Wk x σ b R σ' ∧ v = .bool (decide (0 ∈ wT (Wr nb lone Bs (12 - d)) (Wr nb lone Bs (12 - d - 1)) tm)) := by
 obtain ⟨refs, h1, h2, h3⟩ := hr
 have hrl : refs.length = 13 := by rw [h3.len, List.length_map, List.length_range]
 obtain ⟨q1, e1, r1⟩ := h3.at (range_get (f := Wr nb lone Bs) (Nat.lt_succ_of_le (Nat.sub_le 12 d)))
 obtain ⟨q2, e2, r2⟩ := h3.at (range_get (f := Wr nb lone Bs) (Nat.lt_succ_of_le (Nat.le_trans (Nat.sub_le _ 1) (Nat.sub_le 12 d))))
 have s1 := ((Wr_short (lone := lone) hB (12 - d)).1).more (Nat.succ_le_succ (Nat.sub_le 12 d))
 have s2 := ((Wr_short (lone := lone) hB (12 - d - 1)).1).more (Nat.succ_le_succ (Nat.le_trans (Nat.sub_le _ 1) (Nat.sub_le 12 d)))
 have m1 : max ((12 : Int) - (d : Int)) 0 = ((12 - d : Nat) : Int) := imax (l := 12)
 have m2 : max (((12 - d : Nat) : Int) - 1) 0 = ((12 - d - 1 : Nat) : Int) := imax (k := 1)
 refine f_call3 F.law_holds fun Q' hQ => ?_
 dl_step
 refine ⟨_, _, rfl, rfl, ?_⟩
 rw [m1]
 dl_step
 refine i_w p.w rfl rfl ?_
 dl_step
 refine i_ref h1 (by lia) e1 ?_
 dl_step
 refine i_w p.w rfl rfl ?_
 dl_step
 refine ⟨_, _, rfl, rfl, ?_⟩
 rw [m2]
 refine i_ref h1 (by lia) e2 ?_
 dl_step
 refine (words_spec F r1 r2 s1 s2 (by decide) (by decide) p.nb hhi ht w).m3 fun σ1 o w1 hA' => ?_
 obtain ⟨h, -⟩ := hA'
 refine q_inL (x := wD 0) h.1 (strFlat (nm_ok 0)) flats_wD ?_
 dl_step
 refine ⟨w1, ?_⟩
 congr 1
 rw [decide_eq_decide]
 exact mem_wD
end

noncomputable def wcell (nb : Nat) (lone : Nat → Bool) (Bs : List (Option Tm)) (l i : Nat) : List Wd' := if lone i then [21] else match l with
 | 0 => []
 | l + 1 => match Bs[i]? with | some (some t) => (wT (Wr nb lone Bs l) (Wr nb lone Bs (l - 1)) t).filter (fun k => decide (k ≠ 21)) | _ => []
section
variable {nb : Nat} {lone : Nat → Bool} {Bs : List (Option Tm)} {x : X} {σ σ' : St} {lo hi r j q : Nat} {o : Ob} {row : List (List Wd')} {ws : List Wd'}
theorem Wr_map : ∀ l, Wr nb lone Bs l = (List.range nb).map (wcell nb lone Bs l)
 | 0 => rfl
 | l + 1 => by rw [Wr_succ]; rfl
theorem LW.updO (h : LW x σ q ws) (p : Upd σ j o σ') (n : j ≠ q) : LW x σ' q ws := by cases p; exact ⟨setOld n h.1, h.2⟩
theorem out_ne {j lo hi r : Nat} (n : j ≤ lo ∨ hi ≤ j) (a : lo < r) (b : r < hi) : j ≠ r := by lia
theorem RowAt.updO (h : RowAt x lo hi σ r row) (p : Upd σ j o σ') (n : j ≤ lo ∨ hi ≤ j) : RowAt x lo hi σ' r row := by
 obtain ⟨h0, h01, h02, qs, h1, h2, h3⟩ := h
 exact ⟨h0, h01, h02, qs, by cases p; exact setOld (out_ne n h01 h02) h1, h2, h3.mono fun a ha _ k => ⟨k.1.updO p (out_ne n k.2.1 k.2.2), k.2⟩⟩
theorem RowAt.wide {hi' : Nat} (h : RowAt x lo hi σ r row) (k : hi ≤ hi') : RowAt x lo hi' σ r row := by
 obtain ⟨h0, h01, h02, qs, h1, h2, h3⟩ := h
 exact ⟨h0, h01, Nat.lt_of_lt_of_le h02 k, qs, h1, h2, h3.mono fun a ha _ k' => ⟨k'.1, k'.2.1, Nat.lt_of_lt_of_le k'.2.2 k⟩⟩
theorem rows2_c {σ : St} {q : Nat} {r : List D} : rows2 σ (.ref q :: r) = (lst σ q).bind fun xs => (rows2 σ r).bind fun rest => gd (flats 6 xs = true) (some (xs :: rest)) := rfl
theorem rows2_map {row : List (List Wd')} : ∀ {qs : List Nat}, F2 (fun q ws => LW x σ q ws ∧ lo < q ∧ q < hi) qs row → rows2 σ (qs.map .ref) = some (row.map fun ws => ws.map wD) := by
 intro qs
 induction qs generalizing row with
 | nil => intro h; cases row with | nil => rfl | cons => cases h
 | cons q qs ih =>
  intro h
  cases row with
  | nil => cases h
  | cons ws row =>
   rw [List.map_cons, List.map_cons, rows2_c, at_lst h.1.1.1, Option.bind_some, ih h.2, Option.bind_some, gd_pos flats_wD]
theorem rows_inj : ∀ {a b : List (List Wd')}, a.map (fun ws => ws.map wD) = b.map (fun ws => ws.map wD) → a = b
 | [], [], _ => rfl
 | [], _ :: _, h => by cases h
 | _ :: _, [], h => by cases h
 | x :: a, y :: b, h => by
  rw [List.map_cons, List.map_cons, List.cons.injEq] at h
  rw [map_wD_inj h.1, rows_inj h.2]
theorem tup_inj : ∀ {a b : List (List D)}, a.map D.tup = b.map D.tup → a = b
 | [], [], _ => rfl
 | [], _ :: _, h => by cases h
 | _ :: _, [], h => by cases h
 | x :: a, y :: b, h => by
  rw [List.map_cons, List.map_cons, List.cons.injEq] at h
  rw [D.tup.inj h.1, tup_inj h.2]
theorem q_eqRow {i j : Nat} {A B : List (List Wd')} {lo' hi' : Nat} {P : Bool → Prop} (h1 : RowAt x lo hi σ i A) (h2 : RowAt x lo' hi' σ j B) (hA : A ≠ []) (h : ∀ v : Bool, (v = true → A = B) → P v) : Wm (cmp .eq (.ref i) (.ref j) σ) P := by
 obtain ⟨-, -, -, qs, e1, -, f1⟩ := h1
 obtain ⟨-, -, -, qs', e2, -, f2⟩ := h2
 have hf : flats 6 (qs.map D.ref) = false := by
  cases qs with
  | nil => cases A with | nil => exact absurd rfl hA | cons => cases f1
  | cons q qs => rfl
 refine .of (a := D.beqs (D.ofRows (A.map fun ws => ws.map wD)) (D.ofRows (B.map fun ws => ws.map wD))) ?_ (h _ fun hv => ?_)
 ·show ((lst σ i).bind fun xs => (lst σ j).bind fun ys => _) = _
  rw [at_lst e1, at_lst e2, Option.bind_some, Option.bind_some, hf]
  show ((rows2 σ _).bind _) = _
  rw [rows2_map f1, rows2_map f2]; rfl
 ·rw [D.beqs_iff] at hv
  exact rows_inj (tup_inj hv)
end

section
variable {fns : String → Option Fn} {n b : Nat} {σ : St} {x : X} {R : List D} {nb : Nat} {lone : Nat → Bool} {Bs : List (Option Tm)}
theorem rounds_spec (F : Fns fns) {bo li : Nat} (hb : σ[bo]? = some (.list (Bs.map encO))) (mb : ¬ x.mu bo) (hli : σ[li]? = some (.list (((List.range nb).map lone).map .bool))) (ml : ¬ x.mu li) (hBl : Bs.length = nb) (hnb : nb ≤ 20) (hn1 : 1 ≤ nb) (hB : ∀ t ∈ Bs, okB nb t) (hlo : ∀ i, i < nb → lone i = loneF Bs i) (w : Wl x b R σ) :
  W (callF fns (n + 5) "_law_rounds" [.ref bo, .ref li] σ) fun v σ' => Wk x σ b R σ' ∧ ∃ ro hi, v = .ref ro ∧ σ.length ≤ ro ∧ RowsAt x ro hi σ' ro ((List.range 13).map (Wr nb lone Bs)) ∧ hi ≤ σ'.length := by
 have w0 := Wk.start w
 have hbb : (Bs.map encO).length ≤ big := big_of (by rw [List.length_map, hBl]; exact Nat.le_trans hnb (by decide))
 refine f_call2 F.law_rounds fun Q' hQ => ?_
 dl_step
 intro ro σ1 p1
 have l1 := w0.lo p1
 have w1 := w0.new p1
 have hA0 : Ag ["left", "row", "place", "said"] [("bounds", .ref bo), ("lone", .ref li), ("rows", .ref ro)] (setL "rows" (.ref ro) [("bounds", .ref bo), ("lone", .ref li)]) := .refl
 generalize setL "rows" (.ref ro) [("bounds", .ref bo), ("lone", .ref li)] = L0 at hA0 ⊢
 refine x_loop (e_lit (t_range (n := 13) (by decide) ?_))
 refine forGo_range (fun l L σ' => E2C5 (fun refs hi => Lo σ σ' ro (.list (List.map D.ref refs))) (fun refs hi => hi ≤ σ'.length) (fun refs hi => F2 (fun q row => RowAt x ro hi σ' q row) refs ((List.range l).map (Wr nb lone Bs))) (fun refs hi => Wk x σ b R σ') (fun refs hi => Ag ["left", "row", "place", "said"] [("bounds", .ref bo), ("lone", .ref li), ("rows", .ref ro)] L)) (fun _ => rfl) ?_ ?_ ⟨[], 0, l1, Nat.zero_le _, trivial, w1, hA0⟩
 ·rintro L σ2 ⟨refs, hi, l2, h3, h4, w2, hA⟩
  dl_step
  exact ⟨w2, ro, hi, rfl, l2.1, ⟨refs, l2.2, w.notmu l2.1, h4⟩, h3⟩
 ·rintro l L σ2 hl ⟨refs, hi, l2, h3, h4, w2, hA⟩
  have hrl : refs.length = l := by rw [h4.len, List.length_map, List.length_range]
  have hr13 : refs.length ≤ 100 := hrl ▸ Nat.le_of_lt (Nat.lt_trans hl (by decide))
  have get : ∀ i, i < l → ∃ q, refs[i]? = some q ∧ RowAt x ro hi σ2 q (Wr nb lone Bs i) := fun i hi => h4.at (range_get hi)
  have hne : ∀ i, Wr nb lone Bs i ≠ [] := fun i h => by
   have := congrArg List.length h
   rw [Wr_map, List.length_map, List.length_range] at this
   simp at this; lia
  refine x_turn1 fun Q' hQ => ?_
  have hA : Ag ["left", "row", "place", "said"] [("bounds", .ref bo), ("lone", .ref li), ("rows", .ref ro)] (setL "left" (.int l) L) := hA.set rfl
  have hleft : (setL "left" (.int l) L).lookup "left" = some (D.int l) := lk_set
  generalize setL "left" (.int l) L = L1 at hA hleft ⊢
  refine x_ite (W.mono (Q := fun (d : D) σ' => σ' = σ2 ∧ ∃ v : Bool, d = .bool v ∧ (v = true → 2 < l ∧ Wr nb lone Bs (l - 1) = Wr nb lone Bs (l - 2) ∧ Wr nb lone Bs (l - 2) = Wr nb lone Bs (l - 3))) ?_ ?_)
  ·dl_step
   refine Br.dec (fun e => ?_) (fun e => ?_)
   ·have e : 2 < l := Int.ofNat_lt.mp e
    have l0 : 0 < l := Nat.le_trans (by decide : 1 ≤ 3) e
    have i1 : (l : Int) - 1 = ((l - 1 : Nat) : Int) := isub (k := 1) l0
    have i2 : (l : Int) - 2 = ((l - 2 : Nat) : Int) := isub (k := 2) (Nat.le_of_lt e)
    have i3 : (l : Int) - 3 = ((l - 3 : Nat) : Int) := isub (k := 3) e
    obtain ⟨q1, f1, r1⟩ := get (l - 1) (Nat.sub_lt l0 (by decide))
    obtain ⟨q2, f2, r2⟩ := get (l - 2) (Nat.sub_lt l0 (by decide))
    obtain ⟨q3, f3, r3⟩ := get (l - 3) (Nat.sub_lt l0 (by decide))
    dl_step
    rw [i1]
    refine i_ref l2.2 hr13 f1 ?_
    dl_step
    rw [i2]
    refine i_ref l2.2 hr13 f2 ?_
    refine q_eqRow r1 r2 (hne _) fun v1 hv1 => ?_
    refine Br.bool (fun ev => ?_) (fun ev => ?_)
    ·dl_step
     rw [i2]
     refine i_ref l2.2 hr13 f2 ?_
     dl_step
     rw [i3]
     refine i_ref l2.2 hr13 f3 ?_
     refine q_eqRow r2 r3 (hne _) fun v2 hv2 => ?_
     exact ⟨rfl, v2, rfl, fun h => ⟨e, hv1 ev, hv2 h⟩⟩
    ·exact ⟨rfl, v1, rfl, fun h => by rw [ev] at h; cases h⟩
   ·exact ⟨rfl, _, rfl, fun h => absurd (of_decide_eq_true h) e⟩
  rintro _ σ3 ⟨rfl, v, rfl, hv⟩
  refine Br.bool (fun ev => ?_) (fun ev => ?_)
  ·obtain ⟨e, e1, e2⟩ := hv ev
   have l0 : 0 < l := Nat.le_trans (by decide : 1 ≤ 3) e
   have i1 : (l : Int) - 1 = ((l - 1 : Nat) : Int) := isub (k := 1) l0
   obtain ⟨q1, f1, r1⟩ := get (l - 1) (Nat.sub_lt l0 (by decide))
   dl_step
   refine ⟨ro, _, rfl, l2.ge w, l2.2, ?_⟩
   dl_step
   rw [i1]
   refine i_ref l2.2 hr13 f1 ?_
   refine ⟨_, l2.2, big_of (by rw [List.length_map]; exact Nat.le_trans hr13 (by decide)), ?_⟩
   intro σ4 p4
   refine ⟨rfl, ?_⟩
   dl_step
   have hfix : Wr nb lone Bs (l - 1) = Wr nb lone Bs l := by
    obtain ⟨m, rfl⟩ : ∃ m, l = m + 3 := ⟨l - 3, (Nat.sub_add_cancel e).symm⟩
    show Wr nb lone Bs (m + 2) = Wr nb lone Bs (m + 2 + 1)
    rw [Wr_succ (m + 2), Wr_succ (m + 1)]
    show stepW nb lone Bs (Wr nb lone Bs (m + 1)) (Wr nb lone Bs m) = stepW nb lone Bs (Wr nb lone Bs (m + 2)) (Wr nb lone Bs (m + 1))
    have e1 : Wr nb lone Bs (m + 2) = Wr nb lone Bs (m + 1) := e1
    have e2 : Wr nb lone Bs (m + 1) = Wr nb lone Bs m := e2
    rw [e1, e2]
   refine ⟨refs ++ [q1], hi, by rw [List.map_append]; exact l2.upd p4, by cases p4; rw [List.length_set]; exact h3, ?_, w2.upd w l2 p4, hA⟩
   rw [List.range_succ, List.map_append]
   exact (h4.mono fun _ _ _ k => k.updO p4 (.inl (Nat.le_refl _))).snoc (hfix ▸ r1.updO p4 (.inl (Nat.le_refl _)))
  ·clear hv ev v
   dl_step
   intro rw_ σ4 p4
   have l4 := w2.lo p4
   have l24 := l2.new p4
   have w4 := w2.new p4
   have hlt : ro < rw_ := Nat.lt_of_lt_of_eq (at_lt l2.2) p4.1.symm
   have hR4 : F2 (fun q row => RowAt x ro rw_ σ4 q row) refs ((List.range l).map (Wr nb lone Bs)) := h4.mono fun _ _ _ k => (k.keep (Wk.new (Wk.start w2.w) p4)).wide (Nat.le_trans h3 (Nat.le_of_eq p4.1.symm))
   have hA : Ag ["place", "said"] (setL "row" (.ref rw_) L1) (setL "row" (.ref rw_) L1) := .refl
   have kb : (setL "row" (.ref rw_) L1).lookup "bounds" = some (D.ref bo) := by accj_flat
   have kl : (setL "row" (.ref rw_) L1).lookup "lone" = some (D.ref li) := by accj_flat
   have kr : (setL "row" (.ref rw_) L1).lookup "rows" = some (D.ref ro) := by accj_flat
   have ke : (setL "row" (.ref rw_) L1).lookup "left" = some (D.int l) := by accj_flat
   have kw : (setL "row" (.ref rw_) L1).lookup "row" = some (D.ref rw_) := by accj_flat
   have hA2 : Ag ["left", "row", "place", "said"] [("bounds", .ref bo), ("lone", .ref li), ("rows", .ref ro)] (setL "row" (.ref rw_) L1) := Ag.set (by assumption) rfl
   generalize hL2 : setL "row" (.ref rw_) L1 = L2 at hA kb kl kr ke kw hA2 ⊢
   clear hL2
   refine x_loop (e_bi (e_var kb (len_lst (w4.at mb hb) hbb ?_)))
   rw [List.length_map, hBl]
   refine t_range (Nat.le_trans hnb (by decide)) ?_
   refine forGo_range (fun j L σ' => E1C6 (fun qs => Lo σ σ' rw_ (.list (List.map D.ref qs))) (fun qs => Lo σ σ' ro (.list (List.map D.ref refs))) (fun qs => F2 (fun q row => RowAt x ro rw_ σ' q row) refs ((List.range l).map (Wr nb lone Bs))) (fun qs => F2 (fun q ws => LW x σ' q ws ∧ rw_ < q) qs ((List.range j).map (wcell nb lone Bs l))) (fun qs => Wk x σ b R σ') (fun qs => Ag ["place", "said"] L2 L)) (fun _ => rfl) ?_ ?_ ⟨[], l4, l24, hR4, trivial, w4, hA⟩
   ·rintro L σ5 ⟨qs, l5, lr5, hR5, hq5, w5, hA5⟩
    have kr := (hA5 "rows" rfl).trans kr
    have kw := (hA5 "row" rfl).trans kw
    dl_step
    refine ⟨ro, _, rfl, lr5.ge w, lr5.2, ?_⟩
    dl_step
    refine ⟨_, lr5.2, big_of (by rw [List.length_map]; exact Nat.le_trans hr13 (by decide)), ?_⟩
    intro σ6 p6
    refine ⟨rfl, ?_⟩
    dl_step
    refine ⟨refs ++ [rw_], σ6.length, by rw [List.map_append]; exact lr5.upd p6, Nat.le_refl _, ?_, w5.upd w lr5 p6, fun y hy => (hA5 y ?_).trans (hA2 y hy)⟩
    ·rw [List.range_succ, List.map_append]
     have hlen6 : σ6.length = σ5.length := by cases p6; rw [List.length_set]
     have hrw : rw_ < σ5.length := at_lt l5.2
     refine (hR5.mono fun _ _ _ k => (k.updO p6 (.inl (Nat.le_refl _))).wide (Nat.le_of_lt (Nat.lt_of_lt_of_eq hrw hlen6.symm))).snoc ?_
     refine ⟨Nat.le_trans (Nat.le_of_lt w.two) lr5.1, hlt, Nat.lt_of_lt_of_eq hrw hlen6.symm, qs, (l5.updO p6 (Nat.ne_of_lt hlt)).2, w.notmu l5.1, ?_⟩
     rw [Wr_map]
     exact hq5.mono fun q hq _ k => ⟨k.1.updO p6 (Nat.ne_of_lt (Nat.lt_trans hlt k.2)), Nat.lt_trans hlt k.2, Nat.lt_of_lt_of_eq (at_lt k.1.1) hlen6.symm⟩
    ·cases e : List.contains ["place", "said"] y with
     | false => rfl
     | true =>
      simp only [List.contains_cons, Bool.or_eq_false_iff] at hy e
      rw [hy.2.2.1, hy.2.2.2.1] at e; exact nof _ e
   ·rintro j L σ5 hj ⟨qs, l5, lr5, hR5, hq5, w5, hA5⟩
    have hql : qs.length = j := by rw [hq5.len, List.length_map, List.length_range]
    have hrw : rw_ < σ5.length := at_lt l5.2
    refine x_turn1 fun Q' hQ => ?_
    have hA5 : Ag ["place", "said"] L2 (setL "place" (.int j) L) := hA5.set rfl
    have kp : (setL "place" (.int j) L).lookup "place" = some (D.int j) := lk_set
    generalize setL "place" (.int j) L = L3 at hA5 kp ⊢
    have hlj : (((List.range nb).map lone).map D.bool)[j]? = some (.bool (lone j)) := by
     rw [List.getElem?_map, range_get hj]; rfl
    have hll : (((List.range nb).map lone).map D.bool).length ≤ big := big_of (by rw [List.length_map, List.length_map, List.length_range]; exact Nat.le_trans hnb (by decide))
    refine x_cut (fun L' σ' => E1C6 (fun so => L'.lookup "said" = some (.ref so)) (fun so => L'.lookup "place" = some (.int j)) (fun so => Ag ["place", "said"] L2 L') (fun so => Wk x σ5 b R σ') (fun so => LW x σ' so (if lone j then [21] else [])) (fun so => rw_ < so)) ?_ ?_
    ·intro Q' hQ
     have kl := (hA5 "lone" rfl).trans kl
     dl_step
     refine i_lst (w5.at ml hli) ⟨Int.natCast_nonneg j, hll⟩ (by rw [Int.toNat_natCast]; exact hlj) ?_
     cases hlj : lone j with
     | true =>
      refine Br.T ?_
      dl_step
      intro so σ6 p6
      dl_step
      have w05 := Wk.start w5.w
      exact ⟨so, lk_set, lk_setne rfl kp, hA5.set rfl, w05.new p6, by rw [hlj]; exact LW.of (ws := [21]) w5.w (w05.lo p6), Nat.lt_of_lt_of_le hrw (w05.lo p6).1⟩
     | false =>
      refine Br.F ?_
      dl_step
      intro so σ6 p6
      dl_step
      have w05 := Wk.start w5.w
      exact ⟨so, lk_set, lk_setne rfl kp, hA5.set rfl, w05.new p6, by rw [hlj]; exact LW.of (ws := []) w5.w (w05.lo p6), Nat.lt_of_lt_of_le hrw (w05.lo p6).1⟩
    rintro L4 σ6 ⟨so, ks, kp, hA6, w56, lw6, hso⟩
    have w6 := w5.next w56
    have l6 := l5.call w w56
    have lr6 := lr5.call w w56
    have hR6 : F2 (fun q row => RowAt x ro rw_ σ6 q row) refs ((List.range l).map (Wr nb lone Bs)) := hR5.mono fun _ _ _ k => k.keep w56
    have hq6 : F2 (fun q ws => LW x σ6 q ws ∧ rw_ < q) qs ((List.range j).map (wcell nb lone Bs l)) := hq5.mono fun _ _ _ k => ⟨k.1.keep w56, k.2⟩
    have hrw6 : rw_ < σ6.length := at_lt l6.2
    refine x_cut (fun L' σ' => E1C5 (fun so => L'.lookup "said" = some (.ref so)) (fun so => Ag ["place", "said"] L2 L') (fun so => Wk x σ6 b R σ') (fun so => LW x σ' so (wcell nb lone Bs l j)) (fun so => rw_ < so)) ?_ ?_
    ·intro Q' hQ
     have kl := (hA6 "lone" rfl).trans kl
     have kb := (hA6 "bounds" rfl).trans kb
     have kr := (hA6 "rows" rfl).trans kr
     have ke := (hA6 "left" rfl).trans ke
     have skip : wcell nb lone Bs l j = (if lone j then [21] else []) → E1C5 (fun so => L4.lookup "said" = some (.ref so)) (fun so => Ag ["place", "said"] L2 L4) (fun so => Wk x σ6 b R σ6) (fun so => LW x σ6 so (wcell nb lone Bs l j)) (fun so => rw_ < so) := fun h => ⟨so, ks, hA6, .start w6.w, h ▸ lw6, hso⟩
     dl_step
     refine Br.dec (fun e => ?_) (fun e => ?_)
     ·have e : 0 < l := Int.ofNat_lt.mp e
      dl_step
      refine i_lst (w6.at ml hli) ⟨Int.natCast_nonneg j, hll⟩ (by rw [Int.toNat_natCast]; exact hlj) ?_
      dl_step
      refine Br.bool (fun hf => ?_) (fun hf => ?_)
      ·have hf : lone j = false := by cases h : lone j with | false => rfl | true => rw [h] at hf; exact nof _ hf
       have hj' : j < Bs.length := Nat.lt_of_lt_of_eq hj hBl.symm
       have eB := List.getElem?_eq_getElem hj'
       have hne : ∃ t, Bs[j]? = some (some t) := by
        have h := hlo j hj
        rw [hf, loneF, eB, Option.getD_some] at h
        rw [eB]
        cases hB : Bs[j] with
        | none => rw [hB] at h; exact nof _ h
        | some t => exact ⟨t, rfl⟩
       obtain ⟨t, eB⟩ := hne
       have hokB := hB _ (List.mem_of_getElem? eB)
       have i1 : (l : Int) - 1 = ((l - 1 : Nat) : Int) := isub (k := 1) e
       have i2 : max ((l : Int) - 2) 0 = ((l - 2 : Nat) : Int) := imax (k := 2)
       obtain ⟨q1, f1, r1⟩ := hR6.at (range_get (f := Wr nb lone Bs) (Nat.sub_lt e (by decide : 0 < 1)))
       obtain ⟨q2, f2, r2⟩ := hR6.at (range_get (f := Wr nb lone Bs) (Nat.sub_lt e (by decide : 0 < 2)))
       have s1 := ((Wr_short (lone := lone) hB (l - 1)).1).more (Nat.lt_of_le_of_lt (Nat.sub_le l 1) hl)
       have s2 := ((Wr_short (lone := lone) hB (l - 2)).1).more (Nat.lt_of_le_of_lt (Nat.sub_le l 2) hl)
       dl_step
       refine i_lst (w6.at mb hb) ⟨Int.natCast_nonneg j, hbb⟩ (d := t.enc) (by rw [Int.toNat_natCast, List.getElem?_map, eB]; rfl) ?_
       dl_step
       rw [i1]
       refine i_ref lr6.2 hr13 f1 ?_
       dl_step
       refine ⟨_, _, rfl, rfl, ?_⟩
       rw [i2]
       refine i_ref lr6.2 hr13 f2 ?_
       dl_step
       refine (words_spec F r1 r2 s1 s2 (by decide) (by decide) hnb (by lia) (okT_of_okB hokB) w6.w).m3 fun σ7 o7 w7 hA' => ?_
       obtain ⟨lw7, -⟩ := hA'
       have hcell : wcell nb lone Bs l j = (wT (Wr nb lone Bs (l - 1)) (Wr nb lone Bs (l - 2)) t).filter (fun k => decide (k ≠ 21)) := by
        obtain ⟨m, rfl⟩ : ∃ m, l = m + 1 := ⟨l - 1, (Nat.sub_add_cancel e).symm⟩
        rw [wcell, hf, if_neg (by decide)]
        rw [eB]; rfl
       have hwl := wB_len s1 s2 (by decide) hokB
       generalize wT (Wr nb lone Bs (l - 1)) (Wr nb lone Bs (l - 2)) t = ws at lw7 hwl hcell ⊢
       dl_step
       refine t_seqL lw7.1 (big_of (by rw [List.length_map]; exact Nat.le_trans hwl (by decide))) ?_
       refine comp_fil (g := wD) (p := fun k => decide (k ≠ 21)) (· = σ7) (fun _ h => h ▸ still_list lw7.1) (fun k _ _ h => ?_) (fun _ h => ?_) rfl
       ·subst h
        refine c_turn rfl fun Q' hQ => ?_
        dl_step
        refine q_neF rfl (strFlat (nm_ok k)) (strFlat (nm_ok 21)) ?_
        dl_step
        have hk21 : (!decide (D.str (nm k) = S "*")) = decide (k ≠ 21) := by rw [← decide_not, decide_eq_decide]; exact ⟨fun h e => h (by rw [e]; rfl), fun h e => h (wD_inj (b := 21) e)⟩
        refine ⟨fun h => ?_, fun h => ?_⟩
        ·dl_step
         exact ⟨rfl, by rw [hk21.symm.trans h]; rfl⟩
        ·dl_step
         exact ⟨rfl, by rw [hk21.symm.trans h]; rfl⟩
       ·subst h
        intro o8 σ8 p8
        dl_step
        exact ⟨o8, lk_set, (hA6.set rfl).set rfl, w7.new p8, by rw [hcell]; exact LW.of w6.w (w7.lo p8), by have := (w7.lo p8).1; lia⟩
      ·have hf : lone j = true := by cases h : lone j with | true => rfl | false => rw [h] at hf; cases hf
       dl_step
       exact skip (by unfold wcell; rw [hf]; rfl)
     ·have e : l = 0 := Nat.eq_zero_of_not_pos fun h => e (Int.ofNat_lt.mpr h)
      refine Br.Fd (by lia) ?_
      dl_step
      exact skip (by subst e; rfl)
    ·rintro L5 σ7 ⟨so7, ks, hA7, w67, lw7, hso7⟩
     have w7 := w6.next w67
     have l7 := l6.call w w67
     have lr7 := lr6.call w w67
     have kw := (hA7 "row" rfl).trans kw
     dl_step
     refine ⟨rw_, _, rfl, l7.ge w, l7.2, ?_⟩
     dl_step
     refine ⟨_, l7.2, big_of (by rw [List.length_map]; exact Nat.le_trans (Nat.le_of_lt (hql ▸ hj)) (Nat.le_trans hnb (by decide))), ?_⟩
     intro σ8 p8
     refine ⟨rfl, ?_⟩
     dl_step
     refine ⟨qs ++ [so7], by rw [List.map_append]; exact l7.upd p8, lr7.updO p8 (Nat.ne_of_gt hlt), hR6.mono fun _ _ _ k => (k.keep w67).updO p8 (.inr (Nat.le_refl _)), ?_, w7.upd w l7 p8, hA7⟩
     rw [List.range_succ, List.map_append]
     refine F2.snoc (hq6.mono fun q hq _ k => ⟨(k.1.keep w67).updO p8 (Nat.ne_of_lt k.2), k.2⟩) ⟨lw7.updO p8 (Nat.ne_of_lt hso7), hso7⟩
end

section
variable {nb : Nat} {lone : Nat → Bool} {Bs : List (Option Tm)} {row fewer : List (List Wd')} {f g : Nat → Bool}
noncomputable def Rk (nb : Nat) (lone : Nat → Bool) (row : List (List Wd')) (f : Nat → Bool) : Prop := ∀ i, i < nb → (0 ∈ row.getD i [] ↔ f i = true) ∧ (21 ∈ row.getD i [] ↔ lone i = true) ∧ ¬ (0 ∈ row.getD i [] ∧ 21 ∈ row.getD i [])
theorem Rk.leaf (h : Rk nb lone row f) {l : Lf} (hl : okL nb l) : (0 ∈ wL row l ↔ vL nb f (leafTy nb l) = true) ∧ (21 ∈ wL row l ↔ frU nb lone (leafTy nb l) = true) ∧ ¬ (0 ∈ wL row l ∧ 21 ∈ wL row l) := by
 cases l with
 | p i =>
  rw [vL_p hl, frU_leaf hl]
  obtain ⟨h1, h2, h3⟩ := h i hl
  refine ⟨h1, h2.trans ⟨fun e => .inl ⟨i, rfl, e⟩, fun e => ?_⟩, h3⟩
  rcases e with ⟨j, e, e'⟩ | e | e
  ·cases e; exact e'
  ·cases e
  ·cases e
 | a k =>
  rw [vL_a hl, frU_leaf hl, decide_eq_true_eq]
  have hk : k.val < 21 := hl
  have e : (∃ i, Lf.a k = .p i ∧ lone i = true) ∨ Lf.a k = .a 4 ∨ Lf.a k = .a 8 ↔ k = 4 ∨ k = 8 := by
   constructor
   ·rintro (⟨i, h, _⟩ | h | h)
    ·cases h
    ·exact .inl (Lf.a.inj h)
    ·exact .inr (Lf.a.inj h)
   ·rintro (h | h)
    ·exact .inr (.inl (by rw [h]))
    ·exact .inr (.inr (by rw [h]))
  rw [e]
  have e0 : Lf.a k = .a 0 ↔ k = 0 := ⟨fun h => Lf.a.inj h, fun h => by rw [h]⟩
  rw [e0]
  have key : ∀ k : Wd', k.val < 21 → (0 ∈ (if k = 4 ∨ k = 8 then [21] else if k = 17 ∨ k = 18 ∨ k = 19 then [] else [k] : List Wd') ↔ k = 0) ∧ (21 ∈ (if k = 4 ∨ k = 8 then [21] else if k = 17 ∨ k = 18 ∨ k = 19 then [] else [k] : List Wd') ↔ k = 4 ∨ k = 8) ∧ ¬ (0 ∈ (if k = 4 ∨ k = 8 then [21] else if k = 17 ∨ k = 18 ∨ k = 19 then [] else [k] : List Wd') ∧ 21 ∈ (if k = 4 ∨ k = 8 then [21] else if k = 17 ∨ k = 18 ∨ k = 19 then [] else [k] : List Wd')) := by decide
  exact key k hk
theorem cut_fold (h : Rk nb lone row f) : ∀ {ls done : List Lf} {out : List Wd'}, (∀ l ∈ ls, okL nb l) →
  ((out = [21] ∧ ∀ l ∈ done, 21 ∈ wL row l) ∨ (21 ∉ out ∧ (∃ l ∈ done, 21 ∉ wL row l) ∧ (0 ∈ out ↔ ∀ l ∈ done, 21 ∈ wL row l ∨ 0 ∈ wL row l))) →
  ((ls.foldl (cutS row) out = [21] ∧ ∀ l ∈ done ++ ls, 21 ∈ wL row l) ∨ (21 ∉ ls.foldl (cutS row) out ∧ (∃ l ∈ done ++ ls, 21 ∉ wL row l) ∧ (0 ∈ ls.foldl (cutS row) out ↔ ∀ l ∈ done ++ ls, 21 ∈ wL row l ∨ 0 ∈ wL row l)))
 | [], done, out, _, k => by rw [List.append_nil]; exact k
 | l :: ls, done, out, ho, k => by
  rw [List.foldl_cons, show done ++ l :: ls = (done ++ [l]) ++ ls by simp]
  refine cut_fold h (fun l hl => ho l (.tail _ hl)) ?_
  have mem : ∀ {P : Lf → Prop}, (∀ a ∈ done ++ [l], P a) ↔ (∀ a ∈ done, P a) ∧ P l := fun {P} => by
   constructor
   ·exact fun h => ⟨fun a ha => h a (List.mem_append_left _ ha), h l (by simp)⟩
   ·rintro ⟨h1, h2⟩ a ha
    rcases List.mem_append.mp ha with ha | ha
    ·exact h1 a ha
    ·rw [List.mem_singleton] at ha; exact ha ▸ h2
  have ex : (∃ a ∈ done, 21 ∉ wL row a) → ∃ a ∈ done ++ [l], 21 ∉ wL row a := fun ⟨a, ha, q⟩ => ⟨a, List.mem_append_left _ ha, q⟩
  unfold cutS
  by_cases h21 : 21 ∈ wL row l
  ·rw [if_pos h21]
   rcases k with ⟨k1, k2⟩ | ⟨k1, k2, k3⟩
   ·exact .inl ⟨k1, mem.mpr ⟨k2, h21⟩⟩
   ·exact .inr ⟨k1, ex k2, by rw [k3, mem]; exact ⟨fun q => ⟨q, .inl h21⟩, fun q => q.1⟩⟩
  ·rw [if_neg h21]
   rcases k with ⟨k1, k2⟩ | ⟨k1, k2, k3⟩
   ·rw [if_pos k1]
    exact .inr ⟨h21, ⟨l, by simp, h21⟩, by rw [mem]; exact ⟨fun q => ⟨fun a ha => .inl (k2 a ha), .inr q⟩, fun q => q.2.resolve_left h21⟩⟩
   ·rw [if_neg (by rintro rfl; exact k1 (by simp))]
    refine .inr ⟨fun q => k1 (List.mem_filter.mp q).1, ex k2, ?_⟩
    rw [List.mem_filter, decide_eq_true_eq, k3, mem]
    exact ⟨fun q => ⟨q.1, .inr q.2⟩, fun q => ⟨q.1, q.2.resolve_left h21⟩⟩
theorem Rk.cut (h : Rk nb lone row f) {ls : List Lf} (hl : okM nb ls) : 0 ∈ wCut row ls ↔ mV nb lone f (ls.map (leafTy nb)) = true := by
 have h3in : (ls.map (leafTy nb)).contains 3 = true ↔ Lf.a 0 ∈ ls := by
  rw [List.contains_iff_mem, List.mem_map]
  refine ⟨fun ⟨l, h', e⟩ => ?_, fun h => ⟨_, h, rfl⟩⟩
  have := (ty3 l (hl.1 l h')).mp e
  subst this; exact h'
 unfold wCut mV
 by_cases h0 : Lf.a 0 ∈ ls
 ·rw [if_pos h0, h3in.mpr h0]; simp
 rw [if_neg h0, Bool.or_eq_true, h3in]
 have hA : mA nb lone f (ls.map (leafTy nb)) = true ↔ (∀ l ∈ ls, 21 ∈ wL row l ∨ 0 ∈ wL row l) ∧ ∃ l ∈ ls, 0 ∈ wL row l := by
  unfold mA
  rw [Bool.and_eq_true, List.all_map, List.any_map, List.all_eq_true, List.any_eq_true]
  refine and_congr ⟨fun q l h' => ?_, fun q l h' => ?_⟩ ⟨fun ⟨l, h', q⟩ => ⟨l, h', ?_⟩, fun ⟨l, h', q⟩ => ⟨l, h', ?_⟩⟩
  ·have q := q l h'
   simp only [Function.comp, Bool.or_eq_true] at q
   obtain ⟨a, b, _⟩ := h.leaf (hl.1 l h')
   exact q.elim (fun e => .inr (a.mpr e)) (fun e => .inl (b.mpr e))
  ·obtain ⟨a, b, _⟩ := h.leaf (hl.1 l h')
   simp only [Function.comp, Bool.or_eq_true]
   exact (q l h').elim (fun e => .inr (b.mp e)) (fun e => .inl (a.mp e))
  ·exact (h.leaf (hl.1 l h')).1.mpr q
  ·exact (h.leaf (hl.1 l h')).1.mp q
 rw [hA]
 have := cut_fold h (ls := ls) (done := []) (out := [21]) hl.1 (.inl ⟨rfl, nofun⟩)
 rw [List.nil_append] at this
 rcases this with ⟨e, k⟩ | ⟨_, ⟨l, hll, h21⟩, k⟩
 ·rw [e]
  refine ⟨fun q => by simp at q, fun q => ?_⟩
  rcases q with q | ⟨_, l, h', q⟩
  ·exact absurd q h0
  ·exact absurd ⟨q, k l h'⟩ (h.leaf (hl.1 l h')).2.2
 ·rw [k]
  refine ⟨fun q => .inr ⟨q, l, hll, (q l hll).resolve_left h21⟩, fun q => ?_⟩
  rcases q with q | q
  ·exact absurd q h0
  ·exact q.1
theorem Rk.tp (h : Rk nb lone row f) (h' : Rk nb lone fewer g) {p : Tp} (hp : okP nb p) : 0 ∈ wP row fewer p ↔ hvP nb lone f g p = true := by
 cases p with
 | lf l => exact (h.leaf hp).1
 | m ls => exact h'.cut hp
theorem Rk.tm (h : Rk nb lone row f) (h' : Rk nb lone fewer g) {t : Tm} (ht : okT nb t) : 0 ∈ wT row fewer t ↔ hvT nb lone f g t = true := by
 cases t with
 | tp p => exact h.tp h' ht
 | u ts =>
  rw [wT, hvT]
  cases ts.any topP with
  | true => simp
  | false =>
   rw [if_neg (by decide), List.mem_flatMap, Bool.not_false, Bool.true_and, List.any_eq_true]
   exact ⟨fun ⟨p, hp, q⟩ => ⟨p, hp, (h.tp h' (ht.1 p hp)).mp q⟩, fun ⟨p, hp, q⟩ => ⟨p, hp, (h.tp h' (ht.1 p hp)).mpr q⟩⟩
theorem getD_map {α : Type} {f : Nat → α} {m i : Nat} {d : α} (h : i < m) : ((List.range m).map f).getD i d = f i := by
 rw [List.getD_eq_getElem?_getD, range_get h]; rfl
theorem Rk.step (h : Rk nb lone row f) (h' : Rk nb lone fewer g) (hB : ∀ t ∈ Bs, okB nb t) : Rk nb lone (stepW nb lone Bs row fewer) (stepH nb lone Bs f g) := by
 intro i hi
 rw [stepW, getD_map hi, stepH]
 cases hl : lone i with
 | true => simp
 | false =>
  simp only [Bool.false_eq_true, if_false, Bool.not_false, Bool.true_and]
  cases e : Bs[i]? with
  | none => simp
  | some o =>
   cases o with
   | none => simp
   | some t =>
    have := h.tm h' (okT_of_okB (hB _ (List.mem_of_getElem? e)))
    simp only [List.mem_filter, decide_eq_true_eq, ← this]
    refine ⟨⟨fun q => q.1, fun q => ⟨q, by decide⟩⟩, ⟨fun q => absurd rfl q.2, nofun⟩, fun q => q.2.2 rfl⟩
theorem Rk.all (hB : ∀ t ∈ Bs, okB nb t) : ∀ l, Rk nb lone (Wr nb lone Bs l) (Hh nb lone Bs l) ∧ Rk nb lone (Wr nb lone Bs (l + 1)) (Hh nb lone Bs (l + 1))
 | 0 => by
  have h0 : Rk nb lone (Wr nb lone Bs 0) (Hh nb lone Bs 0) := by
   intro i hi
   rw [Wr_0, getD_map hi, Hh_0]
   cases lone i <;> simp
  exact ⟨h0, by rw [Wr_succ, Hh_succ]; exact h0.step h0 hB⟩
 | l + 1 => by
  obtain ⟨h1, h2⟩ := Rk.all hB l
  exact ⟨h2, by rw [Wr_succ, Hh_succ]; exact h2.step h1 hB⟩
theorem words_hold (hB : ∀ t ∈ Bs, okB nb t) {t : Tm} (ht : okT nb t) (d : Nat) : decide (0 ∈ wT (Wr nb lone Bs (12 - d)) (Wr nb lone Bs (12 - d - 1)) t) = hvT nb lone (Hd nb lone Bs d) (Hd nb lone Bs (d + 1)) t := by
 rw [Bool.eq_iff_iff, decide_eq_true_eq]
 unfold Hd
 rw [show 12 - (d + 1) = 12 - d - 1 by lia]
 exact (Rk.all hB (12 - d)).1.tm (Rk.all hB (12 - d - 1)).1 ht
end

structure Sw (x : X) (nb wi ai pi ri lo hi : Nat) (Bs : List (Option Tm)) (lone : Nat → Bool) (bs : List Int) (σ : St) : Prop where
 p : Wp x nb wi ai pi ri σ
 hs : Hs x nb bs σ
 rows : RowsAt x lo hi σ ri ((List.range 13).map (Wr nb lone Bs))
 hi : hi ≤ σ.length
 hB : ∀ t ∈ Bs, okB nb t
structure Sr (nb : Nat) (Bs : List (Option Tm)) (lone : Nat → Bool) (bs : List Int) (R : List D) : Prop where
 base : Base nb R
 bnds : Bnds nb Bs lone bs R
section
variable {fns : String → Option Fn} {n b : Nat} {σ σ' : St} {x : X} {R R' : List D} {nb wi ai pi ri lo hi : Nat} {lone : Nat → Bool} {Bs : List (Option Tm)} {bs : List Int}
theorem Sw.keep (h : Sw x nb wi ai pi ri lo hi Bs lone bs σ) (w : Wk x σ b R σ') : Sw x nb wi ai pi ri lo hi Bs lone bs σ' := ⟨h.p.keep w, h.hs.keep w, h.rows.keep w, Nat.le_trans h.hi w.len, h.hB⟩
theorem Sr.pre (h : R <+: R') (k : Sr nb Bs lone bs R) : Sr nb Bs lone bs R' := ⟨k.base.pre h, k.bnds.pre k.base h⟩
theorem andnot {c : Callee} {L : Loc} {σ : St} {p q : String} {u v : Bool} {Q : D → St → Prop} (hp : L.lookup p = some (.bool u)) (hq : L.lookup q = some (.bool v)) (h : Q (.bool (u && !v)) σ) : W (ev c L (.and [.var p, .not (.var q)]) σ) Q := by
 refine e_and (e_andS (e_var hp (Br.bool (fun e => ?_) (fun e => ?_))))
 ·refine e_and1 (e_not (e_var hq (q_truthB ?_)))
  rw [e] at h; exact h
 ·rw [e] at h ⊢; exact h
theorem right_spec (F : Fns fns) (s : Sw x nb wi ai pi ri lo hi Bs lone bs σ) (r : Sr nb Bs lone bs R) {tm : Tm} (ht : okT nb tm) {d : Nat} (w : Wl x (b + 22) R σ) : W (callF fns (n + 33) "_law_right" [.ref wi, .ref x.host, tm.enc, .int d] σ) fun v σ' => (∃ R', Wk x σ b R' σ' ∧ R <+: R') ∧ v = .bool true := by
 refine f_call4 F.law_right fun Q' hQ => ?_
 dl_step
 refine (type_spec (n := n + 29) (b := b + 11) F r.base s.p ht w).m4 fun σ1 R1 t w1 h1 t1 => ?_
 have s1 := s.keep w1
 have r1 := r.pre h1
 dl_step
 refine (holds_spec (n := n + 27) F s1.p s1.rows s1.hB s1.hi ht w1.w).m2 fun σ2 w2 => ?_
 have s2 := s1.keep w2
 have w2 := w1.next w2
 rw [words_hold s.hB ht]
 dl_step
 refine (hv_spec F r1.base r1.bnds d (n + 1) (b + 11) _ false tm t w2.w s2.hs ht t1).m2 fun σ3 w3 => ?_
 have s3 := s2.keep w3
 have w3 := w2.next w3
 dl_step
 refine Br.Ff (by rw [BEq.rfl]; rfl) ?_
 dl_step
 refine (type_spec (n := n + 29) (b := b) F r1.base s3.p ht w3.w).m4 fun σ4 R4 t4 w4 h4 tt4 => ?_
 have s4 := s3.keep w4
 have r4 := r1.pre h4
 have w4 := w3.next w4
 dl_step
 refine (hv_spec F r4.base r4.bnds d (n + 1) b _ true tm t4 w4.w s4.hs ht tt4).m2 fun σ5 w5 => ?_
 have s5 := s4.keep w5
 have w5 := w4.next w5
 dl_step
 refine Br.Ff (by rw [BEq.rfl]; rfl) ?_
 dl_step
 refine (holds_spec (d := 0) (n := n + 27) F s5.p s5.rows s5.hB s5.hi ht w5.w).m2 fun σ6 w6 => ?_
 have s6 := s5.keep w6
 have w6 := w5.next w6
 have t6 := t1.pre r1.base h4 ht
 rw [words_hold s.hB ht]
 dl_step
 refine t_seqT (Nat.le_of_ble_eq_true rfl) ?_
 have hA0 : ∀ {L : Loc}, Ag ["question"] L L := .refl
 refine forGo_inv (fun ds L σ' => E0C3 (σ' = σ6) ((∀ d ∈ ds, ∃ a rest, d = .tup (.int a :: rest) ∧ rest.length ≤ 10 ∧ a ≠ 3)) (Ag ["question"] _ L)) ?_ ?_ ⟨rfl, ?_, hA0⟩
 ·rintro L _ ⟨rfl, -, hA⟩
  refine ⟨rfl, ?_⟩
  dl_step
  refine (equals_spec (n := n) F r4.base r4.bnds s6.hs w6.w ht t6).m2 fun σ7 w7 => ?_
  have s7 := s6.keep w7
  have w7 := w6.next w7
  dl_step
  refine Br.Tt BEq.rfl ?_
  dl_step
  refine (equals_spec (n := n) F r4.base r4.bnds s7.hs w7.w ht t6).m2 fun σ8 w8 => ?_
  have w8 := w7.next w8
  dl_step
  exact ⟨⟨R4, w8, h1.trans h4⟩, by rw [BEq.rfl]⟩
 ·rintro d' ds L _ ⟨rfl, hd, hA⟩
  refine ⟨rfl, ?_⟩
  obtain ⟨a, rest, rfl, hl, ha⟩ := hd d' (.head _)
  refine x_turn1 fun Q' hQ => ?_
  have hA := hA.set (x := "question") (d := .tup (.int a :: rest)) rfl
  have hq : (setL "question" (.tup (.int a :: rest)) L).lookup "question" = some (.tup (.int a :: rest)) := lk_set
  generalize setL "question" (.tup (.int a :: rest)) L = L1 at hA hq ⊢
  dl_step
  refine (equals_other (n := n + 31) F hl ha).m1 ?_
  refine Br.F ?_
  dl_step
  exact ⟨rfl, fun d hd' => hd d (.tail _ hd'), hA⟩
 ·intro d hd
  simp only [List.mem_cons, List.not_mem_nil, or_false] at hd
  rcases hd with rfl | rfl | rfl | rfl | rfl | rfl <;> exact ⟨_, _, rfl, Nat.le_of_ble_eq_true rfl, by decide⟩

theorem loses_law (F : Fns fns) (s : Sw x nb wi ai pi ri lo hi Bs lone bs σ) (r : Sr nb Bs lone bs R) {tm tm' : Tm} (ht : okT nb tm) (ht' : okT nb tm') (w : Wl x (b + 22) R σ) : W (callF fns (n + 33) "_law_loses" [.ref wi, .ref x.host, tm.enc, tm'.enc] σ) fun v σ' => (∃ R', Wk x σ b R' σ' ∧ R <+: R') ∧ v = .bool true := by
 refine f_call4 F.law_loses fun Q' hQ => ?_
 dl_step
 refine (holds_spec (d := 0) (n := n + 27) F s.p s.rows s.hB s.hi ht w).m2 fun σ1 w1 => ?_
 have s1 := s.keep w1
 rw [words_hold s.hB ht]
 dl_step
 refine (holds_spec (d := 0) (n := n + 27) F s1.p s1.rows s1.hB s1.hi ht' w1.w).m2 fun σ2 w2 => ?_
 have s2 := s1.keep w2
 have w2 := w1.next w2
 rw [words_hold s.hB ht']
 dl_step
 refine (type_spec (n := n + 29) (b := b + 11) F r.base s2.p ht w2.w).m4 fun σ3 R3 t w3 h3 t3 => ?_
 have s3 := s2.keep w3
 have r3 := r.pre h3
 have w3 := w2.next w3
 dl_step
 refine (type_spec (n := n + 29) (b := b) F r3.base s3.p ht' w3.w).m4 fun σ4 R4 t' w4 h4 t4' => ?_
 have s4 := s3.keep w4
 have r4 := r3.pre h4
 have w4 := w3.next w4
 have t4 := t3.pre r3.base h4 ht
 dl_step
 refine (loses_spec (n := n) F r4.base r4.bnds s4.hs w4.w ht t4 ht' t4').m2 fun σ5 w5 => ?_
 have s5 := s4.keep w5
 have w5 := w4.next w5
 have hv2 : hvT nb lone (Hd nb lone Bs 0) (Hd nb lone Bs 1) (.tp (.lf (.a 20))) = false := by
  show vL nb (Hd nb lone Bs 0) (leafTy nb (.a 20)) = false
  rw [vL_a (by decide)]; rfl
 refine andnot (by accj_flat) (by accj_flat) ?_
 dl_step
 refine Br.Ff (by rw [BEq.rfl]; rfl) ?_
 dl_step
 refine (loses_spec (n := n) F r4.base r4.bnds s5.hs w5.w ht' t4' ht t4).m2 fun σ6 w6 => ?_
 have s6 := s5.keep w6
 have w6 := w5.next w6
 refine andnot (by accj_flat) (by accj_flat) ?_
 dl_step
 refine Br.Ff (by rw [BEq.rfl]; rfl) ?_
 dl_step
 refine (loses_spec (n := n) F r4.base r4.bnds s6.hs w6.w ht t4 ht t4).m2 fun σ7 w7 => ?_
 have s7 := s6.keep w7
 have w7 := w6.next w7
 dl_step
 refine Br.Tt (by rw [Bool.and_not_self]; rfl) ?_
 dl_step
 refine (loses_spec (n := n) (tm' := .tp (.lf (.a 20))) (t' := 2) F r4.base r4.bnds s7.hs w7.w ht t4 (by decide : (20 : Wd').val < 21) rfl).m2 fun σ8 w8 => ?_
 have w8 := w7.next w8
 rw [hv2]
 dl_step
 exact ⟨⟨R4, w8, h3.trans h4⟩, by rw [Bool.not_false, Bool.and_true, BEq.rfl]⟩
end
section
variable {fns : String → Option Fn} {n b : Nat} {σ σ' : St} {x : X} {R R' : List D} {nb wi ai pi ri lo hi : Nat} {lone : Nat → Bool} {Bs : List (Option Tm)} {bs : List Int}
theorem nodup_at {α : Type} {l : List α} (h : l.Nodup) {i j : Nat} {a : α} (hi : l[i]? = some a) (hj : l[j]? = some a) : i = j := by
 obtain ⟨h1, e1⟩ := List.getElem?_eq_some_iff.mp hi
 obtain ⟨h2, e2⟩ := List.getElem?_eq_some_iff.mp hj
 exact (List.getElem_inj h).mp (e1.trans e2.symm)
theorem TyP.fn (hn : R.Nodup) {back : Bool} {p : Tp} {t t' : Nat} (h : TyP nb back R p t) (h' : TyP nb back R p t') : t = t' := by
 cases p with
 | lf l => exact h.trans h'.symm
 | m ls => exact nodup_at hn h h'
theorem F2.fn2 {α β : Type} {r : α → β → Prop} (h : ∀ a b c, r a b → r a c → b = c) : ∀ {l : List α} {m m' : List β}, F2 r l m → F2 r l m' → m = m'
 | [], [], [], _, _ => rfl
 | a :: l, b :: m, c :: m', k, k' => by rw [h a b c k.1 k'.1, F2.fn2 h k.2 k'.2]
theorem IsUn.fn (hn : R.Nodup) {ks : List Nat} {t t' : Nat} (h : IsUn R ks R t) (h' : IsUn R ks R t') : t = t' := by
 rcases h with ⟨u, hu, htu, ht, htk, h0, h13⟩ | ⟨hno, out, h1, h2, h3⟩
 ·rcases h' with ⟨u', hu', htu', ht', htk', h0', h13'⟩ | ⟨hno', _⟩
  ·rcases ht with rfl | rfl | rfl <;> rcases ht' with rfl | rfl | rfl <;> first | rfl | (exfalso; first | exact h0 (by decide) htk' | exact h0' (by decide) htk | exact h13 rfl htk' | exact h13' rfl htk)
  ·exact absurd htu (hno' u hu)
 ·rcases h' with ⟨u', hu', htu', _⟩ | ⟨_, out', h1', h2', h3'⟩
  ·exact absurd htu' (hno u' hu')
  ·have : out = out' := asc_eq h1 h1' fun u => by rw [h2, h2']
   subst this
   rcases h3 with ⟨a, c⟩ | a | ⟨a, c⟩ <;> rcases h3' with ⟨a', c'⟩ | a' | ⟨a', c'⟩
   ·rw [c, c']
   ·rw [a] at a'; cases a'
   ·rw [a] at a'; simp at a'
   ·rw [a] at a'; cases a'
   ·rw [a] at a'; injection a'
   ·rw [a] at a'; simp at a'
   ·rw [a'] at a; simp at a
   ·rw [a'] at a; simp at a
   ·exact nodup_at hn c c'
theorem TyT.fn (hn : R.Nodup) {back : Bool} {tm : Tm} {t t' : Nat} (h : TyT nb back R tm t) (h' : TyT nb back R tm t') : t = t' := by
 cases tm with
 | tp p => exact TyP.fn hn h h'
 | u ts =>
  obtain ⟨ks, h1, h2⟩ := h
  obtain ⟨ks', h1', h2'⟩ := h'
  have := F2.fn2 (r := TyP nb back R) (fun _ _ _ => TyP.fn hn) h1 h1'
  subst this
  exact h2.fn hn h2'

theorem opened_spec (F : Fns fns) (s : Sw x nb wi ai pi ri lo hi Bs lone bs σ) (r : Sr nb Bs lone bs R) {bo li : Nat} (hb : σ[bo]? = some (.list (Bs.map encO))) (mb : ¬ x.mu bo) (hli : σ[li]? = some (.list (((List.range nb).map lone).map .bool))) (ml : ¬ x.mu li) (hBl : Bs.length = nb) (w : Wl x (b + 11 * nb) R σ) :
  W (callF fns (n + 4) "_law_opened" [.ref wi, .ref x.host, .ref bo, .ref li] σ) fun v σ' => (∃ R', Wk x σ b R' σ' ∧ R <+: R') ∧ v = .bool true := by
 have hnb := s.p.nb
 refine f_call4 F.law_opened fun Q' hQ => ?_
 refine x_loop (e_bi (e_var rfl (len_lst hb (big_of (by rw [List.length_map]; lia)) ?_)))
 rw [List.length_map, hBl]
 refine t_range (by lia) ?_
 refine forGo_range (fun j L σ' => E1C3 (fun R' => R <+: R') (fun R' => Wk x σ (b + 11 * (nb - j)) R' σ') (fun R' => Ag ["place", "told", "bound"] [("w", .ref wi), ("host", .ref x.host), ("bounds", .ref bo), ("lone", .ref li)] L)) (fun _ => rfl) ?_ ?_ ⟨R, List.prefix_refl _, .start w, .refl⟩
 ·rintro L σ1 ⟨R1, h1, w1, hA⟩
  have s1 := s.keep w1
  have r1 := r.pre h1
  have hT : ∀ k : Wd', (k = 4 ∨ k = 8) → ∃ j, j ≠ 10 ∧ Lk R1 (atomTy nb k) j := by
   rintro k (rfl | rfl)
   ·exact ⟨15, by decide, _, r1.base.atm 4 (by decide), Nat.le_of_ble_eq_true rfl⟩
   ·exact ⟨16, by decide, _, r1.base.atm 8 (by decide), Nat.le_of_ble_eq_true rfl⟩
  obtain ⟨k4, n4, lk4⟩ := hT 4 (.inl rfl)
  obtain ⟨k8, n8, lk8⟩ := hT 8 (.inr rfl)
  dl_step
  refine i_w s1.p.w rfl rfl ?_
  dl_step
  refine i_atom (k := 4) s1.p (by decide) ?_
  dl_step
  refine (bp_other (n := n) F lk4 n4 w1.w).m1 ?_
  dl_step
  refine q_eqF rfl rfl rfl ?_
  refine Br.Td rfl ?_
  dl_step
  refine i_w s1.p.w rfl rfl ?_
  dl_step
  refine i_atom (k := 8) s1.p (by decide) ?_
  dl_step
  refine (bp_other (n := n) F lk8 n8 w1.w).m1 ?_
  dl_step
  refine q_eqF rfl rfl rfl ?_
  dl_step
  exact ⟨⟨R1, w1.less (by lia), h1⟩, rfl⟩
 ·rintro j L σ1 hj ⟨R1, h1, w1, hA⟩
  have s1 := s.keep w1
  have r1 := r.pre h1
  have hlj : (((List.range nb).map lone).map D.bool)[j]? = some (.bool (lone j)) := by
   rw [List.getElem?_map, range_get hj]; rfl
  have hll : (((List.range nb).map lone).map D.bool).length ≤ big := big_of (by rw [List.length_map, List.length_map, List.length_range]; lia)
  refine x_turn1 fun Q' hQ => ?_
  have hA : Ag ["place", "told", "bound"] [("w", .ref wi), ("host", .ref x.host), ("bounds", .ref bo), ("lone", .ref li)] (setL "place" (.int j) L) := hA.set rfl
  have kp : (setL "place" (.int j) L).lookup "place" = some (D.int j) := lk_set
  generalize setL "place" (.int j) L = L1 at hA kp ⊢
  refine x_assign (e_tup (es_nil ?_))
  have hA : Ag ["place", "told", "bound"] [("w", .ref wi), ("host", .ref x.host), ("bounds", .ref bo), ("lone", .ref li)] (setL "told" (.tup []) L1) := hA.set rfl
  have kp : (setL "told" (.tup []) L1).lookup "place" = some (D.int j) := lk_setne rfl kp
  have kt : (setL "told" (.tup []) L1).lookup "told" = some (.tup []) := lk_set
  generalize setL "told" (.tup []) L1 = L2 at hA kp kt ⊢
  refine x_cut (fun L' σ' => E2C6 (fun R2 out => R1 <+: R2) (fun R2 out => Wk x σ1 (b + 11 * (nb - (j + 1))) R2 σ') (fun R2 out => L'.lookup "told" = some (.tup (List.map tI out))) (fun R2 out => L'.lookup "place" = some (D.int j)) (fun R2 out => Ag ["place", "told", "bound"] [("w", .ref wi), ("host", .ref x.host), ("bounds", .ref bo), ("lone", .ref li)] L') (fun R2 out => W (callF fns (n + 3) "bound_parts" [.ref x.host, tI (16 + j)] σ') fun v σ'' => σ'' = σ' ∧ v = .tup (out.map tI))) ?_ ?_
  ·intro Q' hQ
   dl_step
   refine i_lst (w1.at ml hli) ⟨Int.natCast_nonneg j, hll⟩ (by rw [Int.toNat_natCast]; exact hlj) ?_
   dl_step
   cases hlq : lone j with
   | true =>
    refine Br.F ?_
    dl_step
    exact ⟨R1, [], List.prefix_refl _, (Wk.start w1.w).less (Nat.le_trans (Nat.le_add_right _ _) (bud hj)), kt, kp, hA, bp_lone (n := n) F r1.base s1.hs r1.bnds hj hlq w1.w⟩
   | false =>
    rcases r1.bnds.it j hj with ⟨h, _⟩ | ⟨_, tm, t, hB, hok, hbs, ht, n1, n2, n3, n4, n5⟩
    ·rw [hlq] at h; exact nof _ h
    refine Br.T ?_
    dl_step
    refine i_lst (w1.at mb hb) ⟨Int.natCast_nonneg j, big_of (by rw [List.length_map]; lia)⟩ (d := tm.enc) (by rw [Int.toNat_natCast, List.getElem?_map, hB]; rfl) ?_
    dl_step
    refine (type_spec (n := n) (b := b + 11 * (nb - (j + 1))) F r1.base s1.p hok (w1.w.less (bud hj))).m4 fun σ2 R2 t' w2 h2 ht' => ?_
    have s2 := s1.keep w2
    have r2 := r1.pre h2
    have ht2 := ht.pre r1.base h2 hok
    have := TyT.fn w2.w.nodup ht2 ht'
    subst this
    obtain ⟨out, hP, hcls, hol, hne, _⟩ := ty_parts r2.base hok ht2
    have hbp := bp_par (n := n) F r2.base s2.hs hj hbs n1 n2 n3 n4 hP w2.w
    dl_step
    refine i_w s2.p.w rfl rfl ?_
    refine a_rows w2.w ?_
    dl_step
    have fin : ∀ {L' : Loc}, L'.lookup "told" = some (.tup (List.map tI out)) → L'.lookup "place" = some (D.int j) → Ag ["place", "told", "bound"] [("w", .ref wi), ("host", .ref x.host), ("bounds", .ref bo), ("lone", .ref li)] L' → E2C6 (fun R2 out => R1 <+: R2) (fun R2 out => Wk x σ1 (b + 11 * (nb - (j + 1))) R2 σ2) (fun R2 out => L'.lookup "told" = some (.tup (List.map tI out))) (fun R2 out => L'.lookup "place" = some (D.int j)) (fun R2 out => Ag ["place", "told", "bound"] [("w", .ref wi), ("host", .ref x.host), ("bounds", .ref bo), ("lone", .ref li)] L') (fun R2 out => W (callF fns (n + 3) "bound_parts" [.ref x.host, tI (16 + j)] σ2) fun v σ'' => σ'' = σ2 ∧ v = .tup (out.map tI)) :=
     fun a c d => ⟨R2, out, h2, w2, a, c, d, hbp⟩
    rcases hP with ⟨e, _⟩ | ⟨_, rfl, k, hk, rest, er, hr⟩ | ⟨_, er⟩
    ·exact absurd e n5
    ·refine i_row w2.w er ?_
     dl_step
     refine i_hd hr ?_
     dl_step
     refine Br.Fd hk ?_
     dl_step
     exact fin lk_set (lk_setne rfl (lk_setne rfl kp)) ((hA.set rfl).set rfl)
    ·refine i_row w2.w er ?_
     dl_step
     refine i_hd (Nat.le_of_ble_eq_true rfl) ?_
     dl_step
     refine Br.Td rfl ?_
     dl_step
     refine i_w s2.p.w rfl rfl ?_
     refine a_rows w2.w ?_
     dl_step
     refine i_row w2.w er ?_
     dl_step
     refine i_tup (Nat.le_of_ble_eq_true rfl) rfl ?_
     dl_step
     exact fin lk_set (lk_setne rfl (lk_setne rfl kp)) ((hA.set rfl).set rfl)
  ·rintro L3 σ2 ⟨R2, out, h2, w2, kt, kp, hA, hbp⟩
   have s2 := s1.keep w2
   dl_step
   refine i_w s2.p.w rfl rfl ?_
   dl_step
   refine i_par s2.p hj ?_
   dl_step
   refine hbp.mono ?_
   rintro _ σ3 ⟨rfl, rfl⟩
   dl_step
   refine q_neF rfl flats_tI' flats_tI' ?_
   refine Br.Ff (by rw [decide_eq_true rfl]; rfl) ?_
   dl_step
   exact ⟨R2, h1.trans h2, w1.next w2, hA⟩
end

noncomputable def Pu (R : List D) (u : Nat) : Prop := ∃ k rest, R[u]? = some (.tup (.int k :: rest)) ∧ rest.length ≤ 10 ∧ k ≠ 6 ∧ k ≠ 5 ∧ u ≠ 2 ∧ ¬ isTop u ∧ u ≠ 8 ∧ u ≠ 14 ∧ ((k = 2 ∨ k = 3 ∨ k = 4 ∨ k = 8) → ∃ r0, rest = r0 ++ [.int 0])
noncomputable def mid {α : Type} (l : List α) : List α := (l.take (l.length - 1)).drop 1
noncomputable def Ms (R : List D) (u : Nat) (v : Bool) : Prop := (∃ k, k ≠ 18 ∧ Lk R u k ∧ v = true) ∨
 (∃ (texts : List Str) (holes : List Nat), R[u]? = some (.tup [.int 18, .tup (texts.map .str), .tup (holes.map tI)]) ∧ 2 ≤ texts.length ∧ texts.length ≤ 10 ∧ holes.length ≤ 10 ∧ (∀ s ∈ texts, PyData.strOk s = true) ∧ v = (holes.any (fun h => decide (h ≠ 6)) || decide (Str.ofString "" ∈ mid texts)))
section
variable {R R' : List D} {u : Nat}
theorem Pu.pre (h : R <+: R') (k : Pu R u) : Pu R' u := by
 obtain ⟨a, r, e, k⟩ := k; exact ⟨a, r, pre_at h e, k⟩
theorem Ms.pre {v : Bool} (h : R <+: R') (k : Ms R u v) : Ms R' u v := by
 rcases k with ⟨k, h1, h2, h3⟩ | ⟨t, hs, e, k⟩
 ·exact .inl ⟨k, h1, h2.pre h, h3⟩
 ·exact .inr ⟨t, hs, pre_at h e, k⟩
theorem map_str_inj : ∀ {a b : List Str}, a.map D.str = b.map D.str → a = b
 | [], [], _ => rfl
 | [], _ :: _, h => by cases h
 | _ :: _, [], h => by cases h
 | x :: a, y :: b, h => by
  rw [List.map_cons, List.map_cons, List.cons.injEq] at h
  rw [D.str.inj h.1, map_str_inj h.2]
theorem Ms.fn {v v' : Bool} (k : Ms R u v) (k' : Ms R u v') : v = v' := by
 rcases k with ⟨k, h1, h2, h3⟩ | ⟨t, hs, e, _, _, _, _, hv⟩ <;> rcases k' with ⟨k', h1', h2', h3'⟩ | ⟨t', hs', e', _, _, _, _, hv'⟩
 ·rw [h3, h3']
 ·exact absurd (h2.fn ⟨_, e', by simp⟩) h1
 ·exact absurd (h2'.fn ⟨_, e, by simp⟩) h1'
 ·rw [e] at e'
  simp only [Option.some.injEq, D.tup.injEq, List.cons.injEq, true_and, and_true] at e'
  rw [hv, hv', map_str_inj e'.1, map_tI_inj e'.2]
theorem Pu.lk (k : Pu R u) : ∃ k, k ≠ 6 ∧ Lk R u k := by
 obtain ⟨k, r, e, l, h6, _⟩ := k; exact ⟨k, h6, r, e, l⟩
theorem Pu.of {nb : Nat} (B : Base nb R) {k : Int} {rest : List D} (e : R[u]? = some (.tup (.int k :: rest))) (hl : rest.length ≤ 10) (h : k = 7 ∨ k = 18) : Pu R u := by
 have lk : Lk R u k := ⟨rest, e, hl⟩
 have no : ∀ j, (j = 1 ∨ j = 2) → Lk R u j → False := fun j hj hk => by
  have := lk.fn hk
  lia
 have at1 : ∀ a : Wd', a.val < 21 → kindA[a.val]'a.isLt = 1 → u ≠ atomTy nb a := fun a ha h1 hu => by
  obtain ⟨rest, e, hl⟩ := rowA_kind nb a ha
  refine no 1 (.inl rfl) ⟨rest, ?_, hl⟩
  rw [hu, B.atm a ha, e, h1]
 refine ⟨k, rest, e, hl, by lia, by lia, at1 20 (by decide) rfl, ?_, ?_, ?_, by lia⟩
 ·rintro (h | h | h)
  ·exact at1 17 (by decide) rfl h
  ·exact at1 19 (by decide) rfl h
  ·exact at1 18 (by decide) rfl h
 ·rintro rfl; exact no 2 (.inr rfl) B.b8
 ·rintro rfl; exact no 2 (.inr rfl) B.b14
theorem rowA_last (nb : Nat) : ∀ k : Wd', k.val < 17 → ∃ rest, rowA nb k = .tup (.int (kindA[k.val]'k.isLt) :: rest) ∧ rest.length ≤ 10 ∧ ((kindA[k.val]'k.isLt = 2 ∨ kindA[k.val]'k.isLt = 3 ∨ kindA[k.val]'k.isLt = 4 ∨ kindA[k.val]'k.isLt = 8) → ∃ r0, rest = r0 ++ [.int 0])
 | ⟨0, _⟩, _ | ⟨1, _⟩, _ | ⟨2, _⟩, _ | ⟨4, _⟩, _ | ⟨5, _⟩, _ | ⟨7, _⟩, _ | ⟨8, _⟩, _ | ⟨10, _⟩, _ | ⟨12, _⟩, _ | ⟨14, _⟩, _ | ⟨15, _⟩, _ | ⟨16, _⟩, _ => ⟨_, rfl, Nat.le_of_ble_eq_true rfl, fun h => absurd h (by show ¬ (kindA[_]'_ = 2 ∨ _); decide +revert)⟩
 | ⟨3, _⟩, _ => ⟨_, rfl, Nat.le_of_ble_eq_true rfl, fun _ => ⟨[_], rfl⟩⟩
 | ⟨6, _⟩, _ => ⟨_, rfl, Nat.le_of_ble_eq_true rfl, fun _ => ⟨[_, _, _, _, _], rfl⟩⟩
 | ⟨9, _⟩, _ => ⟨_, rfl, Nat.le_of_ble_eq_true rfl, fun _ => ⟨[_], rfl⟩⟩
 | ⟨11, _⟩, _ => ⟨_, rfl, Nat.le_of_ble_eq_true rfl, fun _ => ⟨[_], rfl⟩⟩
 | ⟨13, _⟩, _ => ⟨_, rfl, Nat.le_of_ble_eq_true rfl, fun _ => ⟨[_, _, _, _, _], rfl⟩⟩
 | ⟨k + 17, _⟩, h => absurd h (by show ¬ k + 17 < 17; lia)
theorem Pu.atom {nb : Nat} (B : Base nb R) {k : Wd'} (hk : k.val < 17) : Pu R (atomTy nb k) := by
 obtain ⟨rest, e, hl, h⟩ := rowA_last nb k hk
 have hk' : k.val < 21 := by lia
 have key : ∀ k : Wd', k.val < 17 → (kindA[k.val]'k.isLt) ≠ 6 ∧ codes[k.val]'k.isLt ≠ 2 ∧ codes[k.val]'k.isLt ≠ 0 ∧ codes[k.val]'k.isLt ≠ 13 ∧ codes[k.val]'k.isLt ≠ 1 ∧ codes[k.val]'k.isLt ≠ 8 ∧ codes[k.val]'k.isLt ≠ 14 := by decide
 obtain ⟨h6, c2, c0, c13, c1, c8, c14⟩ := key k hk
 refine ⟨_, rest, e ▸ B.atm k hk', hl, h6, kindA5 k, ?_, ?_, ?_, ?_, h⟩
 ·rw [Ne, atom_eq (by decide)]; exact c2
 ·unfold isTop
  rw [atom_eq (by decide), atom_eq (by decide), atom_eq (by decide)]
  rintro (h | h | h)
  ·exact c0 h
  ·exact c13 h
  ·exact c1 h
 ·rw [Ne, atom_eq (by decide)]; exact c8
 ·rw [Ne, atom_eq (by decide)]; exact c14
theorem Ms.atom {nb : Nat} (B : Base nb R) {k : Wd'} (hk : k.val < 16) : Ms R (atomTy nb k) true := by
 obtain ⟨rest, e, hl⟩ := rowA_kind nb k (by lia)
 have key : ∀ k : Wd', k.val < 16 → (kindA[k.val]'k.isLt) ≠ 18 := by decide
 exact .inl ⟨_, key k hk, ⟨rest, e ▸ B.atm k (by lia), hl⟩, rfl⟩
end

section
variable {fns : String → Option Fn} {n b : Nat} {σ σ' : St} {x : X} {R R' : List D} {nb wi ai pi ri : Nat}
theorem flats_str {ts : List Str} (h : ∀ s ∈ ts, PyData.strOk s = true) : flats 6 (ts.map .str) = true := by
 rw [flats, List.all_eq_true]; intro d hd; obtain ⟨u, hu, rfl⟩ := List.mem_map.mp hd; exact h u hu
theorem flats_str' {k : Nat} {ts : List Str} (h : ∀ s ∈ ts, PyData.strOk s = true) : (ts.map D.str).all (flat k) = true := by
 rw [List.all_eq_true]; intro d hd; obtain ⟨u, hu, rfl⟩ := List.mem_map.mp hd; cases k <;> exact h u hu
theorem slice_lh {σ : St} {i : Nat} {xs : List D} {Q : D → St → Prop} {l h : Nat} (g : σ[i]? = some (.list xs)) (hb : xs.length ≤ big) (h1 : l ≤ h) (h2 : h ≤ xs.length) (q : Wn σ (.list ((xs.drop l).take (h - l))) Q) : W (slice σ (.ref i) (.int l) (.int h)) Q := by
 exact W.bi (at_lst g) (W.gd hb (W.bi (gd_pos ⟨Int.natCast_nonneg l, by lia, by lia⟩) (W.ret q.it)))
theorem comp_filter {α : Type} {c : Callee} {L : Loc} {ok : St → Bool} {v : String} {e : CE} {enc : α → D} {p : α → Bool} {xs : List α} {Q : List D → St → Prop} (hok : ok σ = true)
  (hc : ∀ a ∈ xs, ∀ (Q : Bool → St → Prop), Q (p a) σ → W (evC c ((v, enc a) :: L) (some e) σ) Q) (hv : ∀ d, List.lookup v ((v, d) :: L) = some d) (k : Q ((xs.filter p).map enc) σ) : W (compGo ok (turn c L (.var v) (.one v) (some e)) (xs.map enc) [] σ) Q := by
 refine comp_fil (· = σ) (fun _ h => h ▸ hok) (fun a _ ha h => ?_) (fun _ h => h ▸ k) rfl
 subst h
 exact c_turn rfl fun Q' hQ => hc a ha _ ⟨fun h => e_var (hv _) (hQ _ _ ⟨rfl, by rw [h]; rfl⟩), fun h => hQ _ _ ⟨rfl, by rw [h]; rfl⟩⟩
noncomputable def text4 : List Str := [Str.ofString "a", Str.ofString "", Str.ofString "-", Str.ofString "xy"]
theorem text4_ok : (∀ s ∈ text4, PyData.strOk s = true) ∧ (∀ s ∈ [Str.ofString "b", Str.ofString ""], PyData.strOk s = true) ∧ (∀ s ∈ [Str.ofString "", Str.ofString ""], PyData.strOk s = true) := by decide +kernel
theorem filter_len0 {α : Type} {p : α → Bool} {l : List α} : decide (((l.filter p).length : Int) = 0) = !l.any p := by
 rw [Bool.eq_iff_iff, decide_eq_true_eq, Bool.not_eq_true', List.any_eq_false]
 constructor
 ·intro h a ha hp
  have : 0 < (l.filter p).length := List.length_pos_of_mem (List.mem_filter.mpr ⟨ha, hp⟩)
  lia
 ·intro h
  have : l.filter p = [] := List.filter_eq_nil_iff.mpr h
  rw [this]; rfl

theorem template_spec (F : Fns fns) (p : Wp x nb wi ai pi ri σ) (hn : 2 ≤ nb) (w : Wl x (b + 10) R σ) : W (callF fns (n + 2) "_law_template" [.ref x.d, .ref wi] σ) fun v σ' => ∃ R' u g, Wk x σ b R' σ' ∧ R <+: R' ∧ v = .tup [tI u, .bool g] ∧ Ms R' u (!g) ∧ ∃ rest, R'[u]? = some (.tup (.int 18 :: rest)) ∧ rest.length ≤ 10 := by
 have w0 := Wk.start w
 refine f_call2 F.law_template fun Q' hQ => ?_
 dl_step
 refine (take_spec F (m := 3) (by decide) (by decide) (w.less (by exact le3 rfl : b + 8 + 1 ≤ _))).m3 fun σ1 k w1 hk => ?_
 dl_step
 have hcnt : (1 : Int) + (k : Int) = ((1 + k : Nat) : Int) := by lia
 rw [hcnt]
 refine t_range (n := 1 + k) (by lia) ?_
 refine compGo_inv (fun ds acc σ' => E1C3 (fun (hs : List Nat) => acc = hs.map tI) (fun (hs : List Nat) => hs.length + ds.length = 1 + k) (fun (hs : List Nat) => Wk x σ (b + 5 + ds.length) R σ')) ?_ ?_ ⟨[], rfl, by simp, w1.less (by simp; lia)⟩
 rotate_left
 ·rintro d ds acc σ2 ⟨hs, rfl, hl, w2⟩
  refine ⟨rfl, ?_⟩
  simp only [List.length_cons] at hl w2
  refine c_turn1 rfl fun Q' hQ => ?_
  dl_step
  refine i_w (p.keep w2).w rfl rfl ?_
  dl_step
  refine i_par (i := 1) (p.keep w2) (by lia) ?_
  dl_step
  intro o3 σ3 p3
  have l3 := w2.lo p3
  have w3 := w2.new p3
  dl_step
  refine (take_spec F (m := 4) (by decide) (by decide) (w3.less (by lia : b + 5 + ds.length + 1 ≤ _)).w).m3 fun σ4 q w4 hq => ?_
  have l4 := l3.call w w4
  have w4 := w3.next w4
  refine i_lst (d := tI (([6, 6, 7, 17] : List Nat)[q]'hq)) l4.2 ⟨by lia, Nat.le_of_ble_eq_true rfl⟩ ?_ ?_
  ·rw [Int.toNat_natCast]
   show (([6, 6, 7, 17] : List Nat).map tI)[q]? = _
   rw [List.getElem?_map, List.getElem?_eq_getElem (show q < ([6, 6, 7, 17] : List Nat).length from hq)]; rfl
  dl_step
  exact ⟨hs ++ [([6, 6, 7, 17] : List Nat)[q]'hq], by rw [List.map_append]; rfl, by rw [List.length_append, List.length_singleton]; lia, w4⟩
 rintro acc σ2 ⟨hs, rfl, hl, w2⟩
 refine ⟨rfl, ?_⟩
 simp only [List.length_nil, Nat.add_zero] at hl w2
 intro oh σ3 p3
 have lh := w2.lo p3
 have w3 := w2.new p3
 dl_step
 rw [show ((1 + k : Nat) : Int) + 1 = ((2 + k : Nat) : Int) by lia]
 refine t_range (n := 2 + k) (by lia) ?_
 refine compGo_inv (fun ds acc σ' => E1C5 (fun (ts : List Str) => acc = ts.map .str) (fun (ts : List Str) => ts.length + ds.length = 2 + k) (fun (ts : List Str) => (∀ s ∈ ts, PyData.strOk s = true)) (fun (ts : List Str) => Wk x σ (b + 1 + ds.length) R σ') (fun (ts : List Str) => Lo σ σ' oh (.list (hs.map tI)))) ?_ ?_ ⟨[], rfl, by simp, nofun, w3.less (by simp; lia), lh⟩
 rotate_left
 ·rintro d ds acc σ4 ⟨ts, rfl, hlt, hok, w4, l4⟩
  refine ⟨rfl, ?_⟩
  simp only [List.length_cons] at hlt w4
  refine c_turn1 rfl fun Q' hQ => ?_
  refine pick_spec F (b := b + 1 + ds.length) (m := 4) (text4.map D.str) (by decide) rfl (by decide) w4.w rfl ?_
  intro q hq σ5 w5
  have hq' : q < text4.length := hq
  rw [List.getElem_map]
  dl_step
  refine ⟨ts ++ [text4[q]'hq'], by rw [List.map_append]; rfl, by rw [List.length_append, List.length_singleton]; lia, ?_, w4.next w5, l4.call w w5⟩
  intro s hs'
  rcases List.mem_append.mp hs' with h | h
  ·exact hok s h
  ·rw [List.mem_singleton] at h; subst h; exact text4_ok.1 _ (List.getElem_mem _)
 rintro acc σ4 ⟨ts, rfl, hlt, hok, w4, l4⟩
 refine ⟨rfl, ?_⟩
 simp only [List.length_nil, Nat.add_zero] at hlt w4
 intro ot σ5 p5
 have lt5 := w4.lo p5
 have lh5 := l4.new p5
 have w5 := w4.new p5
 have hA : Ag ["texts"] [("d", .ref x.d), ("w", .ref wi), ("count", .int ((1 + k : Nat) : Int)), ("holes", .ref oh), ("texts", .ref ot)] (setL "texts" (.ref ot) (setL "holes" (.ref oh) (setL "count" (.int ((1 + k : Nat) : Int)) [("d", .ref x.d), ("w", .ref wi)]))) := .refl
 have kt : (setL "texts" (.ref ot) (setL "holes" (.ref oh) (setL "count" (.int ((1 + k : Nat) : Int)) [("d", .ref x.d), ("w", .ref wi)]))).lookup "texts" = some (D.ref ot) := rfl
 generalize setL "texts" (.ref ot) (setL "holes" (.ref oh) (setL "count" (.int ((1 + k : Nat) : Int)) [("d", .ref x.d), ("w", .ref wi)])) = L0 at hA kt ⊢
 refine x_cut (fun L' σ' => E2C7 (fun (ot : Nat) (ts : List Str) => L'.lookup "texts" = some (.ref ot)) (fun (ot : Nat) (ts : List Str) => Ag ["texts"] [("d", .ref x.d), ("w", .ref wi), ("count", .int ((1 + k : Nat) : Int)), ("holes", .ref oh), ("texts", .ref ot)] L') (fun (ot : Nat) (ts : List Str) => Lo σ σ' ot (.list (ts.map .str))) (fun (ot : Nat) (ts : List Str) => ts.length = 2 + k) (fun (ot : Nat) (ts : List Str) => (∀ s ∈ ts, PyData.strOk s = true)) (fun (ot : Nat) (ts : List Str) => Wk x σ (b + 1) R σ') (fun (ot : Nat) (ts : List Str) => Lo σ σ' oh (.list (hs.map tI)))) ?_ ?_
 ·intro Q' hQ
  dl_step
  intro o6 σ6 p6
  have l6 := w5.lo p6
  have lt6 := lt5.new p6
  have lh6 := lh5.new p6
  have w6 := w5.new p6
  refine q_eqL lt6.2 l6.2 (flats_str hok) (flats_str (ts := [Str.ofString "", Str.ofString ""]) text4_ok.2.2) ?_
  refine Br.dec (fun e => ?_) (fun e => ?_)
  ·have hk0 : k = 0 := by
    have := congrArg List.length e
    rw [List.length_map] at this
    simp at this; lia
   dl_step
   intro o7 σ7 p7
   dl_step
   exact ⟨o7, [Str.ofString "b", Str.ofString ""], lk_set, fun y hy => by
    have hy' : (y == "texts") = false := by simpa using hy
    rw [lk_ne hy', hA y hy]
    simp only [List.lookup_cons, hy'], w6.lo p7, by rw [hk0]; rfl, text4_ok.2.1, w6.new p7, lh6.new p7⟩
  ·dl_step
   exact ⟨ot, ts, kt, hA, lt6, hlt, hok, w6, lh6⟩
 clear hA kt
 rintro L1 σ6 ⟨ot, ts, kt, hA, lt, hlt, hok, w6, lh⟩
 have hbt : (ts.map D.str).length ≤ big := big_of (by rw [List.length_map]; lia)
 dl_step
 refine slice_lh (l := 1) lt.2 hbt (by lia) (by rw [List.length_map]; lia) ?_
 intro o7 σ7 p7
 have l7 := w6.lo p7
 have lt7 := lt.new p7
 have lh7 := lh.new p7
 have w7 := w6.new p7
 have hmid : ((ts.map D.str).drop 1).take (1 + k - 1) = (mid ts).map D.str := by
  rw [mid, ← List.map_drop, ← List.map_take, List.drop_take, hlt]
  congr 2
  lia
 rw [hmid] at l7
 have hmok : ∀ s ∈ mid ts, PyData.strOk s = true := fun s hs' => hok s (List.mem_of_mem_take (List.mem_of_mem_drop hs'))
 have hml : (mid ts).length ≤ 20 := by
  rw [mid, List.length_drop]; exact Nat.le_trans (Nat.le_trans (Nat.sub_le _ _) (List.length_take_le' _ _)) (by lia)
 refine t_seqL l7.2 (big_of (by rw [List.length_map]; lia)) ?_
 refine comp_filter (p := fun s => decide (s = Str.ofString "")) (still_list l7.2) (fun s hs' Q h => ?_) (fun d => rfl) ?_
 ·dl_step
  refine q_eqF rfl (strFlat (hmok s hs')) (strFlat litOk.1) ?_
  dl_step
  have : decide (D.str s = S "") = decide (s = Str.ofString "") := by rw [decide_eq_decide]; exact ⟨fun h => D.str.inj h, fun h => by rw [h]; rfl⟩
  rw [this]; exact h
 intro o8 σ8 p8
 have l8 := w7.lo p8
 have lt8 := lt7.new p8
 have lh8 := lh7.new p8
 have w8 := w7.new p8
 have hfl : ((mid ts).filter (fun s => decide (s = Str.ofString ""))).length ≤ (mid ts).length := List.length_filter_le _ _
 refine len_lst l8.2 (big_of (by rw [List.length_map]; lia)) ?_
 rw [List.length_map]
 dl_step
 refine t_seqL lh8.2 (big_of (by rw [List.length_map]; lia)) ?_
 refine comp_filter (p := fun h => decide (h ≠ 6)) (still_list lh8.2) (fun s hs' Q h => ?_) (fun d => rfl) ?_
 ·dl_step
  have : (!decide ((s : Int) = 6)) = decide (s ≠ 6) := neN (k := 6)
  rw [this]; exact h
 intro o9 σ9 p9
 have l9 := w8.lo p9
 have lt9 := lt8.new p9
 have lh9 := lh8.new p9
 have w9 := w8.new p9
 have hfl2 : (hs.filter (fun h => decide (h ≠ 6))).length ≤ hs.length := List.length_filter_le _ _
 refine len_lst l9.2 (big_of (by rw [List.length_map]; lia)) ?_
 rw [List.length_map]
 dl_step
 refine i_w (p.keep w9).w rfl rfl ?_
 refine m_put w9.w ?_
 dl_step
 refine tuple_lst lt9.2 hbt ?_
 dl_step
 refine tuple_lst lh9.2 (big_of (by rw [List.length_map]; lia)) ?_
 dl_step
 refine (put_spec (b := b) F (isT (flatC (flatI _ _) (flatC (flatT (flats_str' hok)) (flatC (flatT flats_tI') rfl)))) w9.w).mono ?_
 rintro d σ10 ⟨R', u, w10, rfl, hpre, hu, -⟩
 have w10 := w9.next w10
 rw [filter_len0]
 have hms : Ms R' u (!(!hs.any (fun h => decide (h ≠ 6)) && !(mid ts).any (fun s => decide (s = Str.ofString "")))) := by
  refine .inr ⟨ts, hs, hu, by lia, by lia, by lia, hok, ?_⟩
  rw [Bool.not_and, Bool.not_not, Bool.not_not]
  congr 1
  rw [Bool.eq_iff_iff, List.any_eq_true, decide_eq_true_eq]
  exact ⟨fun ⟨s, h1, h2⟩ => of_decide_eq_true h2 ▸ h1, fun h => ⟨_, h, decide_eq_true rfl⟩⟩
 dl_step
 refine Br.bool (fun e => ?_) (fun e => ?_)
 ·dl_step
  rw [filter_len0]
  rw [e, Bool.true_and] at hms
  exact ⟨R', u, _, w10, hpre, rfl, hms, _, hu, Nat.le_of_ble_eq_true rfl⟩
 ·dl_step
  rw [e, Bool.false_and] at hms
  exact ⟨R', u, _, w10, hpre, rfl, by rw [e]; exact hms, _, hu, Nat.le_of_ble_eq_true rfl⟩
end

noncomputable def encQ (q : Nat × Bool) : D := .tup [tI q.1, .bool q.2]
section
variable {fns : String → Option Fn} {n b : Nat} {σ σ' : St} {x : X} {R R' : List D} {nb wi ai pi ri : Nat}
noncomputable def Pq (nb : Nat) (R : List D) (q : Nat × Bool) : Prop := Pu R q.1 ∧ (q.1 ≠ atomTy nb 16 → Ms R q.1 (!q.2))
theorem Pq.pre {q : Nat × Bool} (h : R <+: R') (k : Pq nb R q) : Pq nb R' q := ⟨k.1.pre h, fun e => (k.2 e).pre h⟩
theorem pieces_spec (F : Fns fns) (B : Base nb R) (p : Wp x nb wi ai pi ri σ) (hn : 2 ≤ nb) (w : Wl x (b + 60) R σ) : W (callF fns (n + 3) "_law_pieces" [.ref x.d, .ref wi] σ) fun v σ' => ∃ R' o qs, Wk x σ b R' σ' ∧ R <+: R' ∧ v = .ref o ∧ Lo σ σ' o (.list (List.map encQ qs)) ∧ qs.length ≤ 4 ∧ ∀ q ∈ qs, Pu R' q.1 ∧ Ms R' q.1 (!q.2) := by
 have w0 := Wk.start w
 refine f_call2 F.law_pieces fun Q' hQ => ?_
 dl_step
 intro o σ1 p1
 have l1 := w0.lo p1
 have w1 := w0.new p1
 dl_step
 refine (take_spec F (m := 4) (by decide) (by decide) (w1.less (by exact le3 rfl : b + 58 + 1 ≤ _)).w).m3 fun σ2 k w2 hk => ?_
 have l2 := l1.call w w2
 have w2 := w1.next w2
 dl_step
 refine t_rangeI (n := 1 + k) (by lia) (by lia) ?_
 refine forGo_inv (fun ds L σ' => E2C6 (fun R' qs => Lo σ σ' o (.list (List.map encQ qs))) (fun R' qs => R <+: R') (fun R' qs => Wk x σ (b + 12 * ds.length) R' σ') (fun R' qs => Ag ["go", "pick"] [("d", .ref x.d), ("w", .ref wi), ("out", .ref o)] L) (fun R' qs => (∀ q ∈ qs, Pq nb R' q)) (fun R' qs => qs.length + ds.length ≤ 4)) ?_ ?_ ⟨R, [], l2, List.prefix_refl _, w2.less (by rw [List.length_map, List.length_range]; lia), .refl, nofun, by rw [List.length_map, List.length_range]; simp; lia⟩
 ·rintro L σ3 ⟨R3, qs, l3, h3, w3, hA, hq, hl⟩
  refine ⟨rfl, ?_⟩
  have hl : qs.length ≤ 4 := by simpa using hl
  dl_step
  refine t_seqL l3.2 (big_of (by rw [List.length_map]; lia)) ?_
  refine comp_filter (p := fun q : Nat × Bool => decide (q.1 ≠ atomTy nb 16)) (still_list l3.2) (fun q hq' Q h => ?_) (fun d => rfl) ?_
  ·dl_step
   refine i_tup (Nat.le_of_ble_eq_true rfl) rfl ?_
   dl_step
   refine i_w (p.keep w3).w rfl rfl ?_
   dl_step
   refine i_atom (k := 16) (p.keep w3) (by decide) ?_
   dl_step
   have : (!decide ((q.1 : Int) = (atomTy nb 16 : Int))) = decide (q.1 ≠ atomTy nb 16) := neN
   rw [this]; exact h
  intro o4 σ4 p4
  dl_step
  have hfl := List.length_filter_le (fun q : Nat × Bool => decide (q.1 ≠ atomTy nb 16)) qs
  refine ⟨R3, o4, _, (w3.new p4).less (by lia), h3, rfl, w3.lo p4, by lia, fun q hq' => ?_⟩
  have hm := List.mem_filter.mp hq'
  have h := hq q hm.1
  exact ⟨h.1, h.2 (of_decide_eq_true hm.2)⟩
 ·rintro d ds L σ3 ⟨R3, qs, l3, h3, w3, hA, hq, hl⟩
  simp only [List.length_cons] at hl w3
  refine ⟨rfl, ?_⟩
  refine x_turn1 fun Q' hQ => ?_
  have hA : Ag ["go", "pick"] [("d", .ref x.d), ("w", .ref wi), ("out", .ref o)] (setL "go" d L) := hA.set rfl
  dl_step
  refine (take_spec F (m := 8) (by decide) (by decide) (w3.less (by lia : b + 12 * ds.length + 10 + 1 ≤ _)).w).m3 fun σ4 pk w4 hpk => ?_
  have l4 := l3.call w w4
  have w4 := w3.next w4
  have hA : Ag ["go", "pick"] [("d", .ref x.d), ("w", .ref wi), ("out", .ref o)] (setL "pick" (.int pk) (setL "go" d L)) := hA.set rfl
  have kp : (setL "pick" (.int pk) (setL "go" d L)).lookup "pick" = some (D.int pk) := lk_set
  generalize setL "pick" (.int pk) (setL "go" d L) = L1 at hA kp ⊢
  have hb : (qs.map encQ).length ≤ big := big_of (by rw [List.length_map]; lia)
  have fin : ∀ {R5 : List D} {σ5 σ6 : St} {q : Nat × Bool} {b' : Nat}, R3 <+: R5 → Wk x σ b' R5 σ5 → b + 12 * ds.length ≤ b' → Lo σ σ5 o (.list (List.map encQ qs)) → Pq nb R5 q → Upd σ5 o (.list (List.map encQ qs ++ [encQ q])) σ6 → E2C6 (fun R' qs => Lo σ σ6 o (.list (List.map encQ qs))) (fun R' qs => R <+: R') (fun R' qs => Wk x σ (b + 12 * ds.length) R' σ6) (fun R' qs => Ag ["go", "pick"] [("d", .ref x.d), ("w", .ref wi), ("out", .ref o)] L1) (fun R' qs => (∀ q ∈ qs, Pq nb R' q)) (fun R' qs => qs.length + ds.length ≤ 4) := by
   intro R5 σ5 σ6 q b' hp w5 hb' l5 hpq p6
   refine ⟨R5, qs ++ [q], by rw [List.map_append]; exact l5.upd p6, h3.trans hp, (w5.upd w l5 p6).less hb', hA, ?_, by rw [List.length_append, List.length_singleton]; lia⟩
   intro z hz
   rcases List.mem_append.mp hz with h | h
   ·exact (hq z h).pre hp
   ·rw [List.mem_singleton] at h; subst h; exact hpq
  dl_step
  refine Br.dec (fun e => ?_) (fun e => ?_)
  ·dl_step
   refine ⟨o, _, rfl, l4.ge w, l4.2, ?_⟩
   dl_step
   refine (template_spec (n := n) (b := b + 12 * ds.length) F (p.keep w4) hn w4.w).mono ?_
   rintro _ σ5 ⟨R5, u, g, w5, h5, rfl, hm, rest, er, hr⟩
   have l5 := l4.call w w5
   have w5 := w4.next w5
   refine ⟨_, l5.2, hb, ?_⟩
   intro σ6 p6
   refine ⟨rfl, ?_⟩
   dl_step
   exact fin (q := (u, g)) h5 w5 (Nat.le_refl _) l5 ⟨Pu.of ((B.pre h3).pre h5) er hr (.inr rfl), fun _ => hm⟩ p6
  ·dl_step
   refine Br.dec (fun e' => ?_) (fun e' => ?_)
   ·dl_step
    refine ⟨o, _, rfl, l4.ge w, l4.2, ?_⟩
    dl_step
    refine i_w (p.keep w4).w rfl rfl ?_
    dl_step
    refine (name_spec F (m := 17) (by decide) (by decide) (w4.less (by lia : b + 12 * ds.length + 1 ≤ _)).w).m3 fun σ5 a w5 ha => ?_
    have l5 := l4.call w w5
    have w5 := w4.next w5
    refine i_atom (p.keep w5) (by lia) ?_
    dl_step
    refine ⟨_, l5.2, hb, ?_⟩
    intro σ6 p6
    refine ⟨rfl, ?_⟩
    dl_step
    refine fin (q := (atomTy nb a, false)) (List.prefix_refl _) w5 (Nat.le_refl _) l5 ⟨Pu.atom (B.pre h3) ha, fun hne => ?_⟩ p6
    refine Ms.atom (B.pre h3) ?_
    have : a.val ≠ 16 := fun e => hne (by have : a = 16 := Fin.ext e; rw [this])
    lia
   ·dl_step
    refine ⟨o, _, rfl, l4.ge w, l4.2, ?_⟩
    dl_step
    refine i_w (p.keep w4).w rfl rfl ?_
    refine m_put w4.w ?_
    dl_step
    refine i_w (p.keep w4).w rfl rfl ?_
    dl_step
    refine i_par (i := 0) (p.keep w4) (by lia) ?_
    dl_step
    refine i_w (p.keep w4).w rfl rfl ?_
    dl_step
    refine i_atom (k := 16) (p.keep w4) (by decide) ?_
    dl_step
    refine (put_spec (b := b + 12 * ds.length) F rfl (w4.less (by lia)).w).mono ?_
    rintro _ σ5 ⟨R5, u, w5, rfl, h5, hu, -⟩
    have l5 := l4.call w w5
    have w5 := w4.next w5
    dl_step
    refine ⟨_, l5.2, hb, ?_⟩
    intro σ6 p6
    refine ⟨rfl, ?_⟩
    dl_step
    exact fin (q := (u, false)) h5 w5 (Nat.le_refl _) l5 ⟨Pu.of ((B.pre h3).pre h5) hu (Nat.le_of_ble_eq_true rfl) (.inl rfl), fun _ => .inl ⟨7, by decide, ⟨_, hu, Nat.le_of_ble_eq_true rfl⟩, rfl⟩⟩ p6
end

noncomputable def gotD (ps : List Nat) : List (D × D) := ps.map fun u => (tI u, .int 1)
section
variable {fns : String → Option Fn} {n b : Nat} {σ σ' : St} {x : X} {R R' : List D} {nb wi ai pi ri : Nat} {ps : List Nat}
theorem got_int : (gotD ps).all (fun e => isInt e.1) = true := by
 rw [gotD, List.all_map, List.all_eq_true]; intro u _; rfl
theorem keys_int {es : List (D × D)} {z : Int} (h : es.all (fun e => isInt e.1) = true) : keysOk es (.int z) = true := by
 unfold keysOk; rw [h]; rfl
theorem got_find {z : Int} : ∀ {ps : List Nat}, (dfind (gotD ps) (.int z)).isSome = true ↔ ∃ u ∈ ps, (u : Int) = z
 | [] => ⟨fun h => nof _ h, fun ⟨_, hu, _⟩ => absurd hu List.not_mem_nil⟩
 | a :: ps => by
  by_cases h : (a : Int) = z
  ·subst h
   exact ⟨fun _ => ⟨a, .head _, rfl⟩, fun _ => congrArg Option.isSome (dfind_hit : dfind ((tI a, .int 1) :: gotD ps) (tI a) = _)⟩
  ·rw [show dfind (gotD (a :: ps)) (.int z) = dfind (gotD ps) (.int z) from dfind_miss fun e => h (D.int.inj e), got_find]
   refine ⟨fun ⟨u, hu, e⟩ => ⟨u, .tail _ hu, e⟩, fun ⟨u, hu, e⟩ => ?_⟩
   rcases List.mem_cons.mp hu with rfl | hu
   ·exact absurd e h
   ·exact ⟨u, hu, e⟩
theorem got_none {z : Int} (h : ∀ u ∈ ps, (u : Int) ≠ z) : (dfind (gotD ps) (.int z)).isSome = false := by
 rw [Bool.eq_false_iff]; intro k
 obtain ⟨u, hu, e⟩ := got_find.mp k
 exact h u hu e
theorem got_put {u : Nat} : ∀ {ps : List Nat}, u ∉ ps → dput (gotD ps) (tI u) (.int 1) = gotD (ps ++ [u])
 | [], _ => rfl
 | a :: ps, h => by
  rw [List.mem_cons, not_or] at h
  exact (dput_miss fun e => h.1 (tI_inj e).symm).trans (congrArg ((tI a, D.int 1) :: ·) (got_put (ps := ps) h.2))
theorem sortN_of {l : List Nat} (h : Asc l) : sortN l = l := by
 refine List.mergeSort_of_pairwise (le := fun a b : Nat => decide (a ≤ b)) ?_
 exact h.imp fun h => decide_eq_true (Nat.le_of_lt h)
theorem nth_last {l : List D} {a : D} : nth (l ++ [a]) (-1) = some a := by
 rw [nth, if_neg (by decide), gd_pos (by rw [List.length_append, List.length_singleton]; lia)]
 rw [show ((-1 : Int) + ((l ++ [a]).length : Int)).toNat = l.length by rw [List.length_append, List.length_singleton]; lia]
 exact List.getElem?_concat_length
noncomputable def Kept (R : List D) (ps : List Nat) : Prop := ∀ u ∈ ps, Pu R u ∧ ((Lk R u 3 ∨ Lk R u 18) → 6 ∉ ps) ∧ (Lk R u 4 → 7 ∉ ps)
theorem twin_spec (F : Fns fns) {u : Nat} (h : Pu R u) (w : Wl x b R σ) : W (callF fns (n + 1) "regular_twin" [.ref x.tab, tI u] σ) fun v σ' => σ' = σ ∧ v = .int (-1) := by
 obtain ⟨k, rest, e, hl, h6, h5, h2, ht, h8, h14, hlast⟩ := h
 refine f_call2 F.regular_twin fun Q' hQ => ?_
 dl_step
 refine a_rows w ?_
 dl_step
 refine i_row w e ?_
 dl_step
 refine i_hd hl ?_
 dl_step
 refine q_inT rfl rfl ?_
 refine Br.dec (fun hm => ?_) (fun hm => ?_)
 ·have hm : k = 2 ∨ k = 3 ∨ k = 4 ∨ k = 8 := by
   simp only [List.mem_cons, List.not_mem_nil, or_false, D.int.injEq] at hm
   lia
  obtain ⟨r0, rfl⟩ := hlast hm
  dl_step
  refine ⟨1, rfl, ?_⟩
  refine i_tup (big_of (by rw [List.length_cons]; lia)) (d := .int 0) (by rw [← List.cons_append]; exact nth_last) ?_
  dl_step
  refine Br.Fd (by decide) ?_
  dl_step
  refine ⟨1, rfl, ?_⟩
  dl_step
  exact ⟨rfl, rfl⟩
 ·refine Br.Fd hm ?_
  dl_step
  refine ⟨1, rfl, ?_⟩
  dl_step
  exact ⟨rfl, rfl⟩
theorem stays_spec (F : Fns fns) (hk : Kept R ps) {o u : Nat} (g : σ[o]? = some (.dict (gotD ps))) (hu : u ∈ ps) (w : Wl x b R σ) : W (callF fns (n + 2) "stays_beside" [.ref x.tab, .ref o, tI u] σ) fun v σ' => σ' = σ ∧ v = .bool true := by
  obtain ⟨hpu, h3, h4⟩ := hk u hu
  obtain ⟨k, rest, e, hl, h6, h5, _⟩ := id hpu
  have lk : Lk R u k := ⟨rest, e, hl⟩
  refine f_call3 F.stays_beside fun Q' hQ => ?_
  dl_step
  refine (twin_spec (n := n) F hpu w).m1 ?_
  dl_step
  refine q_inD g (keys_int got_int) ?_
  refine Br.Ff (got_none fun u _ => by lia) ?_
  dl_step
  refine a_rows w ?_
  dl_step
  refine i_row w e ?_
  dl_step
  refine (whole_spec (n := n) F hl h5).m1 ?_
  dl_step
  refine q_ninD rfl g (keys_int got_int) ?_
  dl_step
  refine ⟨rfl, ?_⟩
  rw [got_none]
  · rfl
  intro v hv
  by_cases e3 : k = 3 ∨ k = 18
  · rw [if_pos e3]
    have : 6 ∉ ps := h3 (by rcases e3 with rfl | rfl; exact .inl lk; exact .inr lk)
    intro h; exact this (by have : v = 6 := by lia
                            exact this ▸ hv)
  · rw [if_neg e3]
    by_cases e4 : k = 4
    · rw [if_pos e4]
      have : 7 ∉ ps := h4 (e4 ▸ lk)
      intro h; exact this (by have : v = 7 := by lia
                              exact this ▸ hv)
    · rw [if_neg e4]; lia
theorem topof_spec (F : Fns fns) (hk : Kept R ps) {o : Nat} (g : σ[o]? = some (.dict (gotD ps))) : W (callF fns (n + 1) "top_of" [.ref o] σ) fun v σ' => σ' = σ ∧ v = .int (-1) := by
 refine f_call1 F.top_of fun Q' hQ => ?_
 dl_step
 refine t_seqT (Nat.le_of_ble_eq_true rfl) ?_
 refine forGo_inv (fun ds L σ' => E0C3 (σ' = σ) ((∀ d ∈ ds, d = .int 0 ∨ d = .int 13 ∨ d = .int 1)) (Ag ["t"] [("got", .ref o)] L)) ?_ ?_ ⟨rfl, fun d hd => by simpa using hd, .refl⟩
 ·rintro L _ ⟨rfl, -, hA⟩
  refine ⟨rfl, ?_⟩
  dl_step
  refine ⟨1, rfl, ?_⟩
  dl_step
  exact ⟨rfl, rfl⟩
 ·rintro d ds L _ ⟨rfl, hd, hA⟩
  refine ⟨rfl, ?_⟩
  refine x_turn1 fun Q' hQ => ?_
  have hA : Ag ["t"] [("got", .ref o)] (setL "t" d L) := hA.set rfl
  have kt : (setL "t" d L).lookup "t" = some d := lk_set
  generalize setL "t" d L = L1 at hA kt ⊢
  have key : ∀ z : Int, d = .int z → (z = 0 ∨ z = 13 ∨ z = 1) → (dfind (gotD ps) d).isSome = false := by
   rintro z rfl hz
   refine got_none fun u hu => ?_
   obtain ⟨k, rest, e, hl, h6, h5, h2, ht, _⟩ := (hk u hu).1
   intro h
   exact ht (by unfold isTop; lia)
  have hkd : ∃ z, d = .int z ∧ (z = 0 ∨ z = 13 ∨ z = 1) := by
   rcases hd d (.head _) with rfl | rfl | rfl
   ·exact ⟨0, rfl, .inl rfl⟩
   ·exact ⟨13, rfl, .inr (.inl rfl)⟩
   ·exact ⟨1, rfl, .inr (.inr rfl)⟩
  obtain ⟨z, rfl, hz⟩ := hkd
  dl_step
  refine q_inD g (keys_int got_int) ?_
  refine Br.Ff (key z rfl hz) ?_
  dl_step
  exact ⟨rfl, fun d hd' => hd d (.tail _ hd'), hA⟩
theorem join_spec (F : Fns fns) (hk : Kept R ps) {o : Nat} (g : σ[o]? = some (.dict (gotD ps))) : W (callF fns (n + 1) "join_bools" [.ref o] σ) fun v σ' => σ' = σ ∧ v = .none := by
 refine f_call1 F.join_bools fun Q' hQ => ?_
 dl_step
 refine q_inD g (keys_int got_int) ?_
 have h8 : (dfind (gotD ps) (.int 8)).isSome = false := got_none fun u hu => by
  obtain ⟨k, rest, e, hl, h6, h5, h2, ht, h8, h14, _⟩ := (hk u hu).1
  lia
 have h14 : (dfind (gotD ps) (.int 14)).isSome = false := got_none fun u hu => by
  obtain ⟨k, rest, e, hl, h6, h5, h2, ht, h8, h14, _⟩ := (hk u hu).1
  lia
 refine Br.Ff h8 ?_
 dl_step
 refine q_inD g (keys_int got_int) ?_
 refine Br.Ff h14 ?_
 refine Br.Ff h14 ?_
 dl_step
 exact ⟨rfl, rfl⟩
theorem union_of (F : Fns fns) (hk : Kept R ps) (ha : Asc ps) (hl : ps.length ≤ 20) {o : Nat} (g : σ[o]? = some (.list (ps.map tI))) (hmu : ¬ x.mu o) (w : Wl x (b + 1) R σ) :
  W (callF fns (n + 3) "union" [.ref x.tab, .ref o] σ) fun v σ' => ∃ R' t, Wk x σ b R' σ' ∧ R <+: R' ∧ v = tI t ∧ IsOut R' ps t := by
 have w0 := Wk.start w
 have hbp : (ps.map tI).length ≤ big := big_of (by rw [List.length_map]; lia)
 refine f_call2 F.union fun Q' hQ => ?_
 dl_step
 refine ⟨⟨rfl, List.nodup_nil⟩, ?_⟩
 intro og σ1 p1
 have l1 := w0.lo p1
 have w1 := w0.new p1
 dl_step
 refine t_seqL (w1.at hmu g) hbp ?_
 refine forGo_map (f := tI) (xs := ps) (fun done L σ' => E0C3 (Lo σ σ' og (.dict (gotD done))) (Wk x σ (b + 1) R σ') (Ag ["t", "part"] [("tab", .ref x.tab), ("parts", .ref o), ("got", .ref og)] L)) ?_ ?_ ⟨l1, w1, .refl⟩
 ·rintro L σ2 ⟨l2, w2, hA⟩
  refine ⟨still_list (w2.at hmu g), ?_⟩
  dl_step
  refine (topof_spec (n := n + 1) F hk l2.2).m1 ?_
  dl_step
  refine Br.Fd (by decide) ?_
  dl_step
  refine (join_spec (n := n + 1) F hk l2.2).m1 ?_
  refine ⟨rfl, ?_⟩
  dl_step
  refine sorted_dict (ns := ps.map (fun n : Nat => (n : Int))) l2.2 (by rw [gotD, List.map_map, List.map_map]; rfl) (by rw [List.length_map]; lia) ?_
  rw [sortI, sortN_of ha]
  intro os σ3 p3
  have ls3 := w2.lo p3
  have l3 := l2.new p3
  have w3 := w2.new p3
  refine t_seqL ls3.2 hbp ?_
  refine comp_filter (enc := tI) (p := fun _ => true) (xs := ps) (still_list ls3.2) (fun u hu Q h => by
   dl_step
   refine (stays_spec (n := n) F hk l3.2 hu w3.w).m1 ?_
   dl_step
   exact h) (fun d => rfl) ?_
  rw [List.filter_eq_self.mpr (fun _ _ => rfl)]
  intro ok σ4 p4
  have l4 := w3.lo p4
  have w4 := w3.new p4
  dl_step
  refine .of (a := !ps.isEmpty) (Eq.trans (bi_eq (at_lst l4.2)) (Eq.trans (gd_pos hbp) (by rw [List.isEmpty_map]))) ?_
  refine Br.bool (fun e => ?_) (fun e => ?_)
  ·have e : ps = [] := by simpa using e
   dl_step
   exact ⟨R, 2, w4.less (by lia), List.prefix_refl _, rfl, .inl ⟨e, rfl⟩⟩
  ·have e : ps ≠ [] := by simpa using e
   dl_step
   refine len_lst l4.2 hbp ?_
   rw [List.length_map]
   dl_step
   refine Br.dec (fun e1 => ?_) (fun e1 => ?_)
   ·dl_step
    obtain ⟨q, hq⟩ := len_one e1
    refine i_lst l4.2 ⟨by decide, hbp⟩ (d := tI q) (by rw [hq]; rfl) ?_
    dl_step
    exact ⟨R, q, w4.less (by lia), List.prefix_refl _, rfl, .inr (.inl hq)⟩
   ·dl_step
    refine len_lst l4.2 hbp ?_
    rw [List.length_map]
    dl_step
    refine Br.Fd (by lia) ?_
    dl_step
    refine m_put w4.w ?_
    dl_step
    refine tuple_lst l4.2 hbp ?_
    dl_step
    refine (put_spec F (isT (flatC (flatI _ _) (flatC (flatT flats_tI') rfl))) w4.w).mono ?_
    rintro d σ5 ⟨R', t, w5, rfl, hpre, ht, -⟩
    dl_step
    have : 0 < ps.length := List.length_pos_iff.mpr e
    exact ⟨R', t, w4.next w5, hpre, rfl, .inr (.inr ⟨by lia, ht⟩)⟩
 ·rintro done u rest L σ2 h1 ⟨l2, w2, hA⟩
  refine ⟨still_list (w2.at hmu g), ?_⟩
  have hu : u ∈ ps := mem_mid h1
  have hnot : u ∉ done := by
   have := ha
   rw [← h1, Asc, List.pairwise_append] at this
   intro h
   exact Nat.lt_irrefl u (this.2.2 u h u (.head _))
  obtain ⟨k, rest', e, hl', h6, h5, h2', _⟩ := (hk u hu).1
  have hdl : done.length ≤ 20 := by
   have := congrArg List.length h1
   rw [List.length_append] at this; lia
  refine x_turn1 fun Q' hQ => ?_
  dl_step
  refine (parts_spec (n := n + 1) (out := [u]) F (.inr (.inl ⟨h2', rfl, k, h6, rest', e, hl'⟩)) w2.w).m1 ?_
  refine t_seqT (Nat.le_of_ble_eq_true rfl) ?_
  have hA : Ag ["t", "part"] [("tab", .ref x.tab), ("parts", .ref o), ("got", .ref og)] (setL "t" (tI u) L) := hA.set rfl
  generalize setL "t" (tI u) L = L1 at hA ⊢
  refine forGo_inv (fun ds L σ' => E0C3 (Wk x σ (b + 1) R σ') (Ag ["t", "part"] [("tab", .ref x.tab), ("parts", .ref o), ("got", .ref og)] L) (((ds = [tI u] ∧ Lo σ σ' og (.dict (gotD done))) ∨ (ds = [] ∧ Lo σ σ' og (.dict (gotD (done ++ [u]))))))) ?_ ?_ ⟨w2, hA, .inl ⟨rfl, l2⟩⟩
  ·rintro L σ3 ⟨w3, hA, ⟨h, _⟩ | ⟨_, l3⟩⟩
   ·cases h
   refine ⟨rfl, ?_⟩
   dl_step
   exact ⟨l3, w3, hA⟩
  ·rintro d ds L σ3 ⟨w3, hA, ⟨h, l3⟩ | ⟨h, _⟩⟩
   ·injection h with h h'
    subst h h'
    refine ⟨rfl, ?_⟩
    refine x_turn1 fun Q' hQ => ?_
    dl_step
    refine .dict og _ rfl l3.2 (l3.ge w) ⟨keys_int got_int, big_of (by rw [gotD, List.length_map]; lia)⟩ ?_
    intro σ4 p4
    have l4 := l3.upd p4
    rw [got_put hnot] at l4
    dl_step
    exact ⟨w3.upd w l3 p4, hA.set rfl, .inr ⟨rfl, l4⟩⟩
   ·cases h
end

section
variable {fns : String → Option Fn} {n b : Nat} {σ σ' : St} {x : X} {R R' : List D} {nb wi ai pi ri : Nat} {ps : List Nat}
theorem h_tpl {Q : D → St → Prop} {c : Callee} {L : Loc} {es : List CE} (w : Wl x b R σ) (h : W (evs c L es σ) fun ds σ => W (c "Thin.tpl_fits" (.ref x.host :: ds) σ) Q) : PMeth σ "tpl_fits" [("BoundHost", "Thin.tpl_fits")] (.ref x.host) fun i f => W (evs c L es σ) fun ds σ => W (c f (.ref i :: ds) σ) Q := by
 obtain ⟨fs, e, l1, l2, l3, l4⟩ := w.host
 exact ⟨_, _, fs, _, rfl, e, l4, rfl, h⟩
theorem slice_mid {σ : St} {ts : List Str} {Q : D → St → Prop} (h2 : 2 ≤ ts.length) (hl : ts.length ≤ 10) (q : Q (.tup ((mid ts).map .str)) σ) : W (slice σ (.tup (ts.map .str)) (.int 1) (.int (-1))) Q := by
 have hb : (ts.map D.str).length ≤ big := big_of (by rw [List.length_map]; lia)
 refine W.gd ⟨rfl, rfl, by rw [List.length_map]; exact h2, hb⟩ ?_
 rw [List.length_map, ← List.map_take, ← List.map_drop]
 exact .ret q
theorem may_spec (F : Fns fns) {u : Nat} {v : Bool} {d : D} (h : Ms R u v) (w : Wl x b R σ) : W (callF fns (n + 2) "may_spell" [.ref x.host, tI u, d] σ) fun r σ' => Wk x σ b R σ' ∧ r = .bool v := by
 have w0 := Wk.start w
 refine f_call3 F.may_spell fun Q' hQ => ?_
 dl_step
 refine a_tab w ?_
 dl_step
 refine a_rows w ?_
 dl_step
 rcases h with ⟨k, hk, ⟨rest, e, hl⟩, rfl⟩ | ⟨ts, hs, e, h2, ht, hh, hok, rfl⟩
 ·refine i_row w e ?_
  dl_step
  refine i_hd hl ?_
  dl_step
  have hd : (!decide (k = 18)) = true := by rw [decide_eq_false hk]; rfl
  refine Br.Tt hd ?_
  refine Br.Tt hd ?_
  dl_step
  exact ⟨w0, rfl⟩
 ·refine i_row w e ?_
  dl_step
  refine i_hd (Nat.le_of_ble_eq_true rfl) ?_
  dl_step
  refine Br.Ff rfl ?_
  dl_step
  refine i_tup (Nat.le_of_ble_eq_true rfl) rfl ?_
  refine t_seqT (big_of (by rw [List.length_map]; lia)) ?_
  refine comp_all (g := fun h : Nat => .bool (decide (h ≠ 6))) (· = σ) (fun _ _ => rfl) (fun a _ _ h => ?_) (fun _ h => ?_) rfl
  ·subst h
   refine c_turn1 rfl fun Q' hQ => ?_
   dl_step
   exact ⟨rfl, congrArg (fun v => some (D.bool v)) (neN (k := 6))⟩
  subst h
  rw [show hs.map (fun h : Nat => D.bool (decide (h ≠ 6))) = (hs.map fun h : Nat => decide (h ≠ 6)).map D.bool by rw [List.map_map]; rfl]
  intro o1 σ1 p1
  have l1 := w0.lo p1
  have w1 := w0.new p1
  refine any_lst l1.2 (by rw [List.length_map]; exact big_of (by lia)) ?_
  rw [List.any_map]
  have hcomp : (id ∘ fun h : Nat => decide (h ≠ 6)) = fun h : Nat => decide (h ≠ 6) := rfl
  rw [hcomp]
  refine Br.bool (fun e1 => ?_) (fun e1 => ?_)
  ·refine Br.Tt e1 ?_
   dl_step
   exact ⟨w1, by rw [e1]; rfl⟩
  ·dl_step
   refine i_tup (Nat.le_of_ble_eq_true rfl) rfl ?_
   dl_step
   refine ⟨1, rfl, ?_⟩
   refine slice_mid h2 ht ?_
   have hmok : ∀ s ∈ mid ts, PyData.strOk s = true := fun s hs' => hok s (List.mem_of_mem_take (List.mem_of_mem_drop hs'))
   refine q_inT (strFlat litOk.1) (flats_str hmok) ?_
   have hmem : S "" ∈ (mid ts).map D.str ↔ Str.ofString "" ∈ mid ts := ⟨fun h => by obtain ⟨s, hs', e⟩ := List.mem_map.mp h; exact D.str.inj e ▸ hs', fun h => List.mem_map_of_mem h⟩
   refine Br.dec (fun e2 => ?_) (fun e2 => ?_)
   ·dl_step
    exact ⟨w1, by rw [e1, decide_eq_true (hmem.mp e2)]; rfl⟩
   ·dl_step
    refine h_tpl w1.w ?_
    dl_step
    refine f_call3 F.Thin_tpl_fits fun Q' hQ => ?_
    dl_step
    exact ⟨w1, by rw [e1, decide_eq_false (fun h => e2 (hmem.mpr h))]; rfl⟩
theorem wt_other (F : Fns fns) {t o : Nat} {k : Int} (h : Lk R o k) (hk : k ≠ 3) (w : Wl x b R σ) : W (callF fns (n + 2) "without_templates" [.ref x.host, tI t, tI o] σ) fun v σ' => σ' = σ ∧ v = tI t := by
 refine f_call3 F.without_templates fun Q' hQ => ?_
 dl_step
 refine a_tab w ?_
 dl_step
 refine (kind_spec (n := n) F h w).m1 ?_
 dl_step
 refine Br.Tt (by rw [decide_eq_false hk]; rfl) ?_
 dl_step
 exact ⟨rfl, rfl⟩
theorem wt_text (F : Fns fns) {t o : Nat} {out : List Nat} {v : Nat → Bool} (h : Lk R o 3) (hP : Pts R t out) (hl : out.length ≤ 20) (hm : ∀ u ∈ out, Ms R u (v u)) (hk : Kept R (out.filter v)) (ha : Asc out) (w : Wl x (b + 1) R σ) : W (callF fns (n + 4) "without_templates" [.ref x.host, tI t, tI o] σ) fun r σ' => ∃ R' t', Wk x σ b R' σ' ∧ R <+: R' ∧ r = tI t' ∧ IsOut R' (out.filter v) t' := by
 refine f_call3 F.without_templates fun Q' hQ => ?_
 dl_step
 refine a_tab w ?_
 dl_step
 refine (kind_spec (n := n + 2) F h w).m1 ?_
 dl_step
 refine Br.F ?_
 dl_step
 refine a_tab w ?_
 dl_step
 refine (parts_spec (n := n + 2) F hP w).m1 ?_
 have w0 := Wk.start w
 refine t_seqT (big_of (by rw [List.length_map]; lia)) ?_
 refine comp_fil (g := tI) (p := v) (Wk x σ (b + 1) R ·) (fun _ _ => rfl) (fun a σ1 ha w1 => ?_) (fun σ1 w1 => ?_) w0
 ·refine c_turn rfl fun Q' hQ => ?_
  dl_step
  refine (may_spec (n := n + 1) F (hm a ha) w1.w).m2 fun σ2 w2 => ?_
  dl_step
  refine ⟨fun h => ?_, fun h => ?_⟩
  ·dl_step
   exact ⟨w1.next w2, by rw [h]; rfl⟩
  ·dl_step
   exact ⟨w1.next w2, by rw [h]; rfl⟩
 intro o2 σ2 p2
 have l2 := w1.lo p2
 have w2 := w1.new p2
 have hfl := List.length_filter_le v out
 dl_step
 refine a_tab w2.w ?_
 dl_step
 refine (union_of (n := n) F hk (List.Pairwise.filter v ha) (by lia) l2.2 (w.notmu l2.1) w2.w).m4 fun σ3 R' t' w3 h3 ht' => ?_
 dl_step
 exact ⟨R', t', w2.next w3, h3, rfl, ht'⟩
theorem IsOut.fn (hn : R.Nodup) {out : List Nat} {t t' : Nat} (h : IsOut R out t) (h' : IsOut R out t') : t = t' := by
 rcases h with ⟨a, c⟩ | a | ⟨a, c⟩ <;> rcases h' with ⟨a', c'⟩ | a' | ⟨a', c'⟩
 ·rw [c, c']
 ·rw [a] at a'; cases a'
 ·rw [a] at a'; simp at a'
 ·rw [a] at a'; cases a'
 ·rw [a] at a'; injection a'
 ·rw [a] at a'; simp at a'
 ·rw [a'] at a; simp at a
 ·rw [a'] at a; simp at a
 ·exact nodup_at hn c c'
theorem comp_two {c : Callee} {L : Loc} {ok : St → Bool} {e : Option CE} {p : Nat × Bool → Bool} {qs : List (Nat × Bool)} {Q : List D → St → Prop} (hok : ok σ = true)
  (hc : ∀ q ∈ qs, ∀ (Q : Bool → St → Prop), Q (p q) σ → W (evC c (("gone", .bool q.2) :: ("one", tI q.1) :: L) e σ) Q) (k : Q (((qs.filter p).map (·.1)).map tI) σ) : W (compGo ok (turn c L (.var "one") (.two "one" "gone") e) (qs.map encQ) [] σ) Q := by
 refine comp_fil (g := fun q : Nat × Bool => tI q.1) (p := p) (· = σ) (fun _ h => h ▸ hok) (fun a _ ha h => ?_) (fun _ h => ?_) rfl
 ·subst h
  exact c_turn rfl fun Q' hQ => hc a ha _ ⟨fun h => e_var rfl (hQ _ _ ⟨rfl, by rw [h]; rfl⟩), fun h => hQ _ _ ⟨rfl, by rw [h]; rfl⟩⟩
 ·rw [List.map_map] at k; exact h ▸ k
end

section
variable {fns : String → Option Fn} {n b : Nat} {σ σ' : St} {x : X} {R R' : List D} {nb wi ai pi ri : Nat}
noncomputable def text4b : List Str := [Str.ofString "a", Str.ofString "", Str.ofString "-xy", Str.ofString "1"]
theorem text4b_ok : (∀ s ∈ text4b, PyData.strOk s = true) ∧ PyData.strOk (Str.ofString "b") = true := by decide +kernel
theorem key1 (B : Base nb R) (a : Wd') (ha : a.val < 21) (h1 : kindA[a.val]'a.isLt = 1) : Lk R (atomTy nb a) 1 := by
 obtain ⟨rest, e, hl⟩ := rowA_kind nb a ha
 exact ⟨rest, by rw [B.atm a ha, e, h1], hl⟩
theorem two_texts (B : Base nb R) (hR : R <+: R') {ub t : Nat} (hb : R[ub]? = some (.tup [.int 3, S "b", .int 0])) (h : IsUn R [atomTy nb 3, ub] R' t) : Lk R' t 6 := by
 have hub : Lk R ub 3 := ⟨_, hb, Nat.le_of_ble_eq_true rfl⟩
 have ha : Lk R (atomTy nb 3) 3 := ⟨_, B.atm 3 (by decide), Nat.le_of_ble_eq_true rfl⟩
 have hne : atomTy nb 3 ≠ ub := by
  rintro rfl
  have := (B.atm 3 (by decide)).symm.trans hb
  have e : D.tup [.int 3, S "a", .int 0] = D.tup [.int 3, S "b", .int 0] := Option.some.inj this
  exact absurd e (by decide)
 have no1 : ∀ a : Wd', a.val < 21 → kindA[a.val]'a.isLt = 1 → ∀ u ∈ [atomTy nb 3, ub], u ≠ atomTy nb a := by
  intro a h1 h2 u hu e
  have h3 : Lk R u 3 := by
   simp only [List.mem_cons, List.not_mem_nil, or_false] at hu
   rcases hu with rfl | rfl
   ·exact ha
   ·exact hub
  have := h3.fn (e ▸ key1 B a h1 h2)
  cases this
 rcases h with ⟨u, hu, htu, -⟩ | ⟨-, out, -, hmem, hout⟩
 ·rcases htu with h | h | h
  ·exact absurd h (no1 17 (by decide) rfl u hu)
  ·exact absurd h (no1 19 (by decide) rfl u hu)
  ·exact absurd h (no1 18 (by decide) rfl u hu)
 have hin : ∀ u ∈ [atomTy nb 3, ub], u ∈ out := by
  intro u hu
  refine (hmem u).mpr ⟨hu, no1 20 (by decide) rfl u hu, fun q => no1 2 (by decide) rfl _ q.2 rfl, fun q => ?_⟩
  have h3 : Lk R u 3 := by
   simp only [List.mem_cons, List.not_mem_nil, or_false] at hu
   rcases hu with rfl | rfl
   ·exact ha
   ·exact hub
  have := h3.fn q.1
  cases this
 have i1 := hin (atomTy nb 3) (by simp)
 have i2 := hin ub (by simp)
 rcases hout with ⟨rfl, _⟩ | rfl | ⟨_, e⟩
 ·cases i1
 ·rw [List.mem_singleton] at i1 i2
  exact absurd (i1.trans i2.symm) hne
 ·exact ⟨_, e, by simp⟩

theorem spelt_spec (F : Fns fns) (B : Base nb R) (p : Wp x nb wi ai pi ri σ) (hn : 2 ≤ nb) (w : Wl x (b + 100) R σ) : W (callF fns (n + 5) "_law_spelt" [.ref x.d, .ref wi, .ref x.host] σ) fun v _ => v = .bool true := by
 have w0 := Wk.start w
 refine f_call3 F.law_spelt fun Q' hQ => ?_
 dl_step
 refine i_w p.w rfl rfl ?_
 dl_step
 refine (pieces_spec (n := n + 1) (b := b + 40) F B p hn w).mono ?_
 rintro _ σ1 ⟨R1, o, qs, w1, h1, rfl, l1, hq4, hqs⟩
 have B1 := B.pre h1
 refine x_assign (e_meth (e_var rfl (m_put w1.w (es_cons (e_tup (es_cons (e_lit (es_cons ?_))))))))
 refine pick_spec F (b := b + 39) (m := 4) (text4b.map D.str) (by decide) rfl (by decide) w1.w (by accj_flat) ?_
 intro q hq σ2 w2
 have l2 := l1.call w w2
 have w2 := w1.next w2
 have hq' : q < text4b.length := hq
 rw [List.getElem_map]
 have hs := text4b_ok.1 _ (List.getElem_mem hq')
 generalize text4b[q] = s at hs ⊢
 dl_step
 refine (take_spec F (m := 2) (by decide) (by decide) (w2.less (by exact le3 rfl : b + 38 + 1 ≤ _)).w).m3 fun σ3 q2 w3 hq2 => ?_
 have l3 := l2.call w w3
 have w3 := w2.next w3
 dl_step
 refine (put_spec (b := b + 37) F (isT (flatC (flatI _ _) (flatC (flatS hs _) (flatC (flatI _ _) rfl)))) w3.w).mono ?_
 rintro _ σ4 ⟨R4, ut, w4, rfl, h4, hut, -⟩
 have l4 := l3.call w w4
 have w4 := w3.next w4
 have p4 := p.keep w4
 have B4 := B1.pre h4
 dl_step
 refine i_w p4.w rfl rfl ?_
 dl_step
 refine i_atom (k := 16) p4 (by decide) ?_
 dl_step
 refine i_w p4.w rfl rfl ?_
 dl_step
 refine i_atom (k := 3) p4 (by decide) ?_
 dl_step
 refine m_put w4.w ?_
 dl_step
 refine (put_spec (b := b + 36) F (isT (flatC (flatI _ _) (flatC (flatS text4b_ok.2 _) (flatC (flatI _ _) rfl)))) w4.w).mono ?_
 rintro _ σ5 ⟨R5, ub, w5, rfl, h5, hub, -⟩
 have l5 := l4.call w w5
 have w5 := w4.next w5
 have B5 := B4.pre h5
 dl_step
 intro o6 σ6 p6
 have l56 := l5.new p6
 have l6 := w5.lo p6
 have w6 := w5.new p6
 dl_step
 have hkb : ∀ t ∈ [atomTy nb 3, ub], ∃ k, k ≠ 6 ∧ Lk R5 t k := by
  intro t ht
  simp only [List.mem_cons, List.not_mem_nil, or_false] at ht
  rcases ht with rfl | rfl
  ·exact ⟨3, by decide, _, B5.atm 3 (by decide), Nat.le_of_ble_eq_true rfl⟩
  ·exact ⟨3, by decide, _, hub, Nat.le_of_ble_eq_true rfl⟩
 refine (union_spec (n := n + 2) (b := b + 35) (ks := [atomTy nb 3, ub]) F hkb (Nat.le_of_ble_eq_true rfl) l6.2 (w.notmu l6.1) w6.w).m4 fun σ7 R7 ux w7 h7 hux => ?_
 have lkx := two_texts B5 h7 hub hux
 have l7 := l56.call w w7
 have w7 := w6.next w7
 dl_step
 intro o8 σ8 p8
 have l8 := l7.new p8
 have lo8 := w7.lo p8
 have w8 := w7.new p8
 have hqs8 : ∀ q ∈ qs, Pu R7 q.1 ∧ Ms R7 q.1 (!q.2) := fun q hq => ⟨(((hqs q hq).1.pre h4).pre h5).pre h7, (((hqs q hq).2.pre h4).pre h5).pre h7⟩
 have hbq : (qs.map encQ).length ≤ big := big_of (by rw [List.length_map]; lia)
 dl_step
 refine t_seqL l8.2 hbq ?_
 refine comp_two (p := fun _ => true) (still_list l8.2) (fun q _ Q h => eC_none h) ?_
 rw [List.filter_eq_self.mpr (fun _ _ => rfl)]
 intro o9 σ9 p9
 have l9 := l8.new p9
 have lo9 := lo8.new p9
 have lk9 := w8.lo p9
 have w9 := w8.new p9
 dl_step
 have hks : ∀ u ∈ qs.map (·.1), ∃ q ∈ qs, q.1 = u := fun u hu => by
  obtain ⟨q, hq, e⟩ := List.mem_map.mp hu; exact ⟨q, hq, e⟩
 refine (union_spec (n := n + 2) (b := b + 34) (ks := qs.map (·.1)) F (fun u hu => by obtain ⟨q, hq, rfl⟩ := hks u hu; exact (hqs8 q hq).1.lk) (by rw [List.length_map]; lia) lk9.2 (w.notmu lk9.1) w9.w).m4 fun σ10 R10 t w10 h10 ht => ?_
 have l10 := l9.call w w10
 have lo10 := lo9.call w w10
 have w10 := w9.next w10
 have notop : ∀ u ∈ qs.map (·.1), ¬ isTop u := fun u hu => by
  obtain ⟨q, hq, rfl⟩ := hks u hu
  obtain ⟨k, rest, e, hl, h6, h5, h2, htop, _⟩ := (hqs8 q hq).1
  exact htop
 rcases ht with ⟨u, hu, htu, _⟩ | ⟨_, out, hasc, hmem, hout⟩
 ·exact absurd htu (notop u hu)
 have B10 := (B5.pre h7).pre h10
 have hqs10 : ∀ q ∈ qs, Pu R10 q.1 ∧ Ms R10 q.1 (!q.2) := fun q hq => ⟨(hqs8 q hq).1.pre h10, (hqs8 q hq).2.pre h10⟩
 let v : Nat → Bool := fun u => qs.any fun q => decide (q.1 = u) && !q.2
 have hv : ∀ q ∈ qs, v q.1 = !q.2 := fun q hq => by
  show (qs.any fun q' => decide (q'.1 = q.1) && !q'.2) = !q.2
  cases e : q.2 with
  | false => exact List.any_eq_true.mpr ⟨q, hq, by rw [decide_eq_true rfl, e]; rfl⟩
  | true =>
   refine List.any_eq_false.mpr fun q' hq' h => ?_
   rw [Bool.and_eq_true, decide_eq_true_eq] at h
   have m1 := (hqs8 q hq).2
   have m2 := (hqs8 q' hq').2
   rw [h.1] at m2
   have := m1.fn m2
   rw [e, h.2] at this
   exact nof _ this
 have hout_mem : ∀ u ∈ out, ∃ q ∈ qs, q.1 = u := fun u hu => hks u ((hmem u).mp hu).1
 have hol : out.length ≤ 4 := by
  have hsub : out.length ≤ (qs.map (·.1)).length := (List.nodup_iff_pairwise_ne.mpr (hasc.imp fun h => Nat.ne_of_lt h)).length_le_of_subset fun u hu => ((hmem u).mp hu).1
  rw [List.length_map] at hsub; lia
 have hP : Pts R10 t out := by
  rcases hout with ⟨rfl, rfl⟩ | rfl | ⟨_, e⟩
  ·exact .inl ⟨rfl, rfl⟩
  ·obtain ⟨q, hq, e⟩ := hout_mem t (.head _)
   obtain ⟨k, rest, er, hl, h6, h5, h2, _⟩ := (hqs10 q hq).1
   rw [e] at er h2
   exact .inr (.inl ⟨h2, rfl, k, h6, rest, er, hl⟩)
  ·refine .inr (.inr ⟨?_, e⟩)
   rintro rfl
   have := (key1 B10 20 (by decide) rfl).fn ⟨_, e, by simp⟩
   cases this
 have hK : Kept R10 (out.filter v) := by
  intro u hu
  have hu := (List.mem_filter.mp hu).1
  obtain ⟨q, hq, rfl⟩ := hout_mem u hu
  obtain ⟨j, _, lk8⟩ := (hqs8 q hq).1.lk
  have hkeep := ((hmem _).mp hu).2
  have back : ∀ i, Lk R10 q.1 i → Lk R7 q.1 i := fun i h => lk8.back h10 h
  have hin : ∀ z, z ∈ out.filter v → z ∈ qs.map (·.1) := fun z hz => ((hmem z).mp (List.mem_filter.mp hz).1).1
  exact ⟨(hqs10 q hq).1, fun h h6 => hkeep.2.1 ⟨h.imp (back _) (back _), hin 6 h6⟩, fun h h7 => hkeep.2.2 ⟨back _ h, hin 7 h7⟩⟩
 have lkt : Lk R10 ut 3 := ⟨_, pre_at ((h5.trans h7).trans h10) hut, Nat.le_of_ble_eq_true rfl⟩
 dl_step
 refine (wt_text (n := n) (b := b + 33) (v := v) F lkt hP (by lia) (fun u hu => by obtain ⟨q, hq, rfl⟩ := hout_mem u hu; rw [hv q hq]; exact (hqs10 q hq).2) hK hasc w10.w).m4 fun σ11 R11 t2 w11 h11 ht2 => ?_
 have l11 := l10.call w w11
 have lo11 := lo10.call w w11
 have w11 := w10.next w11
 have hqs11 : ∀ q ∈ qs, Pu R11 q.1 ∧ Ms R11 q.1 (!q.2) := fun q hq => ⟨(hqs10 q hq).1.pre h11, (hqs10 q hq).2.pre h11⟩
 dl_step
 refine t_seqL l11.2 hbq ?_
 refine comp_two (p := fun q => !q.2) (still_list l11.2) (fun q _ Q h => ?_) ?_
 ·dl_step
  exact h
 intro o12 σ12 p12
 have l12 := l11.new p12
 have lo12 := lo11.new p12
 have lk12 := w11.lo p12
 have w12 := w11.new p12
 dl_step
 have hfl := List.length_filter_le (fun q : Nat × Bool => !q.2) qs
 have hks' : ∀ u ∈ (qs.filter fun q => !q.2).map (·.1), ∃ q ∈ qs, q.1 = u ∧ q.2 = false := fun u hu => by
  obtain ⟨q, hq, e⟩ := List.mem_map.mp hu
  have hq := List.mem_filter.mp hq
  exact ⟨q, hq.1, e, by have := hq.2; cases h : q.2 with | false => rfl | true => rw [h] at this; cases this⟩
 refine (union_spec (n := n + 2) (b := b + 32) (ks := (qs.filter fun q => !q.2).map (·.1)) F (fun u hu => by obtain ⟨q, hq, rfl, _⟩ := hks' u hu; exact (hqs11 q hq).1.lk) (by rw [List.length_map]; lia) lk12.2 (w.notmu lk12.1) w12.w).m4 fun σ13 R13 t3 w13 h13 ht3 => ?_
 have l13 := l12.call w w13
 have lo13 := lo12.call w w13
 have w13 := w12.next w13
 have heq : t2 = t3 := by
  rcases ht3 with ⟨u, hu, htu, _⟩ | ⟨_, out', hasc', hmem', hout'⟩
  ·obtain ⟨q, hq, rfl, _⟩ := hks' u hu
   exact absurd htu (notop _ (List.mem_map_of_mem hq))
  have keq : ∀ z, v z = true → (z ∈ (qs.filter fun q => !q.2).map (·.1) ↔ z ∈ qs.map (·.1)) := fun z hz => by
   constructor
   ·intro h; obtain ⟨q, hq, rfl, _⟩ := hks' z h; exact List.mem_map_of_mem hq
   ·intro h
    obtain ⟨q, hq, rfl⟩ := hks z h
    rw [hv q hq] at hz
    exact List.mem_map_of_mem (List.mem_filter.mpr ⟨hq, hz⟩)
  have lit : ∀ a : Wd', a.val < 16 → (atomTy nb a ∈ (qs.filter fun q => !q.2).map (·.1) ↔ atomTy nb a ∈ qs.map (·.1)) := fun a ha => by
   constructor
   ·intro h; obtain ⟨q, hq, e, _⟩ := hks' _ h; rw [← e]; exact List.mem_map_of_mem hq
   ·intro h
    refine (keq _ ?_).mpr h
    obtain ⟨q, hq, e⟩ := hks _ h
    rw [← e, hv q hq]
    have m1 := (hqs10 q hq).2
    rw [e] at m1
    exact m1.fn (Ms.atom B10 ha)
  have e6 := lit 2 (by decide)
  have e7 := lit 7 (by decide)
  have : out.filter v = out' := by
   refine asc_eq (List.Pairwise.filter v hasc) hasc' fun u => ?_
   rw [List.mem_filter, hmem, hmem']
   have hkk : ∀ q ∈ qs, q.1 = u → (keepU R7 (qs.map (·.1)) u ↔ keepU R11 ((qs.filter fun q => !q.2).map (·.1)) u) := fun q hq e => by
    subst e
    obtain ⟨j, _, lk8⟩ := (hqs8 q hq).1.lk
    have e : ∀ i, Lk R11 q.1 i ↔ Lk R7 q.1 i := fun i => ⟨fun h => lk8.back (h10.trans h11) h, fun h => h.pre (h10.trans h11)⟩
    unfold keepU
    rw [e, e, e, show (6 : Nat) = atomTy nb 2 from rfl, show (7 : Nat) = atomTy nb 7 from rfl, e6, e7]
   constructor
   ·rintro ⟨⟨a, c⟩, d⟩
    obtain ⟨q, hq, e⟩ := hks u a
    exact ⟨(keq u d).mpr a, (hkk q hq e).mp c⟩
   ·rintro ⟨a, c⟩
    obtain ⟨q, hq, e, e2⟩ := hks' u a
    have hvu : v u = true := by rw [← e, hv q hq, e2]; rfl
    exact ⟨⟨(keq u hvu).mp a, (hkk q hq e).mpr c⟩, hvu⟩
  rw [← this] at hout'
  exact (ht2.pre h13).fn w13.w.nodup hout'
 subst heq
 dl_step
 refine Br.Ff (by rw [decide_eq_true rfl]; rfl) ?_
 dl_step
 refine t_seqL l13.2 hbq ?_
 have hA0 : ∀ {L : Loc}, Ag ["one", "gone"] L L := .refl
 refine forGo_inv (fun ds L σ' => E0C5 (Wk x σ (b + 32) R13 σ') ((∀ d ∈ ds, ∃ q ∈ qs, d = encQ q)) (Lo σ σ' o (.list (qs.map encQ))) (Lo σ σ' o8 (.list [.int 6, .int 7, .int 4, tI (atomTy nb 16), tI ux])) (Ag ["one", "gone"] _ L)) ?_ ?_ ⟨w13, fun d hd => by obtain ⟨q, hq, e⟩ := List.mem_map.mp hd; exact ⟨q, hq, e.symm⟩, l13, lo13, hA0⟩
 ·rintro L σ14 ⟨w14, -, l14, lo14, hA⟩
  refine ⟨still_list l14.2, ?_⟩
  dl_step
  refine (take_spec F (m := 5) (by decide) (by decide) (w14.less (by lia : b + 1 ≤ _)).w).m3 fun σ15 q5 w15 hq5 => ?_
  have lo15 := lo14.call w w15
  have w15 := w14.next w15
  have B13 := B10.pre (h11.trans h13)
  have hkind : ∀ z ∈ [6, 7, 4, atomTy nb 16, ux], ∃ k, k ≠ 3 ∧ Lk R13 z k := by
   intro z hz
   simp only [List.mem_cons, List.not_mem_nil, or_false] at hz
   rcases hz with rfl | rfl | rfl | rfl | rfl
   ·exact ⟨1, by decide, key1 B13 2 (by decide) rfl⟩
   ·exact ⟨1, by decide, key1 B13 7 (by decide) rfl⟩
   ·exact ⟨1, by decide, key1 B13 1 (by decide) rfl⟩
   ·exact ⟨18, by decide, _, B13.atm 16 (by decide), Nat.le_of_ble_eq_true rfl⟩
   ·exact ⟨6, by decide, lkx.pre ((h10.trans h11).trans h13)⟩
  have hz := hkind _ (List.getElem_mem (l := [6, 7, 4, atomTy nb 16, ux]) (show q5 < [6, 7, 4, atomTy nb 16, ux].length from hq5))
  obtain ⟨kz, hkz, lkz⟩ := hz
  refine i_lst (d := tI ([6, 7, 4, atomTy nb 16, ux][q5]'hq5)) lo15.2 ⟨by lia, Nat.le_of_ble_eq_true rfl⟩ ?_ ?_
  ·rw [Int.toNat_natCast]
   show ([6, 7, 4, atomTy nb 16, ux].map tI)[q5]? = _
   rw [List.getElem?_map, List.getElem?_eq_getElem (show q5 < [6, 7, 4, atomTy nb 16, ux].length from hq5)]; rfl
  dl_step
  refine (wt_other (n := n + 2) F lkz hkz w15.w).m1 ?_
  dl_step
  rw [decide_eq_true rfl]
 ·rintro d ds L σ14 ⟨w14, hd, l14, lo14, hA⟩
  refine ⟨still_list l14.2, ?_⟩
  obtain ⟨q, hq, rfl⟩ := hd d (.head _)
  refine x_turn2 fun Q' hQ => ?_
  have hA := (hA.set (x := "one") (d := tI q.1) rfl).set (x := "gone") (d := .bool q.2) rfl
  have k1 : (setL "gone" (.bool q.2) (setL "one" (tI q.1) L)).lookup "one" = some (tI q.1) := lk_setne rfl lk_set
  have k2 : (setL "gone" (.bool q.2) (setL "one" (tI q.1) L)).lookup "gone" = some (.bool q.2) := lk_set
  generalize setL "gone" (.bool q.2) (setL "one" (tI q.1) L) = L1 at hA k1 k2 ⊢
  dl_step
  refine (may_spec (n := n + 2) F ((hqs11 q hq).2.pre h13) w14.w).m2 fun σ15 w15 => ?_
  have l15 := l14.call w w15
  have lo15 := lo14.call w w15
  have w15 := w14.next w15
  dl_step
  refine Br.Ff (by cases q.2 <;> rfl) ?_
  dl_step
  exact ⟨w15, fun d hd' => hd d (.tail _ hd'), l15, lo15, hA⟩
end

section
variable {fns : String → Option Fn} {n : Nat} {σ σ' σ'' : St} {i j : Nat} {o o' : Ob}
theorem New.oldAt (p : New σ o' j σ') (h : σ[i]? = some o) : σ'[i]? = some o := by obtain ⟨rfl, rfl⟩ := p; exact pushOld h
theorem New.atIt (p : New σ o j σ') : σ'[j]? = some o := by obtain ⟨rfl, rfl⟩ := p; exact pushAt
theorem Upd.oldAt (p : Upd σ j o' σ') (n : j ≠ i) (h : σ[i]? = some o) : σ'[i]? = some o := by cases p; exact setOld n h
theorem Upd.atIt (p : Upd σ j o' σ') (h : σ[j]? = some o) : σ'[j]? = some o' := by cases p; exact setAt h
theorem New.lenE (p : New σ o j σ') : j = σ.length ∧ σ'.length = σ.length + 1 := by obtain ⟨rfl, rfl⟩ := p; exact ⟨rfl, by simp⟩
theorem Upd.lenE (p : Upd σ j o σ') : σ'.length = σ.length := by cases p; simp
theorem New.lenK {N k : Nat} (p : New σ o j σ') (s : σ.length = N + k) : j = N + k ∧ σ'.length = N + (k + 1) := ⟨p.lenE.1.trans s, p.lenE.2.trans (congrArg (· + 1) s)⟩
theorem Upd.lenK {N k : Nat} (p : Upd σ j o σ') (s : σ.length = N + k) : σ'.length = N + k := p.lenE.trans s
theorem ne_lo {N t j k : Nat} (ht : t < N) (e : j = N + k) : j ≠ t := by lia
theorem ne_hi {N i j a b : Nat} (ea : a = N + i) (eb : b = N + j) (h : i ≠ j) : a ≠ b := by lia
theorem lt_hi {N i j a b : Nat} (ea : a = N + i) (eb : b = N + j) (h : i < j) : a < b := by lia
theorem two_hi {N k t r : Nat} (h2 : 2 ≤ t) (ht : t < N) (e : r = N + k) : 2 ≤ r := by lia
noncomputable def Fm (n i : Nat) (σ σ' : St) : Prop := ∀ j, j < n → j ≠ i → σ'[j]? = σ[j]?
theorem Fm.new {n i : Nat} (h : Fm n i σ σ') (p : New σ' o j σ'') (hn : n ≤ σ'.length) : Fm n i σ σ'' := fun k hk hi => by
 obtain ⟨rfl, rfl⟩ := p; rw [List.getElem?_append_left (by lia)]; exact h k hk hi
theorem Fm.upd {n i : Nat} (h : Fm n i σ σ') (p : Upd σ' j o σ'') (hn : j = i ∨ n ≤ j) : Fm n i σ σ'' := fun k hk hi => by
 cases p; rw [List.getElem?_set_ne (by lia)]; exact h k hk hi
theorem Fm.at {n i : Nat} (h : Fm n i σ σ') (hj : j < n) (hi : j ≠ i) (e : σ[j]? = some o) : σ'[j]? = some o := (h j hj hi).trans e
noncomputable def firstL : List D := [.tup [.int 1, S "any"], .tup [.int 1, S "unknown"], .tup [.int 1, S "never"], .tup [.int 1, S "void"], .tup [.int 1, S "undefined"], .tup [.int 1, S "null"], .tup [.int 1, S "string"], .tup [.int 1, S "number"], .tup [.int 2, .int 0, .int 0], .tup [.int 2, .int 1, .int 0], .tup [.int 1, S "object"],
 .tup [.int 8, .tup [], .tup [], .tup [], .tup [], .tup [], .int 0], .tup [.int 6, .tup [.int 8, .int 9]], .tup [.int 1, S "error"], .tup [.int 2, .int 0, .int 1], .tup [.int 2, .int 1, .int 1]]
theorem firstL_ok : firstL.Nodup ∧ (∀ r ∈ firstL, isTup r = true) := by decide +kernel

theorem host_init (F : Fns fns) {h t : Nat} (g : σ[h]? = some (.inst "BoundHost" [])) (h2 : 2 ≤ h) : W (callF fns (n + 1) "BoundHost.__init__" [.ref h, .ref t] σ) fun v σ' => v = .none ∧ σ.length = σ'.length ∧ Fm σ.length h σ σ' ∧
  σ'[h]? = some (.inst "BoundHost" [("tab", .ref t), ("deep", .int 0), ("most_rounds", .int 200), ("most_deep", .int 40), ("lib", .none)]) := by
 refine f_call2 F.BoundHost___init__ fun Q' hQ => ?_
 dl_step
 refine ⟨h, _, _, rfl, g, h2, Nat.le_of_ble_eq_true rfl, ?_⟩
 intro σ1 p1
 have g1 := p1.atIt g
 dl_step
 refine ⟨h, _, _, rfl, g1, h2, Nat.le_of_ble_eq_true rfl, ?_⟩
 intro σ2 p2
 have g2 := p2.atIt g1
 dl_step
 refine ⟨h, _, _, rfl, g2, h2, Nat.le_of_ble_eq_true rfl, ?_⟩
 intro σ3 p3
 have g3 := p3.atIt g2
 dl_step
 refine ⟨h, _, _, rfl, g3, h2, Nat.le_of_ble_eq_true rfl, ?_⟩
 intro σ4 p4
 have g4 := p4.atIt g3
 dl_step
 refine ⟨h, _, _, rfl, g4, h2, Nat.le_of_ble_eq_true rfl, ?_⟩
 intro σ5 p5
 have g5 := p5.atIt g4
 dl_step
 have f0 : Fm σ.length h σ σ := fun _ _ _ => rfl
 have e1 := p1.lenE; have e2 := p2.lenE; have e3 := p3.lenE; have e4 := p4.lenE; have e5 := p5.lenE
 exact ⟨rfl, by lia, ((((f0.upd p1 (.inl rfl)).upd p2 (.inl rfl)).upd p3 (.inl rfl)).upd p4 (.inl rfl)).upd p5 (.inl rfl), g5⟩

theorem tab_init (F : Fns fns) {t : Nat} (g : σ[t]? = some (.inst "TypeTable" [])) (h2 : 2 ≤ t) (ht : t < σ.length) : W (callF fns (n + 2) "TypeTable.__init__" [.ref t] σ) fun v σ' => v = .none ∧ σ.length ≤ σ'.length ∧ Fm σ.length t σ σ' ∧
  ∃ fs r ix bo de na, σ'[t]? = some (.inst "TypeTable" fs) ∧ (fs.lookup "rows" = some (.ref r) ∧ fs.lookup "index" = some (.ref ix) ∧ fs.lookup "bounds" = some (.ref bo) ∧ fs.lookup "defaults" = some (.ref de) ∧ fs.lookup "names" = some (.ref na) ∧ fs.lookup "put" = none) ∧
  σ'[r]? = some (.list firstL) ∧ σ'[ix]? = some (.dict (idxF 0 firstL)) ∧ σ'[bo]? = some (.list []) ∧ σ'[de]? = some (.list []) ∧ σ'[na]? = some (.list []) ∧ σ.length ≤ r ∧ r < ix ∧ ix < bo ∧ bo < de ∧ de < na := by
 refine f_call1 F.TypeTable___init__ fun Q' hQ => ?_
 dl_step
 intro r σ1 p1
 have e1 := p1.lenK (N := σ.length) (k := 0) rfl
 dl_step
 refine ⟨t, _, _, rfl, p1.oldAt g, h2, Nat.le_of_ble_eq_true rfl, ?_⟩
 intro σ2 p2
 have e2 := p2.lenK e1.2
 have g2 := p2.atIt (p1.oldAt g)
 dl_step
 refine ⟨⟨rfl, List.nodup_nil⟩, ?_⟩
 intro ix σ3 p3
 have e3 := p3.lenK e2
 dl_step
 refine ⟨t, _, _, rfl, p3.oldAt g2, h2, Nat.le_of_ble_eq_true rfl, ?_⟩
 intro σ4 p4
 have e4 := p4.lenK e3.2
 have g4 := p4.atIt (p3.oldAt g2)
 dl_step
 intro dc σ5 p5
 have e5 := p5.lenK e4
 dl_step
 refine ⟨t, _, _, rfl, p5.oldAt g4, h2, Nat.le_of_ble_eq_true rfl, ?_⟩
 intro σ6 p6
 have e6 := p6.lenK e5.2
 have g6 := p6.atIt (p5.oldAt g4)
 dl_step
 intro bo σ7 p7
 have e7 := p7.lenK e6
 dl_step
 refine ⟨t, _, _, rfl, p7.oldAt g6, h2, Nat.le_of_ble_eq_true rfl, ?_⟩
 intro σ8 p8
 have e8 := p8.lenK e7.2
 have g8 := p8.atIt (p7.oldAt g6)
 dl_step
 intro de σ9 p9
 have e9 := p9.lenK e8
 dl_step
 refine ⟨t, _, _, rfl, p9.oldAt g8, h2, Nat.le_of_ble_eq_true rfl, ?_⟩
 intro σa pa
 have ea := pa.lenK e9.2
 have ga := pa.atIt (p9.oldAt g8)
 dl_step
 intro na σb pb
 have eb := pb.lenK ea
 dl_step
 refine ⟨t, _, _, rfl, pb.oldAt ga, h2, Nat.le_of_ble_eq_true rfl, ?_⟩
 intro σc pc
 have ec := pc.lenK eb.2
 have gc := pc.atIt (pb.oldAt ga)
 dl_step
 refine ⟨⟨rfl, List.nodup_nil⟩, ?_⟩
 intro og σd pd
 have ed := pd.lenK ec
 dl_step
 refine ⟨t, _, _, rfl, pd.oldAt gc, h2, Nat.le_of_ble_eq_true rfl, ?_⟩
 intro σe pe
 have ee := pe.lenK ed.2
 have ge := pe.atIt (pd.oldAt gc)
 dl_step
 refine ⟨⟨rfl, List.nodup_nil⟩, ?_⟩
 intro rn σf pf
 have ef := pf.lenK ee
 dl_step
 refine ⟨t, _, _, rfl, pf.oldAt ge, h2, Nat.le_of_ble_eq_true rfl, ?_⟩
 intro σg pg
 have eg := pg.lenK ef.2
 have gg := pg.atIt (pf.oldAt ge)
 dl_step
 refine ⟨t, _, _, rfl, gg, h2, Nat.le_of_ble_eq_true rfl, ?_⟩
 intro σh ph
 have eh := ph.lenK eg
 have gh := ph.atIt gg
 dl_step
 refine ⟨t, _, _, rfl, gh, h2, Nat.le_of_ble_eq_true rfl, ?_⟩
 intro σi pi
 have ei := pi.lenK eh
 have gi := pi.atIt gh
 have f0 : Fm σ.length t σ σ := fun _ _ _ => rfl
 have f2 := (f0.new p1 (Nat.le_refl _)).upd p2 (.inl rfl)
 have f4 := (f2.new p3 (Nat.le.intro e2.symm)).upd p4 (.inl rfl)
 have f6 := (f4.new p5 (Nat.le.intro e4.symm)).upd p6 (.inl rfl)
 have f8 := (f6.new p7 (Nat.le.intro e6.symm)).upd p8 (.inl rfl)
 have fa := (f8.new p9 (Nat.le.intro e8.symm)).upd pa (.inl rfl)
 have fc := (fa.new pb (Nat.le.intro ea.symm)).upd pc (.inl rfl)
 have fe := (fc.new pd (Nat.le.intro ec.symm)).upd pe (.inl rfl)
 have fg := (fe.new pf (Nat.le.intro ee.symm)).upd pg (.inl rfl)
 have fi := (fg.upd ph (.inl rfl)).upd pi (.inl rfl)
 have tail : ∀ {j : Nat} {o : Ob}, j ≠ t → σc[j]? = some o → σi[j]? = some o := fun hj h =>
  pi.oldAt (Ne.symm hj) (ph.oldAt (Ne.symm hj) (pg.oldAt (Ne.symm hj) (pf.oldAt (pe.oldAt (Ne.symm hj) (pd.oldAt h)))))
 have nr := ne_lo ht e1.1
 have nix := ne_lo ht e3.1
 have nbo := ne_lo ht e7.1
 have nde := ne_lo ht e9.1
 have nna := ne_lo ht eb.1
 have hna : σi[na]? = some (.list []) := tail nna (pc.oldAt nna.symm pb.atIt)
 have hde : σi[de]? = some (.list []) := tail nde (pc.oldAt nde.symm (pb.oldAt (pa.oldAt nde.symm p9.atIt)))
 have hbo : σi[bo]? = some (.list []) := tail nbo (pc.oldAt nbo.symm (pb.oldAt (pa.oldAt nbo.symm (p9.oldAt (p8.oldAt nbo.symm p7.atIt)))))
 have mid8 : ∀ {j : Nat} {o : Ob}, j ≠ t → σ6[j]? = some o → σi[j]? = some o := fun hj h => tail hj (pc.oldAt (Ne.symm hj) (pb.oldAt (pa.oldAt (Ne.symm hj) (p9.oldAt (p8.oldAt (Ne.symm hj) (p7.oldAt h))))))
 have hix : σi[ix]? = some (.dict []) := mid8 nix (p6.oldAt nix.symm (p5.oldAt (p4.oldAt nix.symm p3.atIt)))
 have hr : σi[r]? = some (.list []) := mid8 nr (p6.oldAt nr.symm (p5.oldAt (p4.oldAt nr.symm (p3.oldAt (p2.oldAt nr.symm p1.atIt)))))
 have l1 := List.lookup "rows" (setL "putting" (D.int 0) (setL "shaping" (D.int 0) (setL "renamed" (D.ref rn) (setL "origins" (D.ref og) (setL "names" (D.ref na) (setL "defaults" (D.ref de) (setL "bounds" (D.ref bo) (setL "decls" (D.ref dc) (setL "index" (D.ref ix) (setL "rows" (D.ref r) []))))))))))
 clear l1
 have k1 : (setL "putting" (D.int 0) (setL "shaping" (D.int 0) (setL "renamed" (D.ref rn) (setL "origins" (D.ref og) (setL "names" (D.ref na) (setL "defaults" (D.ref de) (setL "bounds" (D.ref bo) (setL "decls" (D.ref dc) (setL "index" (D.ref ix) (setL "rows" (D.ref r) [])))))))))) = [("rows", D.ref r), ("index", D.ref ix), ("decls", D.ref dc), ("bounds", D.ref bo), ("defaults", D.ref de), ("names", D.ref na), ("origins", D.ref og), ("renamed", D.ref rn), ("shaping", D.int 0), ("putting", D.int 0)] := rfl
 rw [k1] at gi
 clear k1 gh gg ge gc ga g8 g6 g4 g2
 refine x_loop (e_lit (t_seqT (Nat.le_of_ble_eq_true rfl) ?_))
 refine forGo_inv (fun ds L σ' => E0C2 (L.lookup "self" = some (.ref t)) (E1C5 (fun done => done ++ ds = firstL) (fun done => σi.length = σ'.length) (fun done => (∀ j, j ≠ r → j ≠ ix → σ'[j]? = σi[j]?)) (fun done => σ'[r]? = some (.list done)) (fun done => σ'[ix]? = some (.dict (idxF 0 done))))) ?_ ?_ ⟨rfl, [], rfl, rfl, fun _ _ _ => rfl, hr, hix⟩
 ·rintro L σj ⟨-, done, h1, h2', h3, h4, h5⟩
  rw [List.append_nil] at h1; subst h1
  refine ⟨rfl, ?_⟩
  dl_step
  exact ⟨rfl, Nat.le.intro (ei.symm.trans h2'), fun j hj hne => (h3 j (ne_lo hj e1.1).symm (ne_lo hj e3.1).symm).trans (fi j hj hne), _, r, ix, bo, de, na, (h3 t nr.symm nix.symm).trans gi, ⟨rfl, rfl, rfl, rfl, rfl, rfl⟩, h4, h5, (h3 bo (ne_hi e7.1 e1.1 (by decide)) (ne_hi e7.1 e3.1 (by decide))).trans hbo, (h3 de (ne_hi e9.1 e1.1 (by decide)) (ne_hi e9.1 e3.1 (by decide))).trans hde, (h3 na (ne_hi eb.1 e1.1 (by decide)) (ne_hi eb.1 e3.1 (by decide))).trans hna, Nat.le.intro e1.1.symm, lt_hi e1.1 e3.1 (by decide), lt_hi e3.1 e7.1 (by decide), lt_hi e7.1 e9.1 (by decide), lt_hi e9.1 eb.1 (by decide)⟩
 ·rintro d ds L σj ⟨hL, done, h1, h2', h3, h4, h5⟩
  refine ⟨rfl, ?_⟩
  have hok : ∀ a ∈ done, isTup a = true := fun a ha => firstL_ok.2 a (by rw [← h1]; exact List.mem_append_left _ ha)
  have hd : isTup d = true := firstL_ok.2 d (by rw [← h1]; simp)
  have hnot : d ∉ done := by
   have := firstL_ok.1
   rw [← h1, List.nodup_append] at this
   exact fun h => this.2.2 d h d (.head _) rfl
  have hlen : done.length ≤ 16 := by
   have := congrArg List.length h1
   rw [List.length_append] at this
   have h16 : firstL.length = 16 := rfl
   lia
  refine x_turn1 fun Q' hQ => ?_
  have kself : (setL "row" d L).lookup "self" = some (.ref t) := lk_setne rfl hL
  have krow : (setL "row" d L).lookup "row" = some d := lk_set
  generalize setL "row" d L = L1 at kself krow ⊢
  have gt : σj[t]? = some _ := (h3 t nr.symm nix.symm).trans gi
  dl_step
  refine ⟨t, _, _, _, rfl, gt, rfl, rfl, ?_⟩
  dl_step
  refine (put_raw F gt rfl rfl h4 h5 (two_hi h2 ht e1.1) (two_hi h2 ht e3.1) (Nat.lt_of_le_of_lt hlen (by show 16 < 100000; decide)) hok hd).mono ?_
  rintro v σk (⟨hm, _⟩ | ⟨_, rfl, rfl⟩)
  ·exact absurd hm hnot
  ·refine ⟨rfl, ?_⟩
   dl_step
   refine ⟨kself, done ++ [d], by rw [List.append_assoc]; exact h1, by rw [List.length_set, List.length_set]; exact h2', fun j hj1 hj2 => ?_, ?_, ?_⟩
   ·rw [List.getElem?_set_ne (Ne.symm hj2), List.getElem?_set_ne (Ne.symm hj1)]; exact h3 j hj1 hj2
   ·exact setOld (ne_hi e3.1 e1.1 (by decide)) (setAt h4)
   ·exact setAt (setOld (ne_hi e1.1 e3.1 (by decide)) h5)
end

section
variable {fns : String → Option Fn} {n b : Nat} {σ σ' σ'' : St} {x : X} {R : List D} {i j de na : Nat} {o o' : Ob}
theorem Wl.updO (w : Wl x b R σ) (p : Upd σ j o σ') (h : j ≠ x.d ∧ j ≠ x.nums ∧ j ≠ x.tab ∧ j ≠ x.rows ∧ j ≠ x.index ∧ j ≠ x.host) : Wl x b R σ' := by
 cases p
 obtain ⟨a, e, la⟩ := w.d
 obtain ⟨l', e1', la1⟩ := w.nums
 obtain ⟨fs', e2', la2⟩ := w.tab
 obtain ⟨gs', e3', la3⟩ := w.host
 obtain ⟨h1, h2, h3, h4, h5, h6⟩ := h
 exact ⟨⟨a, setOld h1 e, la⟩, ⟨l', setOld h2 e1', la1⟩, setOld h4 w.rows, setOld h5 w.index, ⟨fs', setOld h3 e2', la2⟩, ⟨gs', setOld h6 e3', la3⟩, w.size, w.nodup, w.flat, w.ge, w.ne⟩
noncomputable def Apart (x : X) (j : Nat) : Prop := j ≠ x.d ∧ j ≠ x.nums ∧ j ≠ x.tab ∧ j ≠ x.rows ∧ j ≠ x.index ∧ j ≠ x.host
theorem Apart.nmu (h : Apart x j) : ¬ x.mu j := by
 obtain ⟨h1, h2, h3, h4, h5, h6⟩ := h
 rintro (e | e | e)
 ·exact h1 e
 ·exact h4 e
 ·exact h5 e
noncomputable def Fr2 (x : X) (de na : Nat) (σ σ' : St) : Prop := σ.length ≤ σ'.length ∧ ∀ j, j < σ.length → ¬ x.mu j → j ≠ x.bounds → j ≠ de → j ≠ na → σ'[j]? = σ[j]?
theorem Fr2.trans (h : Fr2 x de na σ σ') (k : Fr2 x de na σ' σ'') : Fr2 x de na σ σ'' := ⟨Nat.le_trans h.1 k.1, fun j a b c d e => (k.2 j (Nat.lt_of_lt_of_le a h.1) b c d e).trans (h.2 j a b c d e)⟩
theorem Fr2.at (h : Fr2 x de na σ σ') (e : σ[j]? = some o) (b : ¬ x.mu j) (c : j ≠ x.bounds) (d : j ≠ de) (f : j ≠ na) : σ'[j]? = some o := (h.2 j (at_lt e) b c d f).trans e
structure Tl (x : X) (de na : Nat) (bs ds ns : List D) (σ : St) : Prop where
 tab : ∃ fs, σ[x.tab]? = some (.inst "TypeTable" fs) ∧ fs.lookup "bounds" = some (.ref x.bounds) ∧ fs.lookup "defaults" = some (.ref de) ∧ fs.lookup "names" = some (.ref na) ∧ fs.lookup "put" = none
 bounds : σ[x.bounds]? = some (.list bs)
 des : σ[de]? = some (.list ds)
 nas : σ[na]? = some (.list ns)
 ab : Apart x x.bounds
 ad : Apart x de
 an : Apart x na
 ne : x.bounds ≠ de ∧ x.bounds ≠ na ∧ de ≠ na
 ge : 2 ≤ x.bounds ∧ 2 ≤ de ∧ 2 ≤ na
noncomputable def prow (i : Nat) : D := .tup [.int 10, tI i]
theorem newparam_spec (F : Fns fns) {bs ds ns : List D} {s : Str} (h : Tl x de na bs ds ns σ) (l1 : bs.length ≤ 100) (l2 : ds.length ≤ 100) (l3 : ns.length ≤ 100) (hR : prow bs.length ∉ R) (w : Wl x (b + 1) R σ) :
  W (callF fns (n + 2) "new_param" [.ref x.tab, .str s] σ) fun v σ' => v = tI R.length ∧ Wl x b (R ++ [prow bs.length]) σ' ∧ Tl x de na (bs ++ [.int (-1)]) (ds ++ [.int (-1)]) (ns ++ [.str s]) σ' ∧ Fr2 x de na σ σ' := by
 obtain ⟨⟨fs, gt, lb, ld, ln, lp⟩, hb, hd, hn, ab, ad, an, ⟨n1, n2, n3⟩, g2⟩ := h
 refine f_call' F.new_param rfl fun Q' hQ => ?_
 dl_step
 refine ⟨_, _, _, _, rfl, gt, lb, ?_⟩
 refine len_lst hb (big_of (by lia)) ?_
 dl_step
 refine ⟨_, _, _, _, rfl, gt, lb, _, _, rfl, g2.1, hb, ?_⟩
 dl_step
 refine ⟨_, hb, big_of (by lia), ?_⟩
 intro σ1 p1
 refine ⟨rfl, ?_⟩
 have w1 := w.updO p1 ab
 have gt1 := p1.oldAt ab.2.2.1 gt
 have hb1 := p1.atIt hb
 have hd1 := p1.oldAt n1 hd
 have hn1 := p1.oldAt n2 hn
 dl_step
 refine ⟨_, _, _, _, rfl, gt1, ld, _, _, rfl, g2.2.1, hd1, ?_⟩
 dl_step
 refine ⟨_, hd1, big_of (by lia), ?_⟩
 intro σ2 p2
 refine ⟨rfl, ?_⟩
 have w2 := w1.updO p2 ad
 have gt2 := p2.oldAt ad.2.2.1 gt1
 have hb2 := p2.oldAt n1.symm hb1
 have hd2 := p2.atIt hd1
 have hn2 := p2.oldAt n3 hn1
 dl_step
 refine ⟨_, _, _, _, rfl, gt2, ln, _, _, rfl, g2.2.2, hn2, ?_⟩
 dl_step
 refine ⟨_, hn2, big_of (by lia), ?_⟩
 intro σ3 p3
 refine ⟨rfl, ?_⟩
 have w3 := w2.updO p3 an
 have gt3 := p3.oldAt an.2.2.1 gt2
 have hb3 := p3.oldAt n2.symm hb2
 have hd3 := p3.oldAt n3.symm hd2
 have hn3 := p3.atIt hn2
 dl_step
 refine m_put w3 ?_
 dl_step
 refine (put_spec (b := b) F (by rfl) w3).mono ?_
 rintro v σ4 ⟨R', t, w4, rfl, hpre, hu, ht, hR'⟩
 have hR : D.tup [.int 10, .int bs.length] ∉ R := hR
 rw [if_neg hR] at hR'
 subst hR'
 have := ht hR
 subst this
 dl_step
 refine ⟨rfl, w4.w, ⟨⟨fs, w4.at ?_ gt3, lb, ld, ln, lp⟩, w4.at ab.nmu hb3, w4.at ad.nmu hd3, w4.at an.nmu hn3, ab, ad, an, ⟨n1, n2, n3⟩, g2⟩, ?_⟩
 ·exact w3.ne2.2.2.1
 ·refine ⟨by have := w4.len; have := p1.lenE; have := p2.lenE; have := p3.lenE; lia, fun k hk m c d e => ?_⟩
  have hk3 : k < σ3.length := by have := p1.lenE; have := p2.lenE; have := p3.lenE; lia
  rw [w4.k.2 k hk3 m]
  cases p1; cases p2; cases p3
  rw [List.getElem?_set_ne (Ne.symm e), List.getElem?_set_ne (Ne.symm d), List.getElem?_set_ne (Ne.symm c)]
end

noncomputable def hdK : D → Int
 | .tup (.int k :: _) => k
 | _ => 0
noncomputable def rowsP (m : Nat) : List D := firstL ++ (List.range m).map prow
theorem rowsP_len {m : Nat} : (rowsP m).length = 16 + m := by rw [rowsP, List.length_append, List.length_map, List.length_range]; rfl
theorem rowsP_not {m : Nat} {r : D} (h : r ∉ firstL) (h' : hdK r ≠ 10) : r ∉ rowsP m := by
 rw [rowsP, List.mem_append]
 rintro (k | k)
 ·exact h k
 ·obtain ⟨i, _, rfl⟩ := List.mem_map.mp k; exact h' rfl
theorem hd_not {l : List D} {r : D} (h : (l.map hdK).contains (hdK r) = false) : r ∉ l := fun k => by
 have : (l.map hdK).contains (hdK r) = true := List.contains_iff_mem.mpr (List.mem_map_of_mem k)
 rw [h] at this; exact nof _ this
theorem prow_not {m : Nat} : prow m ∉ rowsP m := by
 rw [rowsP, List.mem_append]
 rintro (k | k)
 ·exact hd_not rfl k
 ·obtain ⟨i, hi, e⟩ := List.mem_map.mp k
  have hi := List.mem_range.mp hi
  unfold prow at e
  simp only [D.tup.injEq, List.cons.injEq, true_and, and_true] at e
  have := tI_inj e
  lia
theorem rowsP_succ {m : Nat} : rowsP m ++ [prow m] = rowsP (m + 1) := by
 rw [rowsP, rowsP, List.range_succ, List.map_append, List.append_assoc]; rfl
theorem strT : ∀ i : Fin 20, (Str.ofString "T").length + (Str.ofString (toString ((i.val : Nat) : Int))).length ≤ 1000 := by decide +kernel
section
variable {fns : String → Option Fn} {n b : Nat} {σ σ' : St} {x : X} {R : List D} {de na : Nat}
theorem name_str {c : Callee} {L : Loc} {σ : St} {i : Nat} {Q : D → St → Prop} (hi : i < 20) (hL : L.lookup "place" = some (.int i)) (h : ∀ s, Q (.str s) σ) : W (ev c L (.bin .add (.lit (S "T")) (.bi .str (.var "place"))) σ) Q := by
 have e1 : bi .str (.int (i : Int)) σ = some (.str (Str.ofString (toString ((i : Nat) : Int))), σ) := gd_pos (by lia)
 have e2 : bin .add (S "T") (.str (Str.ofString (toString ((i : Nat) : Int)))) σ = some (.str (Str.ofString "T" ++ Str.ofString (toString ((i : Nat) : Int))), σ) := gd_pos (big_of (strT ⟨i, hi⟩))
 exact e_step (e := .bin .add _ _) (e_p .lit (e_step (e := .bi .str _) (e_p (.var hL) (.eqn e1 (.ret (.eqn e2 (.ret (h _))))))))
theorem params_spec (F : Fns fns) {nb bl : Nat} {L : Loc} {Q : D → St → Prop} (hb : nb ≤ 19) (hw : L.lookup "tab" = some (.ref x.tab)) (h : Tl x de na [] [] [] σ) (w : Wl x (b + 20) firstL σ)
  (k : ∀ σ' bs ds ns, Wl x b (rowsP nb) σ' → Tl x de na bs ds ns σ' → bs = List.replicate nb (.int (-1)) → Fr2 x de na σ σ' → Wn σ' (.list (((List.range nb).map fun i => 16 + i).map tI)) Q) :
  W (compGo (fun σ => stillR true σ (((List.range nb).map fun (i : Nat) => D.int (i : Int))) (.int bl)) (turn (callF fns (n + 2)) L (.call "new_param" [.var "tab", .bin .add (.lit (S "T")) (.bi .str (.var "place"))]) (.one "place") none) ((List.range nb).map fun (i : Nat) => D.int (i : Int)) [] σ) fun ys σ' => Wn σ' (.list ys) Q := by
 refine compGo_range (fun j acc σ' => E3C7 (fun bs ds' ns => acc = ((List.range j).map fun i => 16 + i).map tI) (fun bs ds' ns => Wl x (b + (20 - j)) (rowsP j) σ') (fun bs ds' ns => Tl x de na bs ds' ns σ') (fun bs ds' ns => bs = List.replicate j (.int (-1))) (fun bs ds' ns => ds'.length = j) (fun bs ds' ns => ns.length = j) (fun bs ds' ns => Fr2 x de na σ σ')) (fun _ => rfl) ?_ ?_ ⟨[], [], [], rfl, w.less (by lia), h, rfl, rfl, rfl, Nat.le_refl _, fun _ _ _ _ _ _ => rfl⟩
 ·rintro acc σ1 ⟨bs, ds', ns, rfl, w1, h1, h2, h3, h4, h5⟩
  exact k σ1 bs ds' ns (w1.less (by lia)) h1 h2 h5
 ·rintro j acc σ1 hj ⟨bs, ds', ns, rfl, w1, h1, h2, h3, h4, h5⟩
  have hbl : bs.length = j := by rw [h2, List.length_replicate]
  refine c_turn1 rfl fun Q' hQ => ?_
  refine e_call (es_cons (e_var (lk_there rfl hw) (es_cons (name_str (by lia) rfl fun s => es_nil ?_))))
  refine (newparam_spec (n := n) (b := b + (20 - (j + 1))) F h1 (by lia) (by lia) (by lia) (by rw [hbl]; exact prow_not) (w1.less (bud1 (Nat.lt_of_lt_of_le hj (Nat.le_trans hb (by decide)))))).mono ?_
  rintro _ σ2 ⟨rfl, w2, t2, f2⟩
  rw [hbl, rowsP_succ] at w2
  dl_step
  refine ⟨_, _, _, ?_, w2, t2, ?_, by rw [List.length_append, h3]; rfl, by rw [List.length_append, h4]; rfl, h5.trans f2⟩
  ·rw [rowsP_len, List.range_succ, List.map_append, List.map_append]; rfl
  ·rw [h2, List.replicate_succ']

noncomputable def nine (nb : Nat) : List D := [.tup [.int 8, .tup [.tup [S "a", .int 3, .int 0, .int 0]], .tup [], .tup [], .tup [], .tup [], .int 0], .tup [.int 3, S "a", .int 0], .tup [.int 4, .int 3, .int 0], .tup [.int 11, .int 3, .int 0],
 .tup [.int 13, .tup [], .tup [], .int 3, .tup [], .int 0], .tup [.int 18, .tup [S "x", S ""], .tup [.int 6]], .tup [.int 15, tI (16 + nb), .int 6], .tup [.int 14, tI (16 + nb)], .tup [.int 16, .int 6, .int 7, .int 3, .int 3, .tup [], .int 0]]
theorem nine_not {nb : Nat} : ∀ j (h : j < (nine nb).length), (nine nb)[j] ∉ firstL ∧ hdK (nine nb)[j] ≠ 10 ∧ (nine nb)[j] ∉ (nine nb).take j ∧ isTup (nine nb)[j] = true
 | 0, _ => ⟨by show D.tup _ ∉ _; decide, by show (8 : Int) ≠ 10; decide, by show _ ∉ []; simp, by show isTup (D.tup _) = true; decide +kernel⟩
 | 1, _ => ⟨hd_not rfl, by show (3 : Int) ≠ 10; decide, hd_not rfl, by show isTup (D.tup _) = true; decide +kernel⟩
 | 2, _ => ⟨hd_not rfl, by show (4 : Int) ≠ 10; decide, hd_not rfl, rfl⟩
 | 3, _ => ⟨hd_not rfl, by show (11 : Int) ≠ 10; decide, hd_not rfl, rfl⟩
 | 4, _ => ⟨hd_not rfl, by show (13 : Int) ≠ 10; decide, hd_not rfl, rfl⟩
 | 5, _ => ⟨hd_not rfl, by show (18 : Int) ≠ 10; decide, hd_not rfl, by show isTup (D.tup _) = true; decide +kernel⟩
 | 6, _ => ⟨hd_not rfl, by show (15 : Int) ≠ 10; decide, hd_not rfl, rfl⟩
 | 7, _ => ⟨hd_not rfl, by show (14 : Int) ≠ 10; decide, hd_not rfl, rfl⟩
 | 8, _ => ⟨hd_not rfl, by show (16 : Int) ≠ 10; decide, hd_not rfl, rfl⟩
 | j + 9, h => absurd h (by show ¬ j + 9 < 9; lia)
theorem nine_put (F : Fns fns) {nb j : Nat} {r : D} (hj : (nine nb)[j]? = some r) (w : Wl x (b + 1) (rowsP nb ++ (nine nb).take j) σ) : W (callF fns (n + 1) "TypeTable.put" [.ref x.tab, r] σ) fun v σ' => v = tI (16 + nb + j) ∧ Wk x σ b (rowsP nb ++ (nine nb).take (j + 1)) σ' := by
 obtain ⟨hlt, rfl⟩ := List.getElem?_eq_some_iff.mp hj
 obtain ⟨h1, h2, h3, h4⟩ := nine_not (nb := nb) j hlt
 have hno : (nine nb)[j] ∉ rowsP nb ++ (nine nb).take j := by
  rw [List.mem_append]
  rintro (k | k)
  ·exact rowsP_not h1 h2 k
  ·exact h3 k
 refine (put_spec (b := b) F h4 w).mono ?_
 rintro v σ' ⟨R', t, w', rfl, _, _, ht, hR'⟩
 rw [if_neg hno] at hR'
 subst hR'
 have := ht hno
 subst this
 refine ⟨?_, ?_⟩
 ·rw [List.length_append, rowsP_len, List.length_take, Nat.min_eq_left (Nat.le_of_lt hlt)]
 ·rw [List.take_succ_eq_append_getElem hlt, ← List.append_assoc]; exact w'
end

noncomputable def rows9 (nb : Nat) : List D := rowsP nb ++ nine nb
theorem first_pre {nb : Nat} : firstL <+: rows9 nb := ⟨_, (List.append_assoc _ _ _).symm⟩
theorem nine_at {nb j : Nat} {r : D} (h : (nine nb)[j]? = some r) : (rows9 nb)[16 + nb + j]? = some r := by
 rw [rows9, List.getElem?_append_right (by rw [rowsP_len]; lia), rowsP_len, Nat.add_sub_cancel_left]; exact h
theorem base9 {nb : Nat} : Base nb (rows9 nb) := by
 refine ⟨fun i hi => ?_, fun k hk => ?_, ⟨[.int 0, .int 0], pre_at first_pre rfl, by decide⟩, ⟨[.int 0, .int 1], pre_at first_pre rfl, by decide⟩⟩
 ·rw [rows9, List.getElem?_append_left (by rw [rowsP_len]; lia), rowsP, List.getElem?_append_right (by show 16 ≤ _; lia)]
  rw [show 16 + i - firstL.length = i from Nat.add_sub_cancel_left 16 i, range_get hi]; rfl
 ·have n9 : ∀ {j c : Nat} {r : D}, c = 16 + nb + j → (nine nb)[j]? = some r → (rows9 nb)[c]? = some r := fun e h => by rw [e]; exact nine_at h
  match k, hk with
  | ⟨0, _⟩, _ => exact pre_at first_pre rfl
  | ⟨1, _⟩, _ => exact pre_at first_pre rfl
  | ⟨2, _⟩, _ => exact pre_at first_pre rfl
  | ⟨3, _⟩, _ => exact n9 (j := 1) (c := 17 + nb) (by lia) rfl
  | ⟨4, _⟩, _ => exact n9 (j := 6) (c := 22 + nb) (by lia) rfl
  | ⟨5, _⟩, _ => exact pre_at first_pre rfl
  | ⟨6, _⟩, _ => exact n9 (j := 0) (c := 16 + nb) (by lia) rfl
  | ⟨7, _⟩, _ => exact pre_at first_pre rfl
  | ⟨8, _⟩, _ => exact n9 (j := 8) (c := 24 + nb) (by lia) rfl
  | ⟨9, _⟩, _ => exact n9 (j := 2) (c := 18 + nb) (by lia) rfl
  | ⟨10, _⟩, _ => exact n9 (j := 7) (c := 23 + nb) (by lia) rfl
  | ⟨11, _⟩, _ => exact pre_at first_pre rfl
  | ⟨12, _⟩, _ => exact pre_at first_pre rfl
  | ⟨13, _⟩, _ => exact pre_at first_pre rfl
  | ⟨14, _⟩, _ => exact n9 (j := 3) (c := 19 + nb) (by lia) rfl
  | ⟨15, _⟩, _ => exact n9 (j := 4) (c := 20 + nb) (by lia) rfl
  | ⟨16, _⟩, _ => exact n9 (j := 5) (c := 21 + nb) (by lia) rfl
  | ⟨17, _⟩, _ => exact pre_at first_pre rfl
  | ⟨18, _⟩, _ => exact pre_at first_pre rfl
  | ⟨19, _⟩, _ => exact pre_at first_pre rfl
  | ⟨20, _⟩, _ => exact pre_at first_pre rfl
  | ⟨k + 21, _⟩, h => exact absurd h (by show ¬ k + 21 < 21; lia)
noncomputable def atomKs : List Str := [Str.ofString "void", Str.ofString "undefined", Str.ofString "null", Str.ofString "string", Str.ofString "number", Str.ofString "true", Str.ofString "object", Str.ofString "{}", Str.ofString "any", Str.ofString "unknown", Str.ofString "error", Str.ofString "never", Str.ofString "shape", Str.ofString "text", Str.ofString "three", Str.ofString "list", Str.ofString "func", Str.ofString "template", Str.ofString "T[K]", Str.ofString "keys", Str.ofString "question"]
theorem atomKs_nd : atomKs.Nodup := by decide +kernel
section
variable {fns : String → Option Fn} {n b : Nat} {σ σ' : St} {x : X} {R : List D} {nb : Nat}
theorem atoms_spec (F : Fns fns) (w : Wl x (b + 9) (rowsP nb) σ) : W (callF fns (n + 2) "_law_atoms" [.ref x.tab] σ) fun v σ' => Wk x σ b (rows9 nb) σ' ∧ ∃ ai, v = .ref ai ∧ Lo σ σ' ai (.dict (atomsD nb)) := by
 have w0 : Wl x (b + 9) (rowsP nb ++ (nine nb).take 0) σ := by rw [List.take_zero, List.append_nil]; exact w
 refine f_call1 F.law_atoms fun Q' hQ => ?_
 dl_step
 refine m_put w ?_
 dl_step
 refine (nine_put (n := n) (b := b + 8) (j := 0) F rfl w0).mono ?_
 rintro _ σ1 ⟨rfl, w1⟩
 dl_step
 refine m_put w1.w ?_
 dl_step
 refine (nine_put (n := n) (b := b + 7) (j := 1) F rfl w1.w).mono ?_
 rintro _ σ2 ⟨rfl, w2⟩
 have w2 := w1.next w2
 dl_step
 refine m_put w2.w ?_
 dl_step
 refine (nine_put (n := n) (b := b + 6) (j := 2) F rfl w2.w).mono ?_
 rintro _ σ3 ⟨rfl, w3⟩
 have w3 := w2.next w3
 dl_step
 refine m_put w3.w ?_
 dl_step
 refine (nine_put (n := n) (b := b + 5) (j := 3) F rfl w3.w).mono ?_
 rintro _ σ4 ⟨rfl, w4⟩
 have w4 := w3.next w4
 dl_step
 refine m_put w4.w ?_
 dl_step
 refine (nine_put (n := n) (b := b + 4) (j := 4) F rfl w4.w).mono ?_
 rintro _ σ5 ⟨rfl, w5⟩
 have w5 := w4.next w5
 dl_step
 refine m_put w5.w ?_
 dl_step
 refine (nine_put (n := n) (b := b + 3) (j := 5) F rfl w5.w).mono ?_
 rintro _ σ6 ⟨rfl, w6⟩
 have w6 := w5.next w6
 dl_step
 refine m_put w6.w ?_
 dl_step
 refine (nine_put (n := n) (b := b + 2) (j := 6) F rfl w6.w).mono ?_
 rintro _ σ7 ⟨rfl, w7⟩
 have w7 := w6.next w7
 dl_step
 refine m_put w7.w ?_
 dl_step
 refine (nine_put (n := n) (b := b + 1) (j := 7) F rfl w7.w).mono ?_
 rintro _ σ8 ⟨rfl, w8⟩
 have w8 := w7.next w8
 dl_step
 refine m_put w8.w ?_
 dl_step
 refine (nine_put (n := n) (b := b + 0) (j := 8) F rfl w8.w).mono ?_
 rintro _ σ9 ⟨rfl, w9⟩
 have w9 := w8.next w9
 dl_step
 refine ⟨⟨rfl, atomKs_nd⟩, ?_⟩
 intro ai σa pa
 dl_step
 have e : (nine nb).take 9 = nine nb := rfl
 rw [e] at w9
 have la := w9.lo pa
 have e1 : ∀ j : Nat, 16 + nb + j = (16 + j) + nb := fun j => by lia
 rw [e1, e1, e1, e1, e1, e1, e1, e1, e1] at la
 exact ⟨w9.new pa, ai, rfl, la⟩
end

section
variable {nb : Nat} {R : List D} {Bs : List (Option Tm)} {bs : List Int}
theorem kind_ne (B : Base nb R) {t i : Nat} {k : Int} (hk : Lk R t k) (h1 : k ≠ 1) (h10 : k ≠ 10) (hi : i < nb) : t ≠ 16 + i ∧ t ≠ 0 ∧ t ≠ 1 ∧ t ≠ 13 ∧ t ≠ 2 := by
 have no1 : ∀ a : Wd', a.val < 21 → kindA[a.val]'a.isLt = 1 → t ≠ atomTy nb a := fun a ha h e => h1 (hk.fn (e ▸ key1 B a ha h))
 exact ⟨fun e => h10 (hk.fn (e ▸ ⟨_, B.par i hi, by simp⟩)), no1 17 (by decide) rfl, no1 18 (by decide) rfl, no1 19 (by decide) rfl, no1 20 (by decide) rfl⟩
theorem not_lone (B : Base nb R) {t : Tm} {i ty : Nat} (hi : i < nb) (ho : okB nb (some t)) (hl : loneO i (some t) = false) (ht : TyT nb false R t ty) : ty ≠ 16 + i ∧ ty ≠ 0 ∧ ty ≠ 1 ∧ ty ≠ 13 ∧ ty ≠ 2 := by
 cases t with
 | tp p =>
  cases p with
  | lf l =>
   have e : ty = leafTy nb l := ht
   subst e
   cases l with
   | a k => have h : k = 0 := ho; subst h; show (3 : Nat) ≠ 16 + i ∧ (3 : Nat) ≠ 0 ∧ (3 : Nat) ≠ 1 ∧ (3 : Nat) ≠ 13 ∧ (3 : Nat) ≠ 2; lia
   | p j =>
    have h : decide (j = i) = false := hl
    have h := of_decide_eq_false h
    show 16 + j ≠ 16 + i ∧ 16 + j ≠ 0 ∧ 16 + j ≠ 1 ∧ 16 + j ≠ 13 ∧ 16 + j ≠ 2
    lia
  | m ls => exact kind_ne B (k := 7) ⟨_, ht, by simp⟩ (by decide) (by decide) hi
 | u ts =>
  have hl : ts.any topP = false := hl
  obtain ⟨ks, hF, hU⟩ := ht
  obtain ⟨hok, ⟨k0, hk0⟩, _⟩ := ho
  have notop : ∀ v ∈ ks, ¬ isTop v := fun v hv hT => by
   obtain ⟨p, hp, tp⟩ := hF.right v hv
   have := List.any_eq_true.mpr ⟨p, hp, (top_leaf B (hok p hp).1 tp).mp hT⟩
   rw [hl] at this; exact nof _ this
  rcases hU with ⟨u, hu, htu, _⟩ | ⟨_, out, hasc, hmem, hout⟩
  ·exact absurd htu (notop u hu)
  -- an atom stays
  have atom_in : ∀ a : Wd', Tp.lf (.a a) ∈ ts → atomTy nb a ∈ ks := fun a ha => by
   obtain ⟨v, hv, e⟩ := hF.left _ ha
   have e : v = atomTy nb a := e
   rw [← e]; exact hv
  have keep1 : ∀ a : Wd', a.val < 20 → kindA[a.val]'a.isLt = 1 → atomTy nb a ∈ ks → atomTy nb a ∈ out := fun a ha h1 hin => by
   have k1 := key1 B a (by lia) h1
   refine (hmem _).mpr ⟨hin, ?_, fun q => q.1.elim (fun e => by have := e.fn k1; lia) (fun e => by have := e.fn k1; lia), fun q => by have := q.1.fn k1; lia⟩
   rw [Ne, atom_eq (by decide)]
   have : ∀ a : Wd', a.val < 20 → codes[a.val]'a.isLt ≠ 2 := by decide
   exact this a ha
  have hz : ∃ z ∈ out, ¬ (16 ≤ z ∧ z < 16 + nb) := by
   have hnr : ∀ a : Wd', ¬ (16 ≤ atomTy nb a ∧ atomTy nb a < 16 + nb) := fun a => by
    rw [atomTy_code]; exact code_no (codes_ok a)
   have h20 : k0.val < 20 := by
    have h := hok _ hk0
    have h1 : k0.val < 21 := h.1
    rcases Nat.lt_or_eq_of_le (Nat.lt_succ_iff.mp h1) with h2 | h2
    ·exact h2
    ·exact absurd (by rw [show k0 = 20 from Fin.ext h2]) h.2
   have hin := atom_in k0 hk0
   by_cases h6 : 6 ∈ ks
   ·exact ⟨6, keep1 2 (by decide) rfl h6, hnr 2⟩
   by_cases h7 : 7 ∈ ks
   ·exact ⟨7, keep1 7 (by decide) rfl h7, hnr 7⟩
   refine ⟨_, (hmem _).mpr ⟨hin, ?_, fun q => h6 q.2, fun q => h7 q.2⟩, hnr k0⟩
   rw [Ne, atom_eq (by decide)]
   have : ∀ a : Wd', a.val < 20 → codes[a.val]'a.isLt ≠ 2 := by decide
   exact this k0 h20
  obtain ⟨z, hz, hnz⟩ := hz
  rcases hout with ⟨rfl, _⟩ | rfl | ⟨_, e⟩
  ·cases hz
  ·rw [List.mem_singleton] at hz
   subst hz
   have h := (hmem z).mp (.head _)
   have hT := notop z h.1
   have h2 := h.2.1
   unfold isTop at hT
   lia
  ·exact kind_ne B (k := 6) ⟨_, e, by simp⟩ (by decide) (by decide) hi
theorem is_lone (B : Base nb R) {t : Tm} {i ty : Nat} (ho : okB nb (some t)) (hl : loneO i (some t) = true) (ht : TyT nb false R t ty) : ty = 16 + i ∨ ty = 0 ∨ ty = 1 ∨ ty = 13 := by
 cases t with
 | tp p =>
  cases p with
  | lf l =>
   have e : ty = leafTy nb l := ht
   subst e
   cases l with
   | a k => exact nof _ hl
   | p j =>
    have h := of_decide_eq_true (show decide (j = i) = true from hl)
    subst h; exact .inl rfl
  | m ls => exact nof _ hl
 | u ts =>
  have hl : ts.any topP = true := hl
  obtain ⟨p, hp, htop⟩ := List.any_eq_true.mp hl
  obtain ⟨ks, hF, hU⟩ := ht
  obtain ⟨hok, _⟩ := ho
  obtain ⟨v, hv, tp⟩ := hF.left p hp
  have hT := (top_leaf B (hok p hp).1 tp).mpr htop
  rcases hU with ⟨_, _, _, htt, _⟩ | ⟨hno, _⟩
  ·rcases htt with h | h | h
   ·exact .inr (.inl h)
   ·exact .inr (.inr (.inr h))
   ·exact .inr (.inr (.inl h))
  ·exact absurd hT (hno v hv)
noncomputable def Laid (nb : Nat) (Bs : List (Option Tm)) (R : List D) (j : Nat) (bs : List Int) : Prop := bs.length = nb ∧ ∀ i, i < nb → (j ≤ i ∧ bs[i]? = some (-1)) ∨ (i < j ∧ ((Bs[i]? = some none ∧ bs[i]? = some (-1)) ∨ ∃ t ty, Bs[i]? = some (some t) ∧ bs[i]? = some ((ty : Nat) : Int) ∧ TyT nb false R t ty))
theorem bnds_of (B : Base nb R) (hB : ∀ t ∈ Bs, okB nb t) (h : Laid nb Bs R nb bs) : Bnds nb Bs (loneF Bs) bs R := ⟨fun i hi => by
 rcases h.2 i hi with ⟨h, _⟩ | ⟨_, ⟨h1, h2⟩ | ⟨t, ty, h1, h2, h3⟩⟩
 ·exact absurd hi (Nat.not_lt.mpr h)
 ·exact .inl ⟨by rw [loneF, h1]; rfl, -1, h2, .inl rfl⟩
 ·have hok := hB _ (List.mem_of_getElem? h1)
  cases hl : loneF Bs i with
  | true =>
   have hl' : loneO i (some t) = true := by rw [loneF, h1] at hl; exact hl
   refine .inl ⟨rfl, _, h2, ?_⟩
   rcases is_lone B hok hl' h3 with h | h | h | h
   ·exact .inr (.inl (by rw [h]))
   ·exact .inr (.inr (.inl (by rw [h]; rfl)))
   ·exact .inr (.inr (.inr (.inl (by rw [h]; rfl))))
   ·exact .inr (.inr (.inr (.inr (by rw [h]; rfl))))
  | false =>
   have hl' : loneO i (some t) = false := by rw [loneF, h1] at hl; exact hl
   exact .inr ⟨rfl, t, ty, h1, okT_of_okB hok, h2, h3, not_lone B hi hok hl' h3⟩⟩
theorem Laid.pre {R' : List D} {j : Nat} (B : Base nb R) (hB : ∀ t ∈ Bs, okB nb t) (h : R <+: R') (k : Laid nb Bs R j bs) : Laid nb Bs R' j bs := ⟨k.1, fun i hi => by
 rcases k.2 i hi with h1 | ⟨h1, h2 | ⟨t, ty, h2, h3, h4⟩⟩
 ·exact .inl h1
 ·exact .inr ⟨h1, .inl h2⟩
 ·exact .inr ⟨h1, .inr ⟨t, ty, h2, h3, h4.pre B h (okT_of_okB (hB _ (List.mem_of_getElem? h2)))⟩⟩⟩
theorem Laid.none {j : Nat} (k : Laid nb Bs R j bs) (hj : j < nb) (h : Bs[j]? = some none) : Laid nb Bs R (j + 1) bs := ⟨k.1, fun i hi => by
 rcases k.2 i hi with ⟨h1, h2⟩ | ⟨h1, h2⟩
 ·rcases Nat.lt_or_eq_of_le h1 with h3 | h3
  ·exact .inl ⟨h3, h2⟩
  ·subst h3; exact .inr ⟨by lia, .inl ⟨h, h2⟩⟩
 ·exact .inr ⟨by lia, h2⟩⟩
theorem Laid.some {j ty : Nat} {t : Tm} (k : Laid nb Bs R j bs) (hj : j < nb) (h : Bs[j]? = some (some t)) (ht : TyT nb false R t ty) : Laid nb Bs R (j + 1) (bs.set j ((ty : Nat) : Int)) := ⟨by rw [List.length_set]; exact k.1, fun i hi => by
 have hlen := k.1
 by_cases e : i = j
 ·subst e
  exact .inr ⟨by lia, .inr ⟨t, ty, h, by rw [List.getElem?_set_self (by lia)], ht⟩⟩
 ·rw [List.getElem?_set_ne (Ne.symm e)]
  rcases k.2 i hi with ⟨h1, h2⟩ | ⟨h1, h2⟩
  ·exact .inl ⟨by lia, h2⟩
  ·exact .inr ⟨by lia, h2⟩⟩
end

structure Bd (x : X) (nb wi ai pi ri lo hi bl li : Nat) (Bs : List (Option Tm)) (bs : List Int) (σ : St) : Prop where
 p : Wp x nb wi ai pi ri σ
 rows : RowsAt x lo hi σ ri ((List.range 13).map (Wr nb (loneF Bs) Bs))
 hbl : σ[bl]? = some (.list (Bs.map encO))
 mbl : ¬ x.mu bl
 hli : σ[li]? = some (.list (((List.range nb).map (loneF Bs)).map .bool))
 mli : ¬ x.mu li
 fam : σ[1]? = some (.dict famDict)
 hbs : σ[x.bounds]? = some (.list (bs.map .int))
 mbs : ¬ x.mu x.bounds
 hi : hi ≤ σ.length
section
variable {fns : String → Option Fn} {n b : Nat} {σ σ' : St} {x : X} {R : List D} {nb wi ai pi ri lo hi bl li de na : Nat} {Bs : List (Option Tm)} {bs bs' : List Int}
theorem RowsAt.updO {j : Nat} {o : Ob} {rows : List (List (List Wd'))} (h : RowsAt x lo hi σ ri rows) (p : Upd σ j o σ') (h1 : j ≤ lo) (h2 : j ≠ ri) : RowsAt x lo hi σ' ri rows := by
 obtain ⟨refs, e1, e2, e3⟩ := h
 exact ⟨refs, p.oldAt h2 e1, e2, e3.mono fun _ _ _ k => k.updO p (.inl h1)⟩
theorem Bd.keep (h : Bd x nb wi ai pi ri lo hi bl li Bs bs σ) (w : Wk x σ b R σ') : Bd x nb wi ai pi ri lo hi bl li Bs bs σ' :=
 ⟨h.p.keep w, h.rows.keep w, w.at h.mbl h.hbl, h.mbl, w.at h.mli h.hli, h.mli, w.at w.w.n1 h.fam, w.at h.mbs h.hbs, h.mbs, Nat.le_trans h.hi w.len⟩
theorem Bd.upd (h : Bd x nb wi ai pi ri lo hi bl li Bs bs σ) (p : Upd σ x.bounds (.list (bs'.map .int)) σ') (n1 : x.bounds ≠ wi) (n2 : x.bounds ≠ ai) (n3 : x.bounds ≠ pi) (n4 : x.bounds ≠ ri) (n5 : x.bounds ≠ bl) (n6 : x.bounds ≠ li) (n7 : x.bounds ≠ 1) (n8 : x.bounds ≤ lo) : Bd x nb wi ai pi ri lo hi bl li Bs bs' σ' :=
 ⟨⟨p.oldAt n1 h.p.w, p.oldAt n2 h.p.atoms, p.oldAt n3 h.p.params, h.p.nw, h.p.na, h.p.np, h.p.nb⟩, h.rows.updO p n8 n4, p.oldAt n5 h.hbl, h.mbl, p.oldAt n6 h.hli, h.mli, p.oldAt n7 h.fam, p.atIt h.hbs, h.mbs, by rw [p.lenE]; exact h.hi⟩
theorem Tl.keep {bs ds ns : List D} (h : Tl x de na bs ds ns σ) (w : Wk x σ b R σ') : Tl x de na bs ds ns σ' := by
 obtain ⟨⟨fs, gt, l⟩, hb, hd, hn, ab, ad, an, k, k'⟩ := h
 exact ⟨⟨fs, w.at w.w.ne2.2.2.1 gt, l⟩, w.at ab.nmu hb, w.at ad.nmu hd, w.at an.nmu hn, ab, ad, an, k, k'⟩
theorem lone_comp (F : Fns fns) {L : Loc} {z : D} {Q : D → St → Prop} (hb : L.lookup "bounds" = some (.ref bl)) (g : σ[bl]? = some (.list (Bs.map encO))) (mb : ¬ x.mu bl) (hnb : Bs.length = nb) (h20 : nb ≤ 20) (hB : ∀ t ∈ Bs, okB nb t) (w : Wl x b R σ)
  (k : ∀ σ', Wk x σ b R σ' → Wn σ' (.list (((List.range nb).map (loneF Bs)).map .bool)) Q) :
  W (compGo (fun σ => stillR true σ ((List.range nb).map fun (i : Nat) => D.int (i : Int)) z) (turn (callF fns (n + 2)) L (.call "_law_bare" [.var "bounds", .var "place"]) (.one "place") none) ((List.range nb).map fun (i : Nat) => D.int (i : Int)) [] σ) fun ys σ' => Wn σ' (.list ys) Q := by
 refine compGo_range (fun j acc σ' => acc = ((List.range j).map (loneF Bs)).map .bool ∧ Wk x σ b R σ') (fun _ => rfl) (fun acc σ1 h => h.1 ▸ k σ1 h.2) (fun j acc σ1 hj h => ?_) ⟨rfl, .start w⟩
 obtain ⟨rfl, w1⟩ := h
 refine c_turn1 rfl fun Q' hQ => ?_
 refine e_call (es_cons (e_var (lk_there rfl hb) (es_cons (e_var rfl (es_nil ?_)))))
 refine (bare_spec (n := n) F (w1.at mb g) (by lia) (by lia) (by rw [hnb] at *; exact hB) w1.w).m2 fun σ2 w2 => ?_
 dl_step
 exact ⟨by rw [List.range_succ, List.map_append, List.map_append]; rfl, w1.next w2⟩
noncomputable def wKs : List Str := [Str.ofString "tab", Str.ofString "atoms", Str.ofString "params", Str.ofString "rows"]
theorem wKs_nd : wKs.Nodup := by decide +kernel
theorem rep_int : ∀ m : Nat, List.replicate m (D.int (-1)) = (List.replicate m (-1 : Int)).map D.int := fun m => by rw [List.map_replicate]

theorem round_spec (F : Fns fns) {di nu : Nat} {l : List Int} (hd : σ[di]? = some (.list [.int 0, .ref nu])) (hn : σ[nu]? = some (.list (l.map .int))) (h1 : 1 ≤ l.length) (h40 : l.length ≤ 40) (hfam : σ[1]? = some (.dict famDict)) (hdi : 2 ≤ di) (hne : nu ≠ di) :
  W (callF fns (n + 40) "_law_round" [.ref di] σ) fun v _ => v = .bool true := by
 refine f_call1 F.law_round fun Q' hQ => ?_
 refine x_assign (e_new (es_nil ?_))
 have gt1 : (σ ++ [Ob.inst "TypeTable" []])[σ.length]? = some (.inst "TypeTable" []) := pushAt
 have hl1 : (σ ++ [Ob.inst "TypeTable" []]).length = σ.length + 1 := by simp
 have hd1 := pushOld (o := Ob.inst "TypeTable" []) hd
 have hn1 := pushOld (o := Ob.inst "TypeTable" []) hn
 have hf1 := pushOld (o := Ob.inst "TypeTable" []) hfam
 have d1 := at_lt hd; have n1 := at_lt hn; have f1 := at_lt hfam
 generalize hσ1 : σ ++ [Ob.inst "TypeTable" []] = σ1 at gt1 hl1 hd1 hn1 hf1 ⊢
 generalize ht : σ.length = t at gt1 hl1 d1 n1 f1 ⊢
 clear hσ1 hd hn hfam ht
 show W (callF fns (n + 39) "TypeTable.__init__" [.ref t] σ1) _
 have t2 : 2 ≤ t := Nat.le_of_lt (Nat.lt_of_le_of_lt hdi d1)
 have ht1 : t < σ1.length := Nat.lt_of_lt_of_eq (Nat.lt_succ_self t) hl1.symm
 refine (tab_init (n := n + 37) F gt1 t2 ht1).mono ?_
 rintro v σ2 ⟨rfl, hl2, fm2, fs, r, ix, bo, de, na, gt2, ⟨k1, k2, k3, k4, k5, k6⟩, hr2, hix2, hbo2, hde2, hna2, o1, o2, o3, o4, o5⟩
 refine ⟨rfl, ?_⟩
 have hd2 := fm2.at (Nat.lt_trans d1 ht1) (Nat.ne_of_lt d1) hd1
 have hn2 := fm2.at (Nat.lt_trans n1 ht1) (Nat.ne_of_lt n1) hn1
 have hf2 := fm2.at (Nat.lt_trans f1 ht1) (Nat.ne_of_lt f1) hf1
 have na2 := at_lt hna2
 refine x_assign (e_new (es_cons (e_var rfl (es_nil ?_))))
 have gh3 : (σ2 ++ [Ob.inst "BoundHost" []])[σ2.length]? = some (.inst "BoundHost" []) := pushAt
 have hl3 : (σ2 ++ [Ob.inst "BoundHost" []]).length = σ2.length + 1 := by simp
 have hd3 := pushOld (o := Ob.inst "BoundHost" []) hd2
 have hn3 := pushOld (o := Ob.inst "BoundHost" []) hn2
 have hf3 := pushOld (o := Ob.inst "BoundHost" []) hf2
 have gt3 := pushOld (o := Ob.inst "BoundHost" []) gt2
 have hr3 := pushOld (o := Ob.inst "BoundHost" []) hr2
 have hix3 := pushOld (o := Ob.inst "BoundHost" []) hix2
 have hbo3 := pushOld (o := Ob.inst "BoundHost" []) hbo2
 have hde3 := pushOld (o := Ob.inst "BoundHost" []) hde2
 have hna3 := pushOld (o := Ob.inst "BoundHost" []) hna2
 generalize hσ3 : σ2 ++ [Ob.inst "BoundHost" []] = σ3 at gh3 hl3 hd3 hn3 hf3 gt3 hr3 hix3 hbo3 hde3 hna3 ⊢
 generalize hh : σ2.length = h at gh3 hl3 na2 hl2 ⊢
 clear hσ3
 show W (callF fns (n + 39) "BoundHost.__init__" [.ref h, .ref t] σ3) _
 have tr : t < r := Nat.lt_of_lt_of_le ht1 o1
 have tix := Nat.lt_trans tr o2
 have tbo := Nat.lt_trans tix o3
 have rbo := Nat.lt_trans o2 o3
 have bona := Nat.lt_trans o4 o5
 have deh := Nat.lt_trans o5 na2
 have boh := Nat.lt_trans o4 deh
 have ixh := Nat.lt_trans o3 boh
 have rh := Nat.lt_trans o2 ixh
 have th := Nat.lt_trans tr rh
 have hs3 : h < σ3.length := Nat.lt_of_lt_of_eq (Nat.lt_succ_self h) hl3.symm
 refine (host_init (n := n + 38) F gh3 (Nat.le_of_lt (Nat.lt_of_le_of_lt t2 th))).mono ?_
 rintro v σ4 ⟨rfl, hl4, fm4, gh4⟩
 refine ⟨rfl, ?_⟩
 have hd4 := fm4.at (Nat.lt_trans (Nat.lt_trans d1 th) hs3) (Nat.ne_of_lt (Nat.lt_trans d1 th)) hd3
 have hn4 := fm4.at (Nat.lt_trans (Nat.lt_trans n1 th) hs3) (Nat.ne_of_lt (Nat.lt_trans n1 th)) hn3
 have hf4 := fm4.at (Nat.lt_trans (Nat.lt_trans f1 th) hs3) (Nat.ne_of_lt (Nat.lt_trans f1 th)) hf3
 have gt4 := fm4.at (Nat.lt_trans th hs3) (Nat.ne_of_lt (th)) gt3
 have hr4 := fm4.at (Nat.lt_trans rh hs3) (Nat.ne_of_lt (rh)) hr3
 have hix4 := fm4.at (Nat.lt_trans ixh hs3) (Nat.ne_of_lt (ixh)) hix3
 have hbo4 := fm4.at (Nat.lt_trans boh hs3) (Nat.ne_of_lt (boh)) hbo3
 have hde4 := fm4.at (Nat.lt_trans deh hs3) (Nat.ne_of_lt (deh)) hde3
 have hna4 := fm4.at (Nat.lt_trans na2 hs3) (Nat.ne_of_lt (na2)) hna3
 have w4 : Wl ⟨di, nu, t, r, ix, bo, h⟩ 2000 firstL σ4 := ⟨⟨0, hd4, by decide⟩, ⟨l, hn4, h1, h40⟩, hr4, hix4, ⟨fs, gt4, k1, k2, k3, k6⟩, ⟨_, gh4, rfl, rfl, rfl, rfl⟩, by decide, firstL_ok.1, firstL_ok.2, ⟨hdi, Nat.le_of_lt (Nat.lt_of_le_of_lt t2 tr), Nat.le_of_lt (Nat.lt_of_le_of_lt t2 tix)⟩, ⟨Nat.ne_of_lt (Nat.lt_trans d1 tr), by rintro (e | e | e); exact hne e; exact Nat.ne_of_lt (Nat.lt_trans n1 tr) e; exact Nat.ne_of_lt (Nat.lt_trans n1 tix) e⟩⟩
 have ap : ∀ {j : Nat}, bo ≤ j → j < h → Apart ⟨di, nu, t, r, ix, bo, h⟩ j := fun hb hj => ⟨Nat.ne_of_gt (Nat.lt_of_lt_of_le (Nat.lt_trans d1 tbo) hb), Nat.ne_of_gt (Nat.lt_of_lt_of_le (Nat.lt_trans n1 tbo) hb), Nat.ne_of_gt (Nat.lt_of_lt_of_le tbo hb), Nat.ne_of_gt (Nat.lt_of_lt_of_le rbo hb), Nat.ne_of_gt (Nat.lt_of_lt_of_le o3 hb), Nat.ne_of_lt hj⟩
 have hbo2' : 2 ≤ bo := Nat.le_of_lt (Nat.lt_of_le_of_lt t2 tbo)
 have hde2' : 2 ≤ de := Nat.le_of_lt (Nat.lt_of_le_of_lt hbo2' o4)
 have hna2' : 2 ≤ na := Nat.le_of_lt (Nat.lt_of_le_of_lt hde2' o5)
 have t4 : Tl ⟨di, nu, t, r, ix, bo, h⟩ de na [] [] [] σ4 := ⟨⟨fs, gt4, k3, k4, k5, k6⟩, hbo4, hde4, hna4, ap (Nat.le_refl _) boh, ap (Nat.le_of_lt o4) deh, ap (Nat.le_of_lt bona) na2, ⟨Nat.ne_of_lt o4, Nat.ne_of_lt bona, Nat.ne_of_lt o5⟩, ⟨hbo2', hde2', hna2'⟩⟩
 have hbo : bo < σ4.length := Nat.lt_of_lt_of_eq (Nat.lt_trans boh hs3) hl4
 have hde : de < σ4.length := Nat.lt_of_lt_of_eq (Nat.lt_trans deh hs3) hl4
 have hna : na < σ4.length := Nat.lt_of_lt_of_eq (Nat.lt_trans na2 hs3) hl4
 have hx : ∃ x : X, x = ⟨di, nu, t, r, ix, bo, h⟩ := ⟨_, rfl⟩
 obtain ⟨x, hx⟩ := hx
 have exd : di = x.d := by rw [hx]
 have ext : t = x.tab := by rw [hx]
 have exh : h = x.host := by rw [hx]
 have exb : bo = x.bounds := by rw [hx]
 rw [← hx] at w4 t4
 clear hx ap t2 ht1 tr tix tbo rbo bona deh boh ixh rh th hs3 gt1 hl1 hd1 hn1 hf1 fm2 gt2 hr2 hix2 hbo2 hde2 hna2 hd2 hn2 hf2 gh3 hd3 hn3 hf3 gt3 hr3 hix3 hbo3 hde3 hna3 fm4 hd4 hn4 gt4 hr4 hix4 hbo4 hde4 hna4 gh4 k1 k2 k3 k4 k5 k6 o1 o2 o3 o4 o5 hl2 hl3 hl4 na2 d1 n1 f1 hh hne hdi
 subst exd ext exh exb
 dl_step
 refine (bounds_spec (n := n + 36) (b := 1950) F w4).mono ?_
 rintro _ σ5 ⟨w5, bl, many, Bs, rfl, l5, m1, m14, hBl, hB⟩
 have hnb : ∃ nb, nb = many + 5 := ⟨_, rfl⟩
 obtain ⟨nb, hnb⟩ := hnb
 rw [← hnb] at hBl hB
 have h19 : nb ≤ 19 := hnb ▸ Nat.add_le_add_right m14 5
 have h1n : 1 ≤ nb := hnb ▸ Nat.succ_le_succ (Nat.zero_le _)
 have hf5 := w5.at w5.w.n1 hf4
 have t5 := t4.keep w5
 have lbl := l5.1
 have hbbl : (Bs.map encO).length ≤ big := big_of (by rw [List.length_map, hBl]; exact Nat.le_trans h19 (by decide))
 have len5 := w5.len
 dl_step
 refine len_lst l5.2 hbbl ?_
 dl_step
 refine len_lst l5.2 hbbl ?_
 rw [List.length_map, hBl]
 rw [show ((nb : Nat) : Int) - 5 = (many : Int) by rw [hnb]; exact Int.add_sub_cancel (many : Int) 5]
 refine t_range (Nat.le_trans h19 (by decide)) ?_
 refine params_spec (n := n + 37) (b := 1930) F h19 rfl t5 (w5.w.less (by decide)) ?_
 rintro σ6 bs6 ds6 ns6 w6 t6 hbs6 f6
 have hf6 := f6.at hf5 w6.n1 (Nat.ne_of_lt hbo2') (Nat.ne_of_lt hde2') (Nat.ne_of_lt hna2')
 have mbl : ¬ x.mu bl := w4.notmu lbl
 have hbl6 := f6.at l5.2 mbl (Nat.ne_of_gt (Nat.lt_of_lt_of_le hbo lbl)) (Nat.ne_of_gt (Nat.lt_of_lt_of_le hde lbl)) (Nat.ne_of_gt (Nat.lt_of_lt_of_le hna lbl))
 have len6 := f6.1
 intro pi σ7 p7
 have w67 := Wk.new (Wk.start w6) p7
 have w7 := w67.w
 have lpi := (Wk.start w6).lo p7
 have t7 := t6.keep w67
 have hf7 := w67.at w6.n1 hf6
 have hbl7 := w67.at mbl hbl6
 have len7 := w67.len
 dl_step
 refine len_lst hbl7 hbbl ?_
 rw [List.length_map, hBl]
 refine t_range (Nat.le_trans h19 (by decide)) ?_
 refine lone_comp (n := n + 37) F rfl hbl7 mbl hBl (Nat.le_trans h19 (by decide)) hB w7 ?_
 intro σ8 w78
 intro li σ9 p9
 have lli := w78.lo p9
 have w79 := w78.new p9
 have hlpi := lpi.1
 have hllt := lli.1
 have pi9 := w79.at (w6.notmu lpi.1) lpi.2
 have hbl9 := w79.at mbl hbl7
 have hf9 := w79.at w7.n1 hf7
 have t9 := t7.keep w79
 have mpi := w6.notmu lpi.1
 have mli := w7.notmu lli.1
 dl_step
 refine (atoms_spec (n := n + 37) (b := 1900) F (w79.w.less (by decide))).m3 fun σa ai wa la => ?_
 have mai := w79.w.notmu la.1
 dl_step
 refine (rounds_spec (n := n + 34) (nb := nb) (lone := loneF Bs) F (wa.at mbl hbl9) mbl (wa.at mli lli.2) mli hBl (Nat.le_trans h19 (by decide)) h1n hB (fun _ _ => rfl) wa.w).mono ?_
 rintro _ σb ⟨wb, ri, hi, rfl, hri, rb, hib⟩
 dl_step
 refine ⟨⟨rfl, wKs_nd⟩, ?_⟩
 intro wi σc pc
 have lwi := wb.lo pc
 have wc := wb.new pc
 have mwi := wa.w.notmu lwi.1
 have w9c := (wa.next wc)
 have Bd0 : Bd x nb wi ai pi ri ri hi bl li Bs (List.replicate nb (-1)) σc := by
  refine ⟨⟨lwi.2, wc.at mai la.2, w9c.at mpi pi9, mwi, mai, mpi, Nat.le_trans h19 (by decide)⟩, rb.keep (Wk.new (Wk.start wb.w) pc), w9c.at mbl hbl9, mbl, w9c.at mli lli.2, mli, w9c.at w79.w.n1 hf9, ?_, t9.ab.nmu, Nat.le_trans hib (Nat.le.intro pc.lenE.2.symm)⟩
  rw [← rep_int, ← hbs6]
  exact w9c.at t9.ab.nmu t9.bounds
 have len9 := w79.len
 have lena := wa.len
 have lenb := wb.len
 have hla := la.1
 have hlw := lwi.1
 have nwi : x.bounds ≠ wi ∧ x.bounds ≠ ai ∧ x.bounds ≠ pi ∧ x.bounds ≠ ri ∧ x.bounds ≠ bl ∧ x.bounds ≠ li ∧ x.bounds ≠ 1 ∧ x.bounds ≤ ri := by
  have c6 := Nat.lt_of_lt_of_le (Nat.lt_of_lt_of_le hbo len5) len6
  have c7 := Nat.lt_of_lt_of_le c6 len7
  have c9 := Nat.lt_of_lt_of_le c7 len9
  have ca := Nat.lt_of_lt_of_le c9 lena
  have cr := Nat.lt_of_lt_of_le ca hri
  exact ⟨Nat.ne_of_lt (Nat.lt_of_lt_of_le ca hlw), Nat.ne_of_lt (Nat.lt_of_lt_of_le c9 hla), Nat.ne_of_lt (Nat.lt_of_lt_of_le c6 hlpi), Nat.ne_of_lt cr, Nat.ne_of_lt (Nat.lt_of_lt_of_le hbo lbl), Nat.ne_of_lt (Nat.lt_of_lt_of_le c7 hllt), Nat.ne_of_gt hbo2', Nat.le_of_lt cr⟩
 have wc' := wc.w
 have apb := t9.ab
 have w9' := wc.w.less (show 1850 ≤ 1900 by decide)
 clear rb pi9 hbl9 hf9 w9c wc wc' lwi wb la lli lpi w79 w78 w7 w67 t7 t6 f6 hbl6 hbl7 pc p9 p7 hri hllt hlpi
 have hA : Ag ["place"] [("d", .ref x.d), ("tab", .ref x.tab), ("host", .ref x.host), ("bounds", .ref bl), ("many", .int many), ("params", .ref pi), ("lone", .ref li), ("w", .ref wi)] (setL "w" (.ref wi) (setL "lone" (.ref li) (setL "params" (.ref pi) (setL "many" (.int many) (setL "bounds" (.ref bl) (setL "host" (.ref x.host) (setL "tab" (.ref x.tab) [("d", .ref x.d)]))))))) := Ag.refl
 generalize setL "w" (.ref wi) (setL "lone" (.ref li) (setL "params" (.ref pi) (setL "many" (.int many) (setL "bounds" (.ref bl) (setL "host" (.ref x.host) (setL "tab" (.ref x.tab) [("d", .ref x.d)])))))) = L0 at hA ⊢
 refine x_loop (e_bi (e_var (hA.look rfl rfl) (len_lst Bd0.hbl hbbl ?_)))
 rw [List.length_map, hBl]
 refine t_range (Nat.le_trans h19 (by decide)) ?_
 refine forGo_range (fun j L σ' => E2C5 (fun R' bs => Wl x (700 + 11 * (nb - j)) R' σ') (fun R' bs => rows9 nb <+: R') (fun R' bs => Bd x nb wi ai pi ri ri hi bl li Bs bs σ') (fun R' bs => Laid nb Bs R' j bs) (fun R' bs => Ag ["place"] [("d", .ref x.d), ("tab", .ref x.tab), ("host", .ref x.host), ("bounds", .ref bl), ("many", .int many), ("params", .ref pi), ("lone", .ref li), ("w", .ref wi)] L)) (fun _ => rfl) ?_ ?_ ⟨rows9 nb, _, w9'.less (by lia), List.prefix_refl _, Bd0, ⟨List.length_replicate, fun i hi => .inl ⟨Nat.zero_le _, by rw [List.getElem?_replicate, if_pos hi]⟩⟩, hA⟩
 rotate_left
 ·rintro j L σd hj ⟨Rd, bsd, wd, hpre, bd, hlaid, hA⟩
  refine x_turn1 fun Q' hQ => ?_
  have hA : Ag ["place"] [("d", .ref x.d), ("tab", .ref x.tab), ("host", .ref x.host), ("bounds", .ref bl), ("many", .int many), ("params", .ref pi), ("lone", .ref li), ("w", .ref wi)] (setL "place" (.int j) L) := hA.set rfl
  have kp : (setL "place" (.int j) L).lookup "place" = some (D.int j) := lk_set
  generalize setL "place" (.int j) L = L1 at hA kp ⊢
  have hj' : j < Bs.length := hBl.symm ▸ hj
  have eB := List.getElem?_eq_getElem hj'
  have hok := hB _ (List.getElem_mem hj')
  generalize Bs[j] = tb at eB hok
  dl_step
  refine i_lst bd.hbl ⟨Int.natCast_nonneg j, hbbl⟩ (d := encO tb) (by rw [Int.toNat_natCast, List.getElem?_map, eB]; rfl) ?_
  cases tb with
  | none =>
   refine Br.Ff rfl ?_
   dl_step
   exact ⟨Rd, bsd, wd.less (Nat.le_trans (Nat.le_add_right _ _) (bud hj)), hpre, bd, hlaid.none hj eB, hA⟩
  | some tb =>
   have hnn : (decide (encO (some tb) = D.none) == false) = true := by
    have : tb.enc ≠ .none := by have := tb.isFlat; intro h; rw [h] at this; exact nof _ this
    rw [show encO (some tb) = tb.enc from rfl, decide_eq_false this]; rfl
   refine Br.Tt hnn ?_
   dl_step
   refine i_lst bd.hbl ⟨Int.natCast_nonneg j, hbbl⟩ (d := tb.enc) (by rw [Int.toNat_natCast, List.getElem?_map, eB]; rfl) ?_
   dl_step
   refine (type_spec (n := n + 36) (b := 700 + 11 * (nb - (j + 1))) F (base9.pre hpre) bd.p (okT_of_okB hok) (wd.less (bud hj))).m4 fun σe Re ty we he hty => ?_
   have bde := bd.keep we
   have hblen := hlaid.1
   dl_step
   refine a_bounds we.w ?_
   dl_step
   refine .list x.bounds _ _ rfl rfl bde.hbs hbo2' ⟨Int.natCast_nonneg j, by rw [List.length_map, hblen]; exact hj, big_of (by rw [List.length_map, hblen]; exact Nat.le_trans h19 (by decide))⟩ ?_
   intro σf pf
   have e1 : ((bsd.map D.int).set (j : Int).toNat (tI ty)) = (bsd.set j ((ty : Nat) : Int)).map D.int := by rw [Int.toNat_natCast, List.map_set]
   rw [e1] at pf
   dl_step
   exact ⟨Re, _, we.w.updO pf apb, hpre.trans he, bde.upd pf nwi.1 nwi.2.1 nwi.2.2.1 nwi.2.2.2.1 nwi.2.2.2.2.1 nwi.2.2.2.2.2.1 nwi.2.2.2.2.2.2.1 nwi.2.2.2.2.2.2.2, (hlaid.pre (base9.pre hpre) hB he).some hj eB hty, hA⟩
 rintro L σd ⟨Rd, bs, wd, hpre, bd, hlaid, hA⟩
 have sr : Sr nb Bs (loneF Bs) bs Rd := ⟨base9.pre hpre, bnds_of (base9.pre hpre) hB hlaid⟩
 have sw : Sw x nb wi ai pi ri ri hi Bs (loneF Bs) bs σd := ⟨bd.p, ⟨bd.fam, bd.hbs, bd.mbs, hlaid.1, bd.p.nb⟩, bd.rows, bd.hi, hB⟩
 dl_step
 refine (opened_spec (n := n + 35) (b := 450) F sw sr bd.hbl bd.mbl bd.hli bd.mli hBl (wd.less (by have := bd.p.nb; lia))).m2 fun σe hA' => ?_
 obtain ⟨Re, we, he⟩ := hA'
 have sw1 := sw.keep we
 have sr1 := sr.pre he
 dl_step
 refine Br.F ?_
 dl_step
 refine (term_spec (n := n + 36) (b := 400) F m1 m14 we.w).m3 fun σf T1 wf ht1 => ?_
 have sw2 := sw1.keep wf
 dl_step
 refine (term_spec (n := n + 36) (b := 350) F m1 m14 wf.w).m3 fun σg T2 wg ht2 => ?_
 have sw3 := sw2.keep wg
 rw [← hnb] at ht1 ht2
 dl_step
 intro to σh ph
 have w0 := Wk.start wg.w
 have lto := w0.lo ph
 have wh := w0.new ph
 have sw4 := sw3.keep wh
 have hp5 : okT nb (.tp (.lf (.p 5))) := by show 5 < nb; lia
 have htb : ([(Tm.tp (.lf (.p 5))).enc, T1.enc, T2.enc] : List D).length ≤ big := Nat.le_of_ble_eq_true rfl
 have lto : Lo σg σh to (.list [(Tm.tp (.lf (.p 5))).enc, T1.enc, T2.enc]) := lto
 have mto := wg.w.notmu lto.1
 dl_step
 refine t_seqL lto.2 htb ?_
 refine forGo_inv (fun ds L σ' => E0C4 ((∃ R', Wk x σh (150 + 45 * ds.length) R' σ' ∧ Re <+: R')) ((∀ d ∈ ds, ∃ tm, d = Tm.enc tm ∧ okT nb tm)) (Ag ["place", "term", "terms"] [("d", .ref x.d), ("tab", .ref x.tab), ("host", .ref x.host), ("bounds", .ref bl), ("many", .int many), ("params", .ref pi), ("lone", .ref li), ("w", .ref wi)] L) (L.lookup "terms" = some (.ref to))) ?_ ?_ ⟨⟨Re, (Wk.start wh.w).less (by simp), List.prefix_refl _⟩, ?_, (hA.more rfl).set rfl, lk_set⟩
 ·rintro L σi ⟨⟨Ri, wi_, hei⟩, -, hA, kt⟩
  refine ⟨still_list (wi_.at mto lto.2), ?_⟩
  have sw5 := sw4.keep wi_
  have sr5 := sr1.pre hei
  have lt5 := wi_.at mto lto.2
  dl_step
  refine i_lst lt5 ⟨by decide, htb⟩ (d := T1.enc) rfl ?_
  dl_step
  refine i_lst lt5 ⟨by decide, htb⟩ (d := T2.enc) rfl ?_
  dl_step
  refine (loses_law (n := n + 6) (b := 128) F sw5 sr5 ht1 ht2 (wi_.w.less (by lia))).m2 fun σj hA' => ?_
  obtain ⟨Rj, wj, hej⟩ := hA'
  have sw6 := sw5.keep wj
  have sr6 := sr5.pre hej
  have lt6 := wj.at mto lt5
  dl_step
  refine Br.F ?_
  dl_step
  refine i_lst lt6 ⟨by decide, htb⟩ (d := (Tm.tp (.lf (.p 5))).enc) rfl ?_
  dl_step
  refine i_lst lt6 ⟨by decide, htb⟩ (d := T1.enc) rfl ?_
  dl_step
  refine (loses_law (n := n + 6) (b := 105) F sw6 sr6 hp5 ht1 (wj.w.less (by lia))).m2 fun σk hA' => ?_
  obtain ⟨Rk, wk, hek⟩ := hA'
  have sw7 := sw6.keep wk
  have sr7 := sr6.pre hek
  dl_step
  refine Br.F ?_
  dl_step
  refine (spelt_spec (n := n + 34) (b := 5) F sr7.base sw7.p (by lia) wk.w).mono ?_
  rintro _ σl rfl
  dl_step
  rfl
 ·rintro d ds L σi ⟨⟨Ri, wi_, hei⟩, hds, hA, kt⟩
  refine ⟨still_list (wi_.at mto lto.2), ?_⟩
  obtain ⟨tm, rfl, htm⟩ := hds d (.head _)
  have sw5 := sw4.keep wi_
  have sr5 := sr1.pre hei
  simp only [List.length_cons] at wi_
  refine x_turn1 fun Q' hQ => ?_
  have hA : Ag ["place", "term", "terms"] [("d", .ref x.d), ("tab", .ref x.tab), ("host", .ref x.host), ("bounds", .ref bl), ("many", .int many), ("params", .ref pi), ("lone", .ref li), ("w", .ref wi)] (setL "term" tm.enc L) := hA.set rfl
  have kt : (setL "term" tm.enc L).lookup "terms" = some (.ref to) := lk_setne rfl kt
  have kk : (setL "term" tm.enc L).lookup "term" = some tm.enc := lk_set
  generalize setL "term" tm.enc L = L1 at hA kt kk ⊢
  dl_step
  refine (right_spec (n := n + 6) (d := 0) (b := 150 + 45 * ds.length + 23) F sw5 sr5 htm (wi_.w.less (by lia))).m2 fun σj hA' => ?_
  obtain ⟨Rj, wj, hej⟩ := hA'
  have sw6 := sw5.keep wj
  have sr6 := sr5.pre hej
  dl_step
  refine Br.F ?_
  dl_step
  refine (take_spec (n := n + 38) (b := 150 + 45 * ds.length + 22) F (m := 14) (by decide) (by decide) wj.w).m3 fun σk dd wk hdd => ?_
  have sw7 := sw6.keep wk
  dl_step
  refine (right_spec (n := n + 6) (d := dd) (b := 150 + 45 * ds.length) F sw7 sr6 htm wk.w).m2 fun σl hA' => ?_
  obtain ⟨Rl, wl, hel⟩ := hA'
  dl_step
  refine Br.F ?_
  dl_step
  exact ⟨⟨Rl, ((wi_.next wj).next wk).next wl, (hei.trans hej).trans hel⟩, fun d hd => hds d (.tail _ hd), hA, kt⟩
 ·intro d hd
  simp only [List.mem_cons, List.not_mem_nil, or_false] at hd
  rcases hd with rfl | rfl | rfl
  ·exact ⟨_, rfl, hp5⟩
  ·exact ⟨_, rfl, ht1⟩
  ·exact ⟨_, rfl, ht2⟩
end
@[reducible] noncomputable def f_law : Fn := ⟨["script"], [], [.assign "nums" (.comp (.bin .mod (.var "n") (.lit (.int 99991))) (.one "n") false (.slice (.var "script") .none (.some (.lit (.int 40)))) .none), .ite (.cmp .eq (.bi .len (.var "nums")) (.lit (.int 0))) [.assign "nums" (.list [(.lit (.int 4)), (.lit (.int 0)), (.lit (.int 3)), (.lit (.int 1)), (.lit (.int 3)), (.lit (.int 0)), (.lit (.int 2)), (.lit (.int 0)), (.lit (.int 3)), (.lit (.int 1)), (.lit (.int 0)), (.lit (.int 1)), (.lit (.int 1)), (.lit (.int 4)), (.lit (.int 0)), (.lit (.int 0)), (.lit (.int 2)), (.lit (.int 1)), (.lit (.int 0)), (.lit (.int 5))])] [], .ret (.call "_law_round" [(.list [(.lit (.int 0)), (.var "nums")])])]⟩
section
variable {fns : String → Option Fn} {n : Nat}
theorem law_runs (F : Fns fns) (ns : List Int) (hns : ns.length ≤ 63) : ∃ σ', exs (callF fns (n + 40)) f_law.body [("script", .ref 0)] (σ0 ns) = some (.ret (.bool true), σ') := by
 suffices h : W (exs (callF fns (n + 40)) f_law.body [("script", .ref 0)] (σ0 ns)) (Rt fun v _ => v = .bool true) by
  obtain ⟨f, σ', e, q⟩ := h
  refine ⟨σ', ?_⟩
  rw [e]
  cases f with
  | ret d => rw [show d = .bool true from q]
  | next L => have q : D.none = .bool true := q; cases q
  | cont L => exact q.elim
 have g0 : (σ0 ns)[0]? = some (.list (ns.map .int)) := rfl
 have g1 : (σ0 ns)[1]? = some (.dict famDict) := rfl
 have gl : (σ0 ns).length = 2 := rfl
 generalize σ0 ns = σ at g0 g1 gl ⊢
 dl_step
 refine slice_hi (h := 40) g0 (big_of (by rw [List.length_map]; lia)) ?_
 intro o1 σ1 p1
 have e1 := p1.lenE
 rw [← List.map_take] at p1
 have l1 := p1.atIt
 refine t_seqL l1 (big_of (by rw [List.length_map, List.length_take]; lia)) ?_
 have hms : (ns.take 40).length ≤ 40 := by rw [List.length_take]; lia
 generalize ns.take 40 = ms at l1 hms ⊢
 refine comp_all (g := fun i : Int => .int (i.fmod 99991)) (· = σ1) (fun _ h => h ▸ still_list l1) (fun a _ _ h => ?_) (fun _ h => ?_) rfl
 ·subst h
  refine c_turn1 rfl fun Q' hQ => ?_
  dl_step
  refine b_mod (by decide) ?_
  dl_step
  exact ⟨rfl, rfl⟩
 subst h
 rw [show ms.map (fun i : Int => D.int (i.fmod 99991)) = (ms.map fun i : Int => i.fmod 99991).map D.int by rw [List.map_map]; rfl]
 intro o2 σ2 p2
 have e2 := p2.lenE
 have l2 := p2.atIt
 have f2 := p2.oldAt (p1.oldAt g1)
 have go : ∀ {L : Loc} {o : Nat} {σ' : St} {l : List Int}, L.lookup "nums" = some (.ref o) → σ'[o]? = some (.list (l.map .int)) → 1 ≤ l.length → l.length ≤ 40 → σ'[1]? = some (.dict famDict) → W (exs (callF fns (n + 40)) [.ret (.call "_law_round" [.list [.lit (.int 0), .var "nums"]])] L σ') (Rt fun v _ => v = .bool true) := by
  intro L o σ' l hL g h1 h2 hf
  dl_step
  intro od σd pd
  have ed := pd.lenE
  dl_step
  have := at_lt g
  have := at_lt hf
  refine (round_spec (n := n) F pd.atIt (pd.oldAt g) h1 h2 (pd.oldAt hf) (by lia) (by lia)).mono ?_
  rintro v σe rfl
  dl_step
  rfl
 dl_step
 refine len_lst l2 (big_of (by rw [List.length_map, List.length_map]; lia)) ?_
 rw [List.length_map, List.length_map]
 dl_step
 refine Br.dec (fun e => ?_) (fun e => ?_)
 ·dl_step
  intro o3 σ3 p3
  refine x_nil (Nx.next ?_)
  refine go (l := [4, 0, 3, 1, 3, 0, 2, 0, 3, 1, 0, 1, 1, 4, 0, 0, 2, 1, 0, 5]) lk_set p3.atIt (by decide) (by decide) (p3.oldAt f2)
 ·refine x_nil (Nx.next ?_)
  refine go (l := ms.map fun i : Int => i.fmod 99991) lk_set l2 (by rw [List.length_map]; lia) (by rw [List.length_map]; exact hms) f2
end
end Mine
end

section
namespace Mine
noncomputable def fnsL : List (Option Fn) := [some f_law_atoms, some f_law_bare, some f_law_bounds, some f_law_cut, some f_law_holds, some f_law_loses, some f_law_meet, some f_law_name, some f_law_opened, some f_law_pieces, some f_law_right, some f_law_round, some f_law_rounds, some f_law_spelt, some f_law_take, some f_law_template, some f_law_term, some f_law_top, some f_law_type, some f_law_union, some f_law_words, some f_bound_of, some f_bound_parts, some f_common_family, some f_equals_void, some f_family, some f_holds_void, some f_join_bools, some f_kind_of, some f_loses_void, some f_may_spell, some f_meet_family, some f_meet_holds_void, some f_new_param, some f_parts_of, some f_regular_twin, some f_stays_beside, some f_top_of, some f_union, some f_whole_of_row, some f_without_templates, some f_TypeTable___init__, some f_TypeTable_put, some f_BoundHost___init__, some f_Thin_force, some f_BoundHost_bound, some f_Thin_tpl_fits]
theorem ix {α : Type} {l l' : List (Option α)} (h : l = l') (i : Nat) : (l[i]?).getD none = (l'[i]?).getD none := by rw [h]
theorem Fns_of {fns : String → Option Fn} (h : names0.map fns = fnsL) : Fns fns := ⟨ix h 0, ix h 1, ix h 2, ix h 3, ix h 4, ix h 5, ix h 6, ix h 7, ix h 8, ix h 9, ix h 10, ix h 11, ix h 12, ix h 13, ix h 14, ix h 15, ix h 16, ix h 17, ix h 18, ix h 19, ix h 20, ix h 21, ix h 22, ix h 23, ix h 24, ix h 25, ix h 26, ix h 27, ix h 28, ix h 29, ix h 30, ix h 31, ix h 32, ix h 33, ix h 34, ix h 35, ix h 36, ix h 37, ix h 38, ix h 39, ix h 40, ix h 41, ix h 42, ix h 43, ix h 44, ix h 45, ix h 46⟩
section
variable {prog : Program} {w : World} {K : Frag} {aS : Addr} {mg mb : Str → Option Value} {vs : List Value} {ns : List Int}
theorem fin {s₁ s : Shared} {name : Str} {scope : Scope} {L a : Addr} {cd : Value} {body : List Stmt} {x : Str} {c : ClaimW} {cl : Str → Option Addr} {mean : ExcName → Option Value} {args : List WData} {E : Value → Shared → Prop}
  (X : K.In s₁.heap) (hC : allChk K (addrOf K "KEY_FAMILIES") = true) (hB : BndOk K) (hE : names0.map (fnsK K) = fnsL) (hm : ns.length ≤ 63) (G : s₁.heap.Ns mainGlobals mg) (Bn : s₁.heap.Ns builtinsNs mb) (hb : ∀ x : Str, x ≠ "__name__" → mb x = bootBuiltins x) (hl : s₁.heap.NoLimit)
  (hL : s₁.heap.IsList aS vs.toArray) (hI : IntsAre vs ns) (F : Fr s₁.heap L s.heap (fun y => List.lookup y [(x, Value.ref aS)].reverse)) (hg : s.gens = #[]) (hos : s.os = s₁.os)
  (hbody : bodyOf scope.names body = f_law.body)
  (hn : ∀ cls, c.raises args cls = false) (hp : c.post args (.bool true) args = true)
  (hx : x = Str.ofString "script") (hk : scope.kind = .function) (hc : ∀ x ∈ scope.names, x.2 ≠ .cell ∧ x.2 ≠ .free) :
  wpAny (model prog w) (callerA.deeper (envOf name scope L a cd)) (execs body (envOf name scope L a cd)) (fun f s' => GoodW c cl mean args s₁ (.ok (.ret (match f with | .ret v => v | _ => .none))) s') E s :=
 join (N := 60) hC hB X G Bn hb hl hL hI F hg hos (by rw [hbody]; exact law_runs (n := 20) (Fns_of hE) ns hm) hn hp hx hk hc (by decide)
end
end Mine
end
end
set_option maxRecDepth 100000
namespace Mine.head
noncomputable def tw14139617269561922093:=0
noncomputable def tw14946772226789246504:=0
noncomputable def tw748731779930912776:=0
noncomputable def tw4163069186122357367:=0
noncomputable def tw17306198084081397603:=0
noncomputable def tw14149427978524627653:=0
noncomputable def tw16914380289546287665:=0
noncomputable def tw10746725682022337571:=0
noncomputable def tw6891450509433485068:=0
noncomputable def tw4857777746444614323:=0
noncomputable def tw10736139440505347576:=0
noncomputable def tw8534208459206503383:=0
noncomputable def tw48543519692965452:=0
noncomputable def tw4554283584077286953:=0
noncomputable def tw17539234302018041193:=0
noncomputable def tw1457377512435260902:=0
noncomputable def tw11280357031166471375:=0
noncomputable def tw15735434631967450740:=0
noncomputable def tw7705420606127192585:=0
noncomputable def tw17197444120159719569:=0
noncomputable def tw1993044597903895948:=0
noncomputable def tw6846597200999610202:=0
noncomputable def tw15148963937461231693:=0
noncomputable def tw12475708393154427166:=0
noncomputable def tw8569104457590258164:=0
noncomputable def tw3368030927266983236:=0
noncomputable def tw13600441213266726568:=0
noncomputable def tw10070411193226618655:=0
noncomputable def tw15647273679946700291:=0
noncomputable def tw5865467396996320769:=0
noncomputable def tw10265929125382437317:=0
noncomputable def tw930087139818521243:=0
noncomputable def tw18165431152234640623:=0
noncomputable def tw16079544298295609577:=0
noncomputable def tw16984083398119652359:=0
noncomputable def tw4543076655600059902:=0
noncomputable def tw5987550445186205895:=0
noncomputable def tw17888318370730626389:=0
noncomputable def tw9142320679590124636:=0
noncomputable def tw17463411580888044010:=0
noncomputable def tw11544532188706048022:=0
noncomputable def tw5253091568745631028:=0
noncomputable def tw10913454653534950659:=0
noncomputable def tw1944943179201316239:=0
noncomputable def tw17265854869233693302:=0
noncomputable def tw7457552020886230888:=0
noncomputable def tw3500380475922496097:=0
noncomputable def tw9186546921256032858:=0
noncomputable def tw14830730096122830885:=0
noncomputable def tw12095829319087573521:=0
noncomputable def tw5331137831679937033:=0
noncomputable def tw3715144110773694964:=0
noncomputable def tw14531177953140590962:=0
noncomputable def tw15305915472762889579:=0
noncomputable def tw5606683062545458717:=0
noncomputable def tw14615432700455777464:=0
noncomputable def tw2694075680205673411:=0
noncomputable def tw4419558321834357505:=0
noncomputable def tw5096742575497195690:=0
noncomputable def tw15468718075485040107:=0
noncomputable def tw5013180600929471838:=0
noncomputable def tw6474009502463322548:=0
noncomputable def tw9505938122459767141:=0
noncomputable def tw12201952087667049370:=0
noncomputable def tw3794523003379204399:=0
noncomputable def tw3290047583113660281:=0
noncomputable def tw14631306762972528136:=0
noncomputable def tw16812575187878004724:=0
noncomputable def tw14597329475937083939:=0
noncomputable def tw8671685427711848851:=0
noncomputable def tw13335025841360890868:=0
noncomputable def tw14982685227137828758:=0
noncomputable def tw12328230846540189838:=0
noncomputable def tw7608900869551684658:=0
noncomputable def tw11180365069992382532:=0
noncomputable def tw8626486368039343599:=0
noncomputable def tw5207666765276788736:=0
noncomputable def tw2929551677221089947:=0
noncomputable def tw17988201657351507238:=0
noncomputable def tw8922061660115660384:=0
noncomputable def tw4962877761993032021:=0
noncomputable def tw13955511503576765797:=0
noncomputable def tw5363715690607933:=0
noncomputable def tw3860214379480611651:=0
noncomputable def tw15656768269340197940:=0
noncomputable def tw14646466228836335164:=0
noncomputable def tw6265338273532641288:=0
noncomputable def tw3746228215898030841:=0
noncomputable def tw11925700103697007601:=0
noncomputable def tw2326617092838664518:=0
noncomputable def tw8912104118211102971:=0
noncomputable def tw1728724042893426364:=0
noncomputable def tw18433677622606106133:=0
noncomputable def tw7161073391023584161:=0
noncomputable def tw13508044439285423174:=0
noncomputable def tw4839655697589452165:=0
noncomputable def tw3821945547825155762:=0
noncomputable def tw10988817232074504935:=0
noncomputable def tw12074249297620881909:=0
noncomputable def tw11582096051123008839:=0
noncomputable def tw11305582741114486441:=0
noncomputable def tw12287978374625458572:=0
noncomputable def tw6388477656530123435:=0
noncomputable def tw14882813523228863612:=0
noncomputable def tw12604462930493870256:=0
noncomputable def tw5501060405047882677:=0
noncomputable def tw6211381574409162282:=0
noncomputable def tw9062998866958442273:=0
noncomputable def tw16572314662081343053:=0
noncomputable def tw12611893724949602041:=0
noncomputable def tw11821203517306503961:=0
noncomputable def tw13246386896891170512:=0
noncomputable def tw6085824867444503733:=0
noncomputable def tw5019597260055213698:=0
noncomputable def tw14744981736328886265:=0
noncomputable def tw14720509044617813951:=0
noncomputable def tw17194126546080390198:=0
noncomputable def tw2728595385866086531:=0
noncomputable def tw15895551434495452948:=0
noncomputable def tw4764554697811233:=0
noncomputable def tw13337238644230332656:=0
noncomputable def tw6053349399257934933:=0
noncomputable def tw17297054508065495485:=0
noncomputable def tw779419810087314491:=0
noncomputable def tw15967466079928408925:=0
noncomputable def tw10079960370226730655:=0
noncomputable def tw17015032458148788900:=0
noncomputable def tw1608297297296620843:=0
noncomputable def tw12478146576626367362:=0
noncomputable def tw820421773197932041:=0
noncomputable def tw13585267454733459922:=0
noncomputable def tw2355103038987944067:=0
noncomputable def tw17173245716831642929:=0
noncomputable def tw3980653432952411973:=0
noncomputable def tw4964814941381164201:=0
noncomputable def tw10431609616501453582:=0
noncomputable def tw3944913497352057107:=0
noncomputable def tw4196546014268931301:=0
noncomputable def tw6099028997845504075:=0
noncomputable def tw6237802210402583469:=0
noncomputable def tw4528443807372415038:=0
noncomputable def tw6369041477666114370:=0
noncomputable def tw6053997905714604814:=0
noncomputable def tw14843749296085226474:=0
noncomputable def tw11923155195566972133:=0
noncomputable def tw17836260108008149386:=0
noncomputable def tw16576625349610184965:=0
noncomputable def tw8874674299285249911:=0
noncomputable def tw11081218982966106116:=0
noncomputable def tw16817119741492734445:=0
noncomputable def tw8758324158161630591:=0
noncomputable def tw14195316510222423288:=0
noncomputable def tw3304075619188804072:=0
noncomputable def tw69809265629811306:=0
noncomputable def tw5792407227767346561:=0
noncomputable def tw12773685731770592110:=0
noncomputable def tw6088685845774392931:=0
noncomputable def tw11105056867450500199:=0
noncomputable def tw13743032657059413451:=0
noncomputable def tw4709128311485490483:=0
noncomputable def tw17453365369857097546:=0
noncomputable def tw15894371620910866019:=0
noncomputable def tw9592777112578238593:=0
noncomputable def tw15798066900824788120:=0
noncomputable def tw649443455394278489:=0
noncomputable def tw15510365090734361527:=0
noncomputable def tw15895748673760503845:=0
noncomputable def tw12310735299239354703:=0
noncomputable def tw16966009324859112401:=0
noncomputable def tw2428695696106030784:=0
noncomputable def tw1992862871153497056:=0
noncomputable def tw1319983325249436295:=0
noncomputable def tw1082313596108445148:=0
noncomputable def tw14112051064653734678:=0
noncomputable def tw18007968972792079559:=0
noncomputable def tw10270352894671993868:=0
noncomputable def tw6880043348581005364:=0
noncomputable def tw5737951250597237232:=0
noncomputable def tw4277651752456152607:=0
noncomputable def tw3501597964444990463:=0
noncomputable def tw4972248218790579157:=0
noncomputable def tw10668533816033670360:=0
noncomputable def tw12362083183470981646:=0
noncomputable def tw16769997242578385675:=0
noncomputable def tw7148437315225170067:=0
noncomputable def tw6871339299614917876:=0
noncomputable def tw3690969761935527329:=0
noncomputable def tw15794997505209512671:=0
noncomputable def tw5723944856813171866:=0
noncomputable def tw15785421084128741142:=0
noncomputable def tw12024539317367501503:=0
noncomputable def tw12207028300977255130:=0
noncomputable def tw11063524718261073790:=0
noncomputable def tw3986194592780655508:=0
noncomputable def tw13002585709282622103:=0
noncomputable def tw1919001801439425371:=0
noncomputable def tw12892129938458570674:=0
noncomputable def tw8182079617134344778:=0
noncomputable def tw3160712208675142370:=0
noncomputable def tw12460202669355646752:=0
noncomputable def tw16128420640991077102:=0
noncomputable def tw7802898811600756450:=0
noncomputable def tw5944575059761466720:=0
noncomputable def tw7616930195647119758:=0
noncomputable def tw15091486752826498866:=0
noncomputable def tw11485113708198979986:=0
noncomputable def tw9827913525700040407:=0
noncomputable def tw5986637957666399235:=0
noncomputable def tw14628233357713752721:=0
noncomputable def tw3368474557548986910:=0
noncomputable def tw9658139154387788515:=0
noncomputable def tw8603420104599213669:=0
noncomputable def tw5617373736292572815:=0
noncomputable def tw11308087075614649832:=0
noncomputable def tw9978949632667528635:=0
noncomputable def tw9162278640276766204:=0
noncomputable def tw3790771472595898956:=0
noncomputable def tw7494366503370351645:=0
noncomputable def tw7748693106545578708:=0
noncomputable def tw6857060684267632606:=0
noncomputable def tw13276723143375012678:=0
noncomputable def tw13600378441667735501:=0
noncomputable def tw11988142204041823098:=0
noncomputable def tw17674571679781333832:=0
noncomputable def tw12858780395421280599:=0
noncomputable def tw16065720564569863766:=0
noncomputable def tw5788964047882338313:=0
noncomputable def tw14028522991509751376:=0
noncomputable def tw1172538174109094731:=0
noncomputable def tw17844492200522320778:=0
noncomputable def tw8035625575855466936:=0
noncomputable def tw14676189674455941282:=0
noncomputable def tw15647610678857825673:=0
noncomputable def tw2545145822199252752:=0
noncomputable def tw12359489953124434286:=0
noncomputable def tw17002534310236347988:=0
noncomputable def tw10510622979536455646:=0
noncomputable def tw527386997569798941:=0
noncomputable def tw6202090305015876224:=0
noncomputable def tw9646481798937456297:=0
noncomputable def tw17093656651364094606:=0
noncomputable def tw13295774097974887486:=0
noncomputable def tw174166394780034911:=0
noncomputable def tw10467814448475477596:=0
noncomputable def tw13537664574400122534:=0
noncomputable def tw9802980913210911633:=0
noncomputable def tw13478637309914159250:=0
noncomputable def tw7680146299302783591:=0
noncomputable def tw9984397402777080727:=0
noncomputable def tw4160124254940468481:=0
noncomputable def tw4975070653579243887:=0
noncomputable def tw17113217626458354986:=0
noncomputable def tw6763335052953634553:=0
noncomputable def tw14788773977795034992:=0
noncomputable def tw17782148633632673465:=0
noncomputable def tw497287684792784471:=0
noncomputable def tw10812213935944405949:=0
noncomputable def tw14969872817325187116:=0
noncomputable def tw14364637388885140079:=0
noncomputable def tw6588589085864783938:=0
noncomputable def tw1618804561499322139:=0
noncomputable def tw8997269238129315039:=0
noncomputable def tw10573961123116132518:=0
noncomputable def tw11005904730967762025:=0
noncomputable def tw17275705279478898512:=0
noncomputable def tw9082462177598256812:=0
noncomputable def tw3453547403478019728:=0
noncomputable def tw1211024037004892549:=0
noncomputable def tw10519217271611395807:=0
noncomputable def tw940147379719373870:=0
noncomputable def tw300626226527484142:=0
noncomputable def tw262713603470380999:=0
noncomputable def tw6507506987150044280:=0
noncomputable def tw12903917746401883607:=0
noncomputable def tw976808484645153763:=0
noncomputable def tw9820158181544301314:=0
noncomputable def tw2237326684586592538:=0
noncomputable def tw12330954535739239725:=0
noncomputable def tw17411354535832351560:=0
noncomputable def tw10205530081349824492:=0
noncomputable def tw9030979908501067730:=0
noncomputable def tw533756555076263647:=0
noncomputable def tw4746297304354101679:=0
noncomputable def tw3688799982635324794:=0
noncomputable def tw7712916153251135833:=0
noncomputable def tw17188972718952451159:=0
noncomputable def tw7906546307943345882:=0
noncomputable def tw315434073420411817:=0
noncomputable def tw1687793838685487538:=0
noncomputable def tw12987040726578829979:=0
noncomputable def tw5508695066786827253:=0
noncomputable def tw9103479521544129834:=0
noncomputable def tw15520248196984853422:=0
noncomputable def tw851385035628625539:=0
noncomputable def tw1643771367246577777:=0
noncomputable def tw9114333099845857663:=0
noncomputable def tw14527164170590304321:=0
noncomputable def tw6079359036626576793:=0
noncomputable def tw742351954350328859:=0
noncomputable def tw12695399030622205104:=0
noncomputable def tw10706776884845955466:=0
noncomputable def tw4273228799998304602:=0
noncomputable def tw10840385229135970747:=0
noncomputable def tw10366927770000222440:=0
noncomputable def tw1748456618969930982:=0
noncomputable def tw15064752311394979489:=0
noncomputable def tw10730805705081004914:=0
noncomputable def tw1852205218256702202:=0
noncomputable def tw18332285231265401824:=0
noncomputable def tw10533634037010066435:=0
noncomputable def tw18051680202136193954:=0
noncomputable def tw7833285031277912329:=0
noncomputable def tw10005452208157733855:=0
noncomputable def tw16640130746408290383:=0
noncomputable def tw11484797826999851062:=0
noncomputable def tw3615648651819825313:=0
noncomputable def tw1620002657737552111:=0
noncomputable def tw8097174177036852075:=0
noncomputable def tw4433315090154635215:=0
noncomputable def tw15296082917334920728:=0
noncomputable def tw10898857373019930491:=0
noncomputable def tw16922147877168347812:=0
noncomputable def tw7805308653706644653:=0
noncomputable def tw12352672977532951062:=0
noncomputable def tw733406405333840765:=0
noncomputable def tw5725584637647431893:=0
noncomputable def tw17332727794074296334:=0
noncomputable def tw1832916270232011604:=0
noncomputable def tw16847831306532103052:=0
noncomputable def tw17552560543380974038:=0
noncomputable def tw14667470093908496907:=0
noncomputable def tw3405375401864073989:=0
noncomputable def tw2154566216772986472:=0
noncomputable def tw8773370040425892893:=0
noncomputable def tw3556061257289618393:=0
noncomputable def tw12870424476946447624:=0
noncomputable def tw13653928888864918839:=0
noncomputable def tw5906749814970224870:=0
noncomputable def tw7013799640231393816:=0
noncomputable def tw12147184966966947637:=0
noncomputable def tw13379354915994877463:=0
noncomputable def tw9495540839478616804:=0
noncomputable def tw8497721794823489343:=0
noncomputable def tw2393098407364606883:=0
noncomputable def tw3547240966391284428:=0
noncomputable def tw573967197379146972:=0
noncomputable def tw12043669396524033845:=0
noncomputable def tw4691952243595246448:=0
noncomputable def tw9515422150858430662:=0
noncomputable def tw44622916816846810:=0
noncomputable def tw5346772772824661884:=0
noncomputable def tw2340069552987342377:=0
noncomputable def tw13198292447841614426:=0
noncomputable def tw15841401105113185080:=0
noncomputable def tw10018764681926925449:=0
noncomputable def tw16894197260953374720:=0
noncomputable def tw6110071263904590700:=0
noncomputable def tw9464831228461672588:=0
noncomputable def tw4708111749353345164:=0
noncomputable def tw9074772780463953568:=0
noncomputable def tw7287109101882759415:=0
noncomputable def tw9083612298779875492:=0
noncomputable def tw5187041380464763778:=0
noncomputable def tw3991279037241028524:=0
noncomputable def tw8866670633112419022:=0
noncomputable def tw9702098958229961203:=0
noncomputable def tw8715499118904818895:=0
noncomputable def tw8216834362191484069:=0
noncomputable def tw18080951475816111786:=0
noncomputable def tw13294958713779813728:=0
noncomputable def tw14943480678444902952:=0
noncomputable def tw17486074103640542121:=0
noncomputable def tw9214367901419015226:=0
noncomputable def tw2581250870941146908:=0
noncomputable def tw16714887947964762639:=0
noncomputable def tw4063747431996464497:=0
noncomputable def tw14417885227837004991:=0
noncomputable def tw11692735721529064706:=0
noncomputable def tw5038994553942263901:=0
noncomputable def tw2554682012703037696:=0
noncomputable def tw2249667046024356820:=0
noncomputable def tw7704315382344345624:=0
noncomputable def tw13078646160514809887:=0
noncomputable def tw14112020806712329415:=0
noncomputable def tw10021064610941686981:=0
noncomputable def tw7313386461004707312:=0
noncomputable def tw17464823870196871000:=0
noncomputable def tw5515381820778694223:=0
noncomputable def tw7277520189549225825:=0
noncomputable def tw3088210815446039105:=0
noncomputable def tw12741294794224977040:=0
noncomputable def tw17789423225533864492:=0
noncomputable def tw13906610036690215845:=0
noncomputable def tw16997897962222511:=0
noncomputable def tw2350586252961548244:=0
noncomputable def tw15035418422258542911:=0
noncomputable def tw1489404036187247834:=0
noncomputable def tw16172288393029767808:=0
noncomputable def tw15735840784391694233:=0
noncomputable def tw16106133796442146334:=0
noncomputable def tw6846866878297920324:=0
noncomputable def tw12763952150808568291:=0
noncomputable def tw3696042808614700290:=0
noncomputable def tw693309671712327132:=0
noncomputable def tw17142359554024780413:=0
noncomputable def tw8549075639274686408:=0
noncomputable def tw5764021196749891206:=0
noncomputable def tw1985537357303476512:=0
noncomputable def tw12740806245664736207:=0
noncomputable def tw6426539377367359892:=0
noncomputable def tw2525317073905713282:=0
noncomputable def tw13357441389134331599:=0
noncomputable def tw13605870324054321959:=0
noncomputable def tw17525636777796739105:=0
noncomputable def tw12364624919760631829:=0
noncomputable def tw2876011056497122456:=0
noncomputable def tw9449176361245260279:=0
noncomputable def tw6684681932595197013:=0
noncomputable def tw7734086686654790897:=0
noncomputable def tw5651425540991249520:=0
noncomputable def tw10356212845559719233:=0
noncomputable def tw3581614266968435656:=0
noncomputable def tw4053978428183960486:=0
noncomputable def tw4885112425497105109:=0
noncomputable def tw604627371996746742:=0
noncomputable def tw3089916443595474862:=0
noncomputable def tw2096541523181747872:=0
noncomputable def tw2864405669816312776:=0
noncomputable def tw13801937863458859944:=0
noncomputable def tw6298033893332097587:=0
noncomputable def tw3973953319845086491:=0
noncomputable def tw6836605351468522007:=0
noncomputable def tw8402214883040486957:=0
noncomputable def tw12775505166333009402:=0
noncomputable def tw17698105195316432488:=0
noncomputable def tw2994366008111725845:=0
noncomputable def tw14969385696402013904:=0
noncomputable def tw7404141018258913797:=0
noncomputable def tw7599496313472250701:=0
noncomputable def tw5015311536963163689:=0
noncomputable def tw14699528089545365996:=0
noncomputable def tw15039987702171664376:=0
noncomputable def tw12182850187970735909:=0
noncomputable def tw140066278072042493:=0
noncomputable def tw11484358847640170188:=0
noncomputable def tw5140934472235413692:=0
noncomputable def tw16111715859725283846:=0
noncomputable def tw17854896373637125580:=0
noncomputable def tw5870146547769353613:=0
noncomputable def tw13381877923881390905:=0
noncomputable def tw9746458257258439470:=0
noncomputable def tw18260194641540637818:=0
noncomputable def tw6889739017440866108:=0
noncomputable def tw4381510469713062047:=0
noncomputable def tw14512941343882779238:=0
noncomputable def tw8185714761375850791:=0
noncomputable def tw8159583801465064534:=0
noncomputable def tw1499353310998574721:=0
noncomputable def tw2753283235347674219:=0
noncomputable def tw12205659690895024086:=0
noncomputable def tw15181326774706428367:=0
noncomputable def tw7928285938522686346:=0
noncomputable def tw12865059321931465230:=0
noncomputable def tw4017301010375394790:=0
noncomputable def tw10010264046613662565:=0
noncomputable def tw4834694072379752904:=0
noncomputable def tw12998212659555988865:=0
noncomputable def tw14061139507663348314:=0
noncomputable def tw14349913743752837093:=0
noncomputable def tw3496171461512900480:=0
noncomputable def tw5092371620264689978:=0
noncomputable def tw4945251732147069371:=0
noncomputable def tw1224924573807776437:=0
noncomputable def tw4235852798576303577:=0
noncomputable def tw1642545813376747948:=0
noncomputable def tw15112835437128306455:=0
noncomputable def tw9325123708862168440:=0
noncomputable def tw10987702880554017565:=0
noncomputable def tw3869590956505411354:=0
noncomputable def tw10504981510240967646:=0
noncomputable def tw7512725033676591148:=0
noncomputable def tw1062042127530464391:=0
noncomputable def tw709382114072422158:=0
noncomputable def tw5401097623525119610:=0
noncomputable def tw3083302935323014018:=0
noncomputable def tw1858285994304674589:=0
noncomputable def tw3185377453876500656:=0
noncomputable def tw6684978435548883818:=0
noncomputable def tw15638870477510070732:=0
noncomputable def tw17826015225549371706:=0
noncomputable def tw9280153536138602973:=0
noncomputable def tw3749026756887285471:=0
noncomputable def tw7789450098604059249:=0
noncomputable def tw8402328212356670530:=0
noncomputable def tw11628534518673281344:=0
noncomputable def tw10242447542790323104:=0
noncomputable def tw12841863872788715202:=0
noncomputable def tw6521490308693473283:=0
noncomputable def tw4387028780061031483:=0
noncomputable def tw3715584954343283195:=0
noncomputable def tw7096138990903361605:=0
noncomputable def tw6587087628758450585:=0
noncomputable def tw8796753266530204203:=0
noncomputable def tw7417405269818204032:=0
noncomputable def tw6212921109956642855:=0
noncomputable def tw11862927689305589065:=0
noncomputable def tw8299393411229908732:=0
noncomputable def tw17017319662998615:=0
noncomputable def tw11194998557105285118:=0
noncomputable def tw17850378814381688901:=0
noncomputable def tw12472887615940459650:=0
noncomputable def tw16874305072444578374:=0
noncomputable def tw14168692526580214153:=0
noncomputable def tw13954853420313727417:=0
noncomputable def tw16659920880120507502:=0
noncomputable def tw12949380547846470161:=0
noncomputable def tw13986843968525588388:=0
noncomputable def tw780477332936465449:=0
noncomputable def tw3665506230870052707:=0
noncomputable def tw16441004959143088680:=0
noncomputable def tw8895791426145780158:=0
noncomputable def tw3512634313551410195:=0
noncomputable def tw13086575352542018947:=0
noncomputable def tw9101448428047585222:=0
noncomputable def tw17958272820484234708:=0
noncomputable def tw15037083628117588352:=0
noncomputable def tw16172356507618199906:=0
noncomputable def tw1389810093214676884:=0
noncomputable def tw10170068340998493759:=0
noncomputable def tw4415685298772064003:=0
noncomputable def tw13213268828098156179:=0
noncomputable def tw1276956409769668328:=0
noncomputable def tw17905491414393134947:=0
noncomputable def tw15506723302920939300:=0
noncomputable def tw7090939061502383884:=0
noncomputable def tw5111174896325423537:=0
noncomputable def tw1917425121527220963:=0
noncomputable def tw17265401458761052179:=0
noncomputable def tw17444863063712431705:=0
noncomputable def tw9133290819911140118:=0
noncomputable def tw1506576300011279404:=0
noncomputable def tw2797894973233656403:=0
noncomputable def tw17508272824862286709:=0
noncomputable def tw15204471325056678010:=0
noncomputable def tw6121141971511671821:=0
noncomputable def tw16871623187472473471:=0
noncomputable def tw12032222614953749359:=0
noncomputable def tw9743709737119245314:=0
noncomputable def tw16278871845796110771:=0
noncomputable def tw4607607821588926596:=0
noncomputable def tw15796087645652482245:=0
noncomputable def tw8627200689577751383:=0
noncomputable def tw3547030090768783262:=0
noncomputable def tw5612995960945425718:=0
noncomputable def tw11714945338242495837:=0
noncomputable def tw12851702773856589430:=0
noncomputable def tw9325057278558614444:=0
noncomputable def tw11820730986300896962:=0
noncomputable def tw1673358830478937286:=0
noncomputable def tw2203363585012173787:=0
noncomputable def tw14679116673082234219:=0
noncomputable def tw8382746154173761051:=0
noncomputable def tw17700853532424174462:=0
noncomputable def tw16072502192527678464:=0
noncomputable def tw2518057956044344595:=0
noncomputable def tw7688317290187622652:=0
noncomputable def tw14842460003800876886:=0
noncomputable def tw16782820856776367440:=0
noncomputable def tw10900948863051656163:=0
noncomputable def tw7661765248129044261:=0
noncomputable def tw9716329373054682134:=0
noncomputable def tw6772502638888315869:=0
noncomputable def tw13353151263460963528:=0
noncomputable def tw10748227973586771634:=0
noncomputable def tw11097941207591946120:=0
noncomputable def tw13988103294471073821:=0
noncomputable def tw739537129135343663:=0
noncomputable def tw9145527808636388435:=0
noncomputable def tw9380374249521086144:=0
noncomputable def tw8408249889716310983:=0
noncomputable def tw15782939476341012554:=0
noncomputable def tw14393718171448925343:=0
noncomputable def tw1858156416291392539:=0
noncomputable def tw10872037306656784433:=0
noncomputable def tw6247268493268985975:=0
noncomputable def tw13510609219080548989:=0
noncomputable def tw5319049981483164881:=0
noncomputable def tw11124748197601291601:=0
noncomputable def tw10875119458065257276:=0
noncomputable def tw14432977821161478157:=0
noncomputable def tw14385403278947933607:=0
noncomputable def tw14492117785962260688:=0
noncomputable def tw1937370526825066196:=0
noncomputable def tw1522823579158628613:=0
noncomputable def tw1626232751844553403:=0
noncomputable def tw3103639331685909893:=0
noncomputable def tw1519320592345488741:=0
noncomputable def tw5274623360512300857:=0
noncomputable def tw8409189969818401543:=0
noncomputable def tw8988664977312594650:=0
noncomputable def tw7119846925741900413:=0
noncomputable def tw5593727005144783397:=0
noncomputable def tw17608190574486352970:=0
noncomputable def tw8414573866900348196:=0
noncomputable def tw7027933747626071476:=0
noncomputable def tw5487235932777146282:=0
noncomputable def tw4932745802714450591:=0
noncomputable def tw9625377726130185387:=0
noncomputable def tw4311042196063409733:=0
noncomputable def tw2400818531096893172:=0
noncomputable def tw2260579728952749127:=0
noncomputable def tw17362218986543327160:=0
noncomputable def tw7732209734871044160:=0
noncomputable def tw10786079294511566085:=0
noncomputable def tw6737735255597943219:=0
noncomputable def tw9202431907968578930:=0
noncomputable def tw7498250532897285284:=0
noncomputable def tw5467695095851852608:=0
noncomputable def tw5973763720392745831:=0
noncomputable def tw5638995163158488052:=0
noncomputable def tw10059252607514160932:=0
noncomputable def tw15326552575505426906:=0
noncomputable def tw6640010369347007910:=0
noncomputable def tw18416563613846182222:=0
noncomputable def tw13199516396595161752:=0
noncomputable def tw3264716943610762504:=0
noncomputable def tw5104563664521345299:=0
noncomputable def tw13180129090757240718:=0
noncomputable def tw17243387458012846398:=0
noncomputable def tw6240353410654795137:=0
noncomputable def tw1212124681294104184:=0
end Mine.head
set_option Elab.async true
namespace Mine
set_option maxRecDepth 100000 in
set_option maxHeartbeats 8000000 in
theorem head : PySem.Challenge.rw_xm0460_01.Holds := by
  (w_on; o_law; k_head; (case hw => w_witness2); all_goals skip)
  k_go0
  refine Mine.fin (ns := by assumption) (by assumption) ?hC ?hB ?hE (by omega) (Top.g (by assumption)) (Top.b (by assumption)) (Top.builtins (by assumption)) (Top.nolimit (by assumption)) (by assumption) (by assumption) (by assumption) (by assumption) (by first | rfl | assumption) ?hbody ?hn ?hp rfl rfl (by decide)
  case hC => kernel_rfl
  case hB => unfold Mine.BndOk; kernel_rfl
  case hE => kernel_rfl
  case hbody => first | rfl | kernel_rfl
  case hn => intro cls; rfl
  case hp => kernel_rfl
end Mine

theorem PySem.Challenge.cw_xm0460_01_holds : PySem.Challenge.rw_xm0460_01.Holds :=
  Mine.head
