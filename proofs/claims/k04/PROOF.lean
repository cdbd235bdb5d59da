import PyProof.Rows.All
import Wide.All
import OpenK.AllK
import Wide.FinOn
import HandS.Iter
import HandS.ForMost
import KE.DataCmp
import PyProof.ReprRoads
import HandS.ForExc
import HandS.ExcCtx
import HandS.HotCalls
import HandS.Flow
import HandS.TupMul
import HandS.Conv
import PyProof.StrBlock2
import HandS.Text
import PyProof.P3In
import HandS.ExcOwn
import HandS.Star
import HandS.Style
import HandS.Dict
import HandS.Replace
import HandS.SetFor
import HandS.SetKeys
import HandS.More
import PyProof.Rows.SortShellAny
import HandS.Strs
import HandS.TryOnly
import HandS.Zip
import KE.GoesEnum
import HandS.Comp
import HandS.Call
import HandS.Defaults
import HandS.ExcIs
import KE.KStateDown
import HandS.Ends
import HandS.Words
import HandS.WordsExc
import HandS.Head0
import HandS.Head1
import HandS.Head2
import HandS.HeadEnd
import HandS.HeadHook1
import HandS.HeadHook2
import PySem.Challenge.RW_nestward_k04_machines_and_traces
set_option Elab.async false
set_option linter.all false
set_option maxRecDepth 100000
namespace DD
open PySem PySem.Spec PyProof.Rows L2

/-- plain data; o: the top node is owned (may be changed through its one holder) -/
inductive D where
  | non | bl (b : Bool) | int (i : Int) | str (s : Str)
  | tup (xs : List D)
  | lst (o : Bool) (xs : List D)
  | fn (n : Nat)
  | plc (i : Nat)
  | ext (xs : List D)
  | pr (a b : D)
deriving BEq, Repr, Inhabited

mutual
def D.fz : D → D
  | .tup xs => .tup (D.fzL xs)
  | .lst _ xs => .lst false (D.fzL xs)
  | .ext xs => .ext (D.fzL xs)
  | .pr a b => .pr a.fz b.fz
  | d => d
def D.fzL : List D → List D
  | [] => []
  | x :: xs => x.fz :: D.fzL xs
end
mutual
def D.isFz : D → Bool
  | .tup xs => D.isFzL xs
  | .lst o xs => !o && D.isFzL xs
  | .ext xs => D.isFzL xs
  | .pr a b => a.isFz && b.isFz
  | _ => true
def D.isFzL : List D → Bool
  | [] => true
  | x :: xs => x.isFz && D.isFzL xs
end

abbrev AS := Addr → Prop
/-- how data lie in the heap: F what never changes, H all; S bounds what is owned -/
def Sub (F H : Hp) : Prop := ∀ a o, F a = some o → H a = some o
/-- a tuple without a dict of its own -/
def PlT (F : Hp) (a : Addr) (vs : List V) : Prop := ∃ o : Obj, F a = some (.frz o (.tup vs)) ∧ o.dict = none
variable (K : PySem.W.Frag) (F H : Hp)
mutual
def Rep : D → V → AS → Prop
  | .non, v, _ => v = .non
  | .bl b, v, _ => v = .bl b
  | .int i, v, _ => v = .int i
  | .str s, v, _ => v = .str s ∧ PyData.strOk s = true
  | .tup xs, v, S => ∃ a vs, v = .ref a ∧ PlT F a vs ∧ RepL xs vs S
  | .lst o xs, v, S => ∃ a vs, v = .ref a ∧ (match o with
      | false => F a = some (.lst vs) ∧ RepL xs vs (fun _ => False)
      | true => H a = some (.lst vs) ∧ S a ∧ RepL xs vs (fun b => S b ∧ b ≠ a))
  | .ext xs, v, S => ∃ a vs, v = .ref a ∧ SqL K F a vs ∧ RepL xs vs S
  | .pr x y, v, _ => ∃ a u w, v = .ref a ∧ SqT K F a [u, w] ∧ Rep x u (fun _ => False) ∧ Rep y w (fun _ => False)
  | .fn _, _, _ => False
  | .plc _, _, _ => False
def RepL : List D → List V → AS → Prop
  | [], vs, _ => vs = []
  | x :: xs, vs, S => ∃ v r S1 S2, vs = v :: r ∧ (∀ a, S1 a → S a) ∧ (∀ a, S2 a → S a) ∧ (∀ a, S1 a → S2 a → False) ∧ Rep x v S1 ∧ RepL xs r S2
end

variable {K F H}
theorem Sub.refl : Sub F F := fun _ _ e => e
theorem Sub.trans {F F' F'' : Hp} (h : Sub F F') (h' : Sub F' F'') : Sub F F'' := fun a o e => h' a o (h a o e)
theorem Sub.rd {F F' : Hp} (h : Sub F F') {a : Addr} {u : HO} (r : Rd F a u) : Rd F' a u := r.elim (fun e => .inl (h _ _ e)) fun ⟨o, e⟩ => .inr ⟨o, h _ _ e⟩
theorem Sub.seqT {F F' : Hp} (h : Sub F F') {a : Addr} {xs : List V} (r : SqT K F a xs) : SqT K F' a xs := r.elim (fun e => .inl (h.rd e)) .inr
theorem Sub.seqL {F F' : Hp} (h : Sub F F') {a : Addr} {xs : List V} (r : SqL K F a xs) : SqL K F' a xs := r.elim (fun e => .inl (h.rd e)) .inr
theorem Sub.plT {F F' : Hp} (h : Sub F F') {a : Addr} {xs : List V} (r : PlT F a xs) : PlT F' a xs := let ⟨o, e, d⟩ := r; ⟨o, h _ _ e, d⟩
theorem PlT.seqT {F : Hp} {a : Addr} {xs : List V} (r : PlT F a xs) : SqT K F a xs := let ⟨o, e, _⟩ := r; .inl (.inr ⟨o, e⟩)
theorem Sub.upd {F : Hp} {a : Addr} {o : HO} (h : F a = none) : Sub F (upd F a o) := fun b u e => by rw [upd_ne (ne_of_none e h)]; exact e

mutual
theorem Rep.keep {F' H' : Hp} (hF : Sub F F') : ∀ (d : D) {v : V} {S S' : AS}, (∀ a, S a → S' a) → (∀ a o, S a → H a = some o → H' a = some o) → Rep K F H d v S → Rep K F' H' d v S'
  | .non, _, _, _, _, _, h => h
  | .bl _, _, _, _, _, _, h => h
  | .int _, _, _, _, _, _, h => h
  | .str _, _, _, _, _, _, h => h
  | .fn _, _, _, _, _, _, h => h
  | .plc _, _, _, _, _, _, h => h
  | .tup xs, v, S, S', m, k, ⟨a, vs, e, h1, h2⟩ => ⟨a, vs, e, hF.plT h1, RepL.keep hF xs m k h2⟩
  | .pr x y, v, S, S', m, k, ⟨a, u, w, e, h1, h2, h3⟩ => ⟨a, u, w, e, hF.seqT h1, Rep.keep hF x (fun _ z => z) (fun _ _ z => z.elim) h2, Rep.keep hF y (fun _ z => z) (fun _ _ z => z.elim) h3⟩
  | .ext xs, v, S, S', m, k, ⟨a, vs, e, h1, h2⟩ => ⟨a, vs, e, hF.seqL h1, RepL.keep hF xs m k h2⟩
  | .lst false xs, v, S, S', m, k, ⟨a, vs, e, h1, h2⟩ => ⟨a, vs, e, hF _ _ h1, RepL.keep hF xs (fun _ z => z) (fun _ _ z => z.elim) h2⟩
  | .lst true xs, v, S, S', m, k, ⟨a, vs, e, h1, h2, h3⟩ => ⟨a, vs, e, k _ _ h2 h1, m _ h2, RepL.keep hF xs (fun b z => ⟨m _ z.1, z.2⟩) (fun b o z => k b o z.1) h3⟩
theorem RepL.keep {F' H' : Hp} (hF : Sub F F') : ∀ (ds : List D) {vs : List V} {S S' : AS}, (∀ a, S a → S' a) → (∀ a o, S a → H a = some o → H' a = some o) → RepL K F H ds vs S → RepL K F' H' ds vs S'
  | [], _, _, _, _, _, h => h
  | x :: xs, vs, S, S', m, k, ⟨v, r, S1, S2, e, m1, m2, dj, h1, h2⟩ =>
    ⟨v, r, S1, S2, e, fun a z => m _ (m1 a z), fun a z => m _ (m2 a z), dj, Rep.keep hF x (fun _ z => z) (fun a o z => k a o (m1 a z)) h1, RepL.keep hF xs (fun _ z => z) (fun a o z => k a o (m2 a z)) h2⟩
end
mutual
theorem Rep.fzd : ∀ (d : D) {v : V} {S S' : AS}, d.isFz = true → Rep K F H d v S → Rep K F H d v S'
  | .non, _, _, _, _, h => h
  | .bl _, _, _, _, _, h => h
  | .int _, _, _, _, _, h => h
  | .str _, _, _, _, _, h => h
  | .fn _, _, _, _, _, h => h
  | .tup xs, v, S, S', z, ⟨a, vs, e, h1, h2⟩ => ⟨a, vs, e, h1, RepL.fzd xs z h2⟩
  | .ext xs, v, S, S', z, ⟨a, vs, e, h1, h2⟩ => ⟨a, vs, e, h1, RepL.fzd xs z h2⟩
  | .pr x y, v, S, S', z, h => h
  | .lst false xs, v, S, S', z, ⟨a, vs, e, h1, h2⟩ => ⟨a, vs, e, h1, h2⟩
  | .lst true xs, v, S, S', z, _ => by simp [D.isFz] at z
theorem RepL.fzd : ∀ (ds : List D) {vs : List V} {S S' : AS}, D.isFzL ds = true → RepL K F H ds vs S → RepL K F H ds vs S'
  | [], _, _, _, _, h => h
  | x :: xs, vs, S, S', z, ⟨v, r, S1, S2, e, m1, m2, dj, h1, h2⟩ => by
    simp only [D.isFzL, Bool.and_eq_true] at z
    exact ⟨v, r, fun _ => False, fun _ => False, e, fun _ q => q.elim, fun _ q => q.elim, fun _ q => q.elim, Rep.fzd x z.1 h1, RepL.fzd xs z.2 h2⟩
end
mutual
theorem Rep.freeze : ∀ (d : D) {F : Hp} {v : V} {S : AS}, Sub F H → (∀ a, S a → F a = none) → Rep K F H d v S →
    ∃ F', Sub F F' ∧ Sub F' H ∧ (∀ a, F' a ≠ none → F a ≠ none ∨ S a) ∧ Rep K F' H d.fz v fun _ => False
  | .non, F, _, _, s, _, h => ⟨F, .refl, s, fun _ z => .inl z, h⟩
  | .bl _, F, _, _, s, _, h => ⟨F, .refl, s, fun _ z => .inl z, h⟩
  | .int _, F, _, _, s, _, h => ⟨F, .refl, s, fun _ z => .inl z, h⟩
  | .str _, F, _, _, s, _, h => ⟨F, .refl, s, fun _ z => .inl z, h⟩
  | .fn _, F, _, _, s, _, h => ⟨F, .refl, s, fun _ z => .inl z, h⟩
  | .plc _, F, _, _, s, _, h => ⟨F, .refl, s, fun _ z => .inl z, h⟩
  | .tup xs, F, v, S, s, o, ⟨a, vs, e, h1, h2⟩ => by
    obtain ⟨F', f1, f2, f3, f4⟩ := RepL.freeze xs s o h2
    exact ⟨F', f1, f2, f3, a, vs, e, f1.plT h1, f4⟩
  | .pr x y, F, v, S, s, o, ⟨a, u, w, e, h1, h2, h3⟩ => by
    obtain ⟨F1, f1, f2, f3, f4⟩ := Rep.freeze x (S := fun _ => False) s (fun _ z => z.elim) h2
    obtain ⟨F2, g1, g2, g3, g4⟩ := Rep.freeze y (S := fun _ => False) f2 (fun _ z => z.elim) (Rep.keep f1 y (fun _ z => z) (fun _ _ z => z.elim) h3)
    exact ⟨F2, f1.trans g1, g2, fun a z => (g3 a z).elim (fun y => (f3 a y).elim .inl fun q => q.elim) fun q => q.elim, a, u, w, e, (f1.trans g1).seqT h1, Rep.keep g1 _ (fun _ z => z) (fun _ _ z => z.elim) f4, g4⟩
  | .ext xs, F, v, S, s, o, ⟨a, vs, e, h1, h2⟩ => by
    obtain ⟨F', f1, f2, f3, f4⟩ := RepL.freeze xs s o h2
    exact ⟨F', f1, f2, f3, a, vs, e, f1.seqL h1, f4⟩
  | .lst false xs, F, v, S, s, o, ⟨a, vs, e, h1, h2⟩ => by
    obtain ⟨F', f1, f2, f3, f4⟩ := RepL.freeze xs (S := fun _ => False) s (fun _ z => z.elim) h2
    exact ⟨F', f1, f2, fun a z => (f3 a z).elim .inl (fun q => q.elim), a, vs, e, f1 _ _ h1, f4⟩
  | .lst true xs, F, v, S, s, o, ⟨a, vs, e, h1, h2, h3⟩ => by
    obtain ⟨F', f1, f2, f3, f4⟩ := RepL.freeze xs s (fun b z => o b z.1) h3
    have hn : F' a = none := by
      cases q : F' a with
      | none => rfl
      | some u => exact ((f3 a (by rw [q]; simp)).elim (fun z => z (o a h2)) fun z => z.2 rfl).elim
    refine ⟨upd F' a (.lst vs), f1.trans (.upd hn), fun b u q => ?_, fun b q => ?_, a, vs, e, upd_same, RepL.keep (.upd hn) _ (fun _ z => z) (fun _ _ z => z.elim) f4⟩
    · by_cases hb : b = a
      · subst hb; rw [upd_same] at q; cases q; exact h1
      · rw [upd_ne hb] at q; exact f2 b u q
    · by_cases hb : b = a
      · subst hb; exact .inr h2
      · rw [upd_ne hb] at q; exact (f3 b q).elim .inl fun z => .inr z.1
theorem RepL.freeze : ∀ (ds : List D) {F : Hp} {vs : List V} {S : AS}, Sub F H → (∀ a, S a → F a = none) → RepL K F H ds vs S →
    ∃ F', Sub F F' ∧ Sub F' H ∧ (∀ a, F' a ≠ none → F a ≠ none ∨ S a) ∧ RepL K F' H (D.fzL ds) vs fun _ => False
  | [], F, _, _, s, _, h => ⟨F, .refl, s, fun _ z => .inl z, h⟩
  | x :: xs, F, vs, S, s, o, ⟨v, r, S1, S2, e, m1, m2, dj, h1, h2⟩ => by
    obtain ⟨F1, f1, f2, f3, f4⟩ := Rep.freeze x s (fun a z => o a (m1 a z)) h1
    have h2' : RepL K F1 H xs r S2 := RepL.keep f1 xs (fun _ z => z) (fun _ _ _ z => z) h2
    obtain ⟨F2, g1, g2, g3, g4⟩ := RepL.freeze xs f2 (fun a z => by
      cases q : F1 a with
      | none => rfl
      | some u => exact ((f3 a (by rw [q]; simp)).elim (fun y => y (o a (m2 a z))) fun y => dj a y z).elim) h2'
    refine ⟨F2, f1.trans g1, g2, fun a z => (g3 a z).elim (fun y => (f3 a y).imp id (m1 a)) fun y => .inr (m2 a y), v, r, fun _ => False, fun _ => False, e, fun _ q => q.elim, fun _ q => q.elim, fun _ q => q.elim, Rep.keep g1 _ (fun _ z => z) (fun _ _ z => z.elim) f4, g4⟩
end
end DD

set_option Elab.async false
set_option linter.all false
set_option maxRecDepth 100000
namespace DD
open PySem PySem.Spec PyProof.Rows L2

abbrev Env := List (Option D)
inductive R (α : Type) where
  | ok (a : α) (e : Env)
  | exc (x : Nat) (e : Env)
  | bad
def R.bind {α β : Type} : R α → (α → Env → R β) → R β
  | .ok a e, f => f a e
  | .exc x e, _ => .exc x e
  | .bad, _ => .bad
/-- how a def ends: its value, or a class of error; what its in-and-out parameters hold -/
inductive FR where
  | ret (d : D) (outs : List D)
  | exc (x : Nat) (outs : List D)
  | bad
inductive Fl where
  | nx | rt (d : D) | bk | ct
/-- what the module's names mean: nm the names, fn the defs, cst the constants -/
structure Glb where
  nm : Nat → Str
  fn : Nat → Option (List D → FR)
  io : Nat → List Nat
  cst : Nat → Option D
  /-- except x as e: return the law's word for k -/
  le : Nat → Nat → Option D
  /-- is class k one of class x? -/
  sub : Nat → Nat → Option Bool := fun _ _ => none

def lim : Nat := 16777216
inductive Blt where
  | len | abs | min | max | sum | all | any | int | list | tuple | str | bool | repr
deriving DecidableEq, Repr
inductive Cm where
  | eq | ne | lt | le | gt | ge | in_ | nin | is_ | isnot
deriving DecidableEq, Repr
inductive Op1 where
  | rev | sset
deriving DecidableEq, Repr
inductive Bo where
  | add | sub | mul | fdiv | mod | pow
deriving DecidableEq, Repr

mutual
inductive Ex where
  | nop
  | cst (d : D)
  | var (i : Nat)
  | mv (i : Nat)
  | plc (i : Nat)
  | glo (c : Nat)
  | bin (o : Bo) (a b : Ex)
  | neg (a : Ex)
  | fz (a : Ex)
  | cmp (o : Cm) (a b : Ex)
  | chn (o o' : Cm) (a b c : Ex)
  | and (es : Exs)
  | or (es : Exs)
  | not (a : Ex)
  | ife (t a b : Ex)
  | ix (a i : Ex)
  | sl (a lo hi : Ex)
  | tup (es : Exs)
  | lst (es : Exs)
  | blt (f : Blt) (es : Exs)
  | lrng (es : Exs)
  | call (f : Nat) (es : Exs)
  | lc (elt : Ex) (tg : Tg) (it : It) (cond : Exs) (own : List Nat)
  | app (i : Nat) (e : Ex)
  | pop (i : Nat)
  | ext (i : Nat) (e : Ex)
  | op1 (o : Op1) (a : Ex)
  | sidx (z : Str) (a : Ex)
  | dget (kvs : List (Nat × Nat)) (k d : Ex)
  | callAt (fs : List Nat) (i : Ex) (es : Exs)
  | fidx (t : Bool) (a b : Ex)
inductive Exs where
  | nil
  | cons (e : Ex) (r : Exs)
  | star (e : Ex) (r : Exs)
inductive Tg where
  | nm (i : Nat)
  | tup (ts : Tgs)
  | sub (i : Nat) (e : Ex)
inductive Tgs where
  | nil
  | cons (t : Tg) (r : Tgs)
inductive It where
  | val (e : Ex)
  | rng (es : Exs)
  | enum (e : Ex)
  | zip (a b : Ex)
end
mutual
inductive Stm where
  | expr (e : Ex)
  | asg (t : Tg) (e : Ex)
  | aug (i : Nat) (o : Bo) (e : Ex)
  | ret (e : Ex)
  | retN
  | ife (t : Ex) (a b : Stms)
  | whl (t : Ex) (b : Stms)
  | for_ (t : Tg) (it : It) (b : Stms)
  | brk
  | cnt
  | pss
  | raise (x : Nat)
  | tryL (b : Stms) (x : Nat) (i : Nat)
  | tryC (b : Stms) (hs : List (Nat × Option Nat × D))
inductive Stms where
  | nil
  | cons (s : Stm) (r : Stms)
  | fgt (own : List Nat) (r : Stms)
end

/-! ### operations on data -/
mutual
def D.py : D → PyData
  | .non => .none
  | .bl b => .bool b
  | .int i => .int i
  | .str s => .str s
  | .tup xs => .tuple (D.pyL xs)
  | .lst _ xs => .list (D.pyL xs)
  | .ext xs => .list (D.pyL xs)
  | .fn _ => .none
  | .plc _ => .none
  | .pr _ _ => .none
def D.pyL : List D → List PyData
  | [] => []
  | x :: xs => x.py :: D.pyL xs
end
def deq (a b : D) : Bool := PyData.eqv a.py b.py
mutual
/-- data without defs, at most so deep -/
def dle : Nat → D → Bool
  | n, .tup xs => match n with | 0 => false | n + 1 => dleL n xs
  | n, .lst _ xs => match n with | 0 => false | n + 1 => dleL n xs
  | _, .fn _ => false
  | _, .ext _ => false
  | _, .plc _ => false
  | _, .pr _ _ => false
  | _, _ => true
def dleL : Nat → List D → Bool
  | _, [] => true
  | n, x :: xs => dle n x && dleL n xs
end
/-- no further from 0 than m: told so that nothing runs on it -/
def inR (i : Int) (m : Nat) : Bool := Nat.ble i.natAbs m
theorem inR_le {i : Int} {m : Nat} (h : inR i m = true) : -(m : Int) ≤ i ∧ i ≤ m := by
  have := Nat.le_of_ble_eq_true h
  omega
theorem inR_of {i : Int} {m : Nat} (h1 : -(m : Int) ≤ i) (h2 : i ≤ m) : inR i m = true := Nat.ble_eq_true_of_le (by omega)
def small (i : Int) : Bool := inR i 18000000000000000000
def idx (i : Int) : Bool := inR i 4000000000000000000
def bop : Bo → D → D → Option D
  | .add, .int a, .int b => some (.int (a + b))
  | .add, .str a, .str b => if a.length + b.length ≤ lim then some (.str (a ++ b)) else none
  | .add, .tup a, .tup b => if a.length + b.length ≤ lim then some (.tup (a ++ b)) else none
  | .add, .lst _ a, .lst _ b => if a.length + b.length ≤ lim then some (.lst true (a ++ b)) else none
  | .sub, .int a, .int b => some (.int (a - b))
  | .mul, .int a, .int b => if small a || small b then some (.int (a * b)) else none
  | .mul, .str a, .int k => if 2 ≤ k ∧ k ≤ 1000 ∧ 1 ≤ a.length ∧ a.length ≤ 1000 then some (.str ⟨(List.replicate k.toNat a.cps.toList).flatten.toArray⟩) else none
  | .mul, .lst _ a, .int k => if idx k = true ∧ a.length * k.toNat ≤ lim then some (.lst true (List.replicate k.toNat a).flatten) else none
  | .mul, .tup a, .int k => if !a.isEmpty ∧ 0 ≤ k ∧ k ≤ 1000 ∧ a.length ≤ 1000 then some (.tup (List.replicate k.toNat a).flatten) else none
  | .fdiv, .int a, .int b => if 0 < b ∧ inR b 1073741823 = true then some (.int (a / b)) else none
  | .mod, .int a, .int b => if 0 < b then some (.int (a % b)) else none
  | .pow, .int a, .int b => if 0 ≤ b ∧ inR b 1000000 = true ∧ small a = true then some (.int (a ^ b.toNat)) else none
  | _, _, _ => none
def seq? : D → Option (List D)
  | .tup xs => some xs
  | .lst _ xs => some xs
  | .ext xs => some xs
  | _ => none
def isin (x y : D) : Option Bool :=
  match y with
  | .ext _ => none
  | .str t => match x with
    | .str s => if s.length = 1 then some (decide (s.cps.getD 0 0 ∈ t.cps.toList)) else none
    | _ => none
  | _ => match seq? y with
    | some ys => if dle 60 x && dleL 60 ys then some (ys.any fun y => deq y x) else none
    | none => none
/-- two tuples, two lists: place by place -/
def dlt (a b : D) : Option Bool := if dle 60 a && (dle 60 b && PySem.W.alike a.py b.py) then some (PySem.W.dataLt a.py b.py) else none
def isNonD : D → Bool
  | .non => true
  | _ => false
def cop : Cm → D → D → Option Bool
  | .eq, a, b => if dle 60 a && dle 60 b then some (deq a b) else none
  | .ne, a, b => if dle 60 a && dle 60 b then some (!deq a b) else none
  | .lt, .int a, .int b => some (decide (a < b))
  | .le, .int a, .int b => some (decide (a ≤ b))
  | .gt, .int a, .int b => some (decide (b < a))
  | .ge, .int a, .int b => some (decide (b ≤ a))
  | .lt, .str a, .str b => some (decide (a.cps.toList < b.cps.toList))
  | .lt, .tup a, .tup b => dlt (.tup a) (.tup b)
  | .lt, .lst o a, .lst o' b => dlt (.lst o a) (.lst o' b)
  | .in_, a, b => isin a b
  | .nin, a, b => (isin a b).map (!·)
  | .is_, a, .non => some (isNonD a)
  | .isnot, a, .non => some (!isNonD a)
  | _, _, _ => none
def truth : D → Option Bool
  | .non => some false
  | .bl b => some b
  | .int i => some (i != 0)
  | .str s => if s.length ≤ lim then some (s.length != 0) else none
  | .tup xs => some (!xs.isEmpty)
  | .lst _ xs => some (!xs.isEmpty)
  | .ext xs => some (!xs.isEmpty)
  | _ => none
def ixop : D → D → Option D
  | .tup xs, .int i => atI xs i
  | .lst _ xs, .int i => atI xs i
  | .ext xs, .int i => atI xs i
  | .str s, .int i => if s.length ≤ lim then (atI s.cps.toList i).map fun c => .str ⟨#[c]⟩ else none
  | _, _ => none
/-- a slice's bounds among n -/
def cutL {α : Type} (xs : List α) (lo hi : Option Int) : List α := (xs.drop (HT.sIx xs.length 0 lo)).take (HT.sIx xs.length xs.length hi - HT.sIx xs.length 0 lo)
def slop (a : D) (lo hi : Option Int) : Option D :=
  match a with
  | .tup xs => some (.tup (cutL xs lo hi))
  | .lst _ xs => some (.lst true (cutL xs lo hi))
  | .ext xs => some (.lst true (cutL xs lo hi))
  | _ => none
def asI : List D → Option (List Int)
  | [] => some []
  | .int i :: r => (asI r).map (i :: ·)
  | _ => none
def asB : List D → Option (List Bool)
  | [] => some []
  | .bl i :: r => (asB r).map (i :: ·)
  | _ => none
def minI : List Int → Option Int
  | [] => none
  | x :: r => some (r.foldl (fun a b => if b < a then b else a) x)
def maxI : List Int → Option Int
  | [] => none
  | x :: r => some (r.foldl (fun a b => if b > a then b else a) x)
def lenD (d : D) : Option D := match d with
  | .str s => if s.length ≤ lim then some (.int s.length) else none
  | d => (seq? d).map fun xs => .int xs.length
/-- its text is not too long -/
def okR (d : D) : Bool := dle 60 d && (d.py.showable && (decide (d.py.shown.length ≤ lim) && PyData.strOk d.py.shown))
def asS : List D → Option (List Str)
  | [] => some []
  | .str i :: r => (asS r).map (i :: ·)
  | _ => none
def insS (x : Str) : List Str → List Str
  | [] => [x]
  | y :: r => if x.cps.toList < y.cps.toList then x :: y :: r else if x = y then y :: r else y :: insS x r
/-- the texts, in order, each once -/
def sortS (xs : List Str) : List Str := xs.foldr insS []
def insI (x : Int) : List Int → List Int
  | [] => [x]
  | y :: r => if x < y then x :: y :: r else if x = y then y :: r else y :: insI x r
/-- the ints, in order, each once -/
def sortI (xs : List Int) : List Int := xs.foldr insI []
def ksrt (xs : List D) : Option (List D) := match asS xs with
  | some ss => if ss.length < 64 then some ((sortS ss).map .str) else none
  | none => match asI xs with
    | some ns => if ns.length < 64 then some ((sortI ns).map .int) else none
    | none => none
def op1? (o : Op1) (d : D) : Option D := match o with
  | .rev => (match d with | .tup xs => some (.tup xs.reverse) | .lst _ xs => some (.lst true xs.reverse) | _ => none)
  | .sset => (match d with | .tup xs => (ksrt xs).map (.lst true ·) | .lst _ xs => (ksrt xs).map (.lst true ·) | _ => none)
/-- where y stands in a written text -/
def sidx? (x : Str) (d : D) : Option D := match d with
  | .str y => (Builtin.Str.occurrences x y 0 x.length 1).head?.map fun (k : Nat) => .int (k : Int)
  | _ => none
/-- the first place of b in a: texts in a tuple, ints in a list -/
def fidx? : D → D → Option D
  | .tup xs, .str z => (asS xs).bind fun ss => (ss.findIdx? fun y => decide (y = z)).map fun k => .int (k : Nat)
  | .lst _ xs, .int z => (asI xs).bind fun ss => (ss.findIdx? fun y => decide (y = z)).map fun k => .int (k : Nat)
  | _, _ => none
/-- a tuple (t) or a list, at hand -/
def atHand (t : Bool) : D → Bool
  | .tup _ => t
  | .lst _ _ => !t
  | _ => false
/-- a written dict of texts: its pairs -/
def dgetKs (cst : Nat → Option D) : List (Nat × Nat) → Option (List (Str × Str))
  | [] => some []
  | (a, b) :: r => match cst a, cst b, dgetKs cst r with
    | some (.str x), some (.str y), some ps => if ps.all fun p => decide (p.1 ≠ x) then some ((x, y) :: ps) else none
    | _, _, _ => none
/-- what it says of k, else d -/
def dgetAt (ps : List (Str × Str)) (k d : D) : Option D := match k, d with
  | .str z, .str w => some (.str (match ps.find? fun p => decide (p.1 = z) with | some p => p.2 | none => w))
  | _, _ => none
def blt1 (f : Blt) (d : D) : Option D := match f with
  | .repr => (match d with | .tup _ => if okR d then some (.str d.py.shown) else none | .lst _ _ => if okR d then some (.str d.py.shown) else none | _ => none)
  | .len => lenD d
  | .abs => (match d with | .int i => some (.int (if i < 0 then -i else i)) | _ => none)
  | .min => (match d with | .lst _ xs => ((asI xs).bind minI).map .int | _ => none)
  | .max => (match d with | .lst _ xs => ((asI xs).bind maxI).map .int | _ => none)
  | .sum => (match d with | .lst _ xs => (asI xs).map fun ns => .int ns.sum | _ => none)
  | .all => (match d with | .lst _ xs => (asB xs).map fun bs => .bl (bs.all id) | _ => none)
  | .any => (match d with | .lst _ xs => (asB xs).map fun bs => .bl (bs.any id) | _ => none)
  | .int => (match d with | .int i => some (.int i) | .bl b => some (.int (if b then 1 else 0)) | _ => none)
  | .bool => (match d with | .int i => some (.bl (i != 0)) | .bl b => some (.bl b) | _ => none)
  | .list => (seq? d).map (.lst true ·)
  | .tuple => (seq? d).map .tup
  | .str => (match d with | .int i => if i.natAbs.log2 < 1920 then some (.str (toString i)) else none | _ => none)
def blt2 (f : Blt) (a b : D) : Option D := match f, a, b with
  | .min, .int i, .int j => some (.int (if j < i then j else i))
  | .max, .int i, .int j => some (.int (if j > i then j else i))
  | _, _, _ => none
def bltop (f : Blt) (ds : List D) : Option D := match ds with
  | [a] => blt1 f a
  | [a, b] => blt2 f a b
  | _ => none
/-- lo, lo + 1, .. below hi -/
def rngL (lo hi : Int) : List D := (List.range (hi - lo).toNat).map fun k => .int (lo + (k : Nat))
/-- hi, hi - 1, .. above lo -/
def dnL (hi lo : Int) : List D := (List.range (hi - lo).toNat).map fun k => .int (hi + (k : Nat) * (-1))
def rng? : List D → Option (List D)
  | [.int j] => if idx j then some (rngL 0 j) else none
  | [.int i, .int j] => if idx i && idx j then some (rngL i j) else none
  | [.int i, .int j, .int c] => if c = -1 ∧ (idx i && idx j) = true then some (dnL i j) else none
  | _ => none
def items? : D → Option (List D)
  | .str s => some (s.cps.toList.map fun c => .str ⟨#[c]⟩)
  | d => seq? d
def enumL (xs : List D) : List D := xs.zipIdx.map fun p => .pr (.int (p.2 : Nat)) p.1
def zipL (xs ys : List D) : List D := (xs.zip ys).map fun p => .pr p.1 p.2

def zip? : D → D → Option (List D)
  | .tup xs, .tup ys => some (zipL xs ys)
  | .lst _ xs, .lst _ ys => some (zipL xs ys)
  | _, _ => none

/-! ### names -/
def get (env : Env) (i : Nat) : Option D := (env[i]?).join
/-- the children frozen -/
def kidsFz : D → Bool
  | .lst _ xs => D.isFzL xs
  | d => d.isFz
/-- an operand's contents -/
def res (env : Env) : D → Option D
  | .plc i => match get env i with
    | some d => if kidsFz d then some d else none
    | none => none
  | d => some d.fz
def resL (env : Env) : List D → Option (List D)
  | [] => some []
  | d :: r => match res env d, resL env r with
    | some x, some xs => some (x :: xs)
    | _, _ => none

/-- slots of a comprehension's own names, forgotten and given back -/
def clear (env : Env) : List Nat → Env
  | [] => env
  | i :: r => (clear env r).set i none
def noPlc : D → Bool
  | .plc _ => false
  | _ => true
/-- .. frozen things are given back -/
def giveBack (env old : Env) : List Nat → Env
  | [] => env
  | i :: r => (giveBack env old r).set i (match get old i with
    | some d => if d.isFz then some d else none
    | none => none)
/-- arguments: at an in-and-out place a slot's content goes out; all others are moved in -/
def lend (io : List Nat) : Nat → Env → List D → Option (List D × Env × List (Option Nat))
  | _, env, [] => some ([], env, [])
  | k, env, d :: r => if io.contains k then (match d with
      | .plc i => (match get env i with
        | some x => (lend io (k + 1) (env.set i none) r).map fun q => (x :: q.1, q.2.1, some i :: q.2.2)
        | none => none)
      | d => (lend io (k + 1) env r).map fun q => (d :: q.1, q.2.1, none :: q.2.2))
    else (match d with
      | .plc _ => none
      | d => (lend io (k + 1) env r).map fun q => (d :: q.1, q.2))
/-- what the in-and-out arguments hold behind a call -/
def putBack (env : Env) : List (Option Nat) → List D → Option Env
  | [], [] => some env
  | some i :: r, d :: ds => putBack (env.set i (some d)) r ds
  | none :: r, _ :: ds => putBack env r ds
  | _, _ => none
def afterCall (env : Env) (back : List (Option Nat)) : FR → R D
  | .ret d outs => match putBack env back outs with | some e => .ok d e | none => .bad
  | .exc x outs => match putBack env back outs with | some e => .exc x e | none => .bad
  | .bad => .bad
def callTo (G : Glb) (f : Nat) (ds : List D) (env : Env) : R D := match G.fn f, lend (G.io f) 0 env ds with
  | some g, some (ds', env', back) => afterCall env' back (g ds')
  | _, _ => .bad
/-- what may not go wrong -/
def R.calm {α : Type} : R α → R α
  | .exc _ _ => .bad
  | r => r
def asgNm (io : List Nat) (i : Nat) (d : D) (env : Env) : R Unit := if noPlc d && !io.contains i && decide (i < env.length) then .ok () (env.set i (some d)) else .bad
def lcLoop (asg : D → Env → R Unit) (cond : Env → R Bool) (elt : Env → R D) (own : List Nat) : List D → List D → Env → R (List D)
  | [], acc, env => .ok acc env
  | x :: xs, acc, env => (asg x env).bind fun _ env => (cond env).bind fun b env => if b then (elt env).bind fun d env => if noPlc d then lcLoop asg cond elt own xs (acc ++ [d]) (clear env own) else .bad
    else lcLoop asg cond elt own xs acc (clear env own)
def forLoop (asg : D → Env → R Unit) (body : Env → R Fl) : List D → Env → R Fl
  | [], env => .ok .nx env
  | x :: xs, env => (asg x env).bind fun _ env => (body env).bind fun f env => match f with
    | .nx => forLoop asg body xs env
    | .ct => forLoop asg body xs env
    | .bk => .ok .nx env
    | .rt d => .ok (.rt d) env
def whileLoop (test : Env → R Bool) (body : Env → R Fl) : Nat → Env → R Fl
  | 0, _ => .bad
  | n + 1, env => (test env).bind fun b env => if b then (body env).bind fun f env => match f with
      | .nx => whileLoop test body n env
      | .ct => whileLoop test body n env
      | .bk => .ok .nx env
      | .rt d => .ok (.rt d) env
    else .ok .nx env
/-- more turns than any loop here makes -/
def fuel : Nat := 1099511627776
def own1 (env : Env) (i : Nat) : Option (List D) := match get env i with
  | some (.lst true xs) => some xs
  | _ => none

/-- what an expression does: as a value, as a test -/
structure Ev where
  v : Env → R D
  t : Env → R Bool
/-- .. then what its truth says -/
def thT {β : Type} (m : Env → R D) (k : D → Bool → Env → R β) (env : Env) : R β := (m env).bind fun d env => match res env d with
  | some x => (match truth x with | some b => k d b env | none => .bad)
  | none => .bad
def truthOf (m : Env → R D) : Env → R Bool := thT m fun _ b env => .ok b env
def Ev.of (m : Env → R D) : Ev := ⟨m, truthOf m⟩
def Tgs.len : Tgs → Nat
  | .nil => 0
  | .cons _ r => r.len + 1
mutual
/-- the slots that a target stores in -/
def Tg.slots : Tg → List Nat
  | .nm i => [i]
  | .tup ts => ts.slots
  | .sub _ _ => []
def Tgs.slots : Tgs → List Nat
  | .nil => []
  | .cons t r => t.slots ++ r.slots
end
def Exs.isNil : Exs → Bool
  | .nil => true
  | _ => false
def Ex.isNop : Ex → Bool
  | .nop => true
  | _ => false
/-- a slice's bound -/
def partOf (nop : Bool) (m : Env → R D) (env : Env) : R (Option Int) := if nop then .ok none env else (m env).bind fun d env => match res env d with
  | some (.int i) => .ok (some i) env
  | _ => .bad
def get1 (env : Env) (i : Nat) (f : D → R D) : R D := match get env i with
  | some d => f d
  | none => .bad
def two {α : Type} (ma mb : Env → R D) (f : D → D → Env → R α) (env : Env) : R α := (ma env).bind fun x env => (mb env).bind fun y env => match res env x, res env y with
  | some x, some y => f x y env
  | _, _ => .bad
def liftO {α : Type} (o : Option α) (env : Env) : R α := match o with
  | some d => .ok d env
  | none => .bad
def chain {α : Type} (ret : Bool → α) (o o' : Cm) (ma mb mc : Env → R D) (env : Env) : R α := (ma env).bind fun x env => (mb env).bind fun y env => match res env x, res env y with
    | some x', some y' => (match cop o x' y' with
      | some false => .ok (ret false) env
      | some true => (mc env).bind fun z env => match res env y, res env z with
        | some y, some z => (match cop o' y z with | some k => .ok (ret k) env | none => .bad)
        | _, _ => .bad
      | none => .bad)
    | _, _ => .bad
def withL {α : Type} (m : Env → R (List D)) (f : List D → Env → R α) (env : Env) : R α := (m env).bind fun ds env => match resL env ds with
  | some xs => f xs env
  | none => .bad
def appTo (i : Nat) (m : Env → R D) (env : Env) : R D := if (own1 env i).isSome then (m env).bind fun d env => match own1 env i with
    | some xs => if noPlc d && decide (xs.length < lim) then .ok .non (env.set i (some (.lst true (xs ++ [d])))) else .bad
    | none => .bad else .bad
def popOf (i : Nat) (env : Env) : R D := match own1 env i with
  | some xs => (match xs.getLast? with | some d => .ok d (env.set i (some (.lst true xs.dropLast))) | none => .bad)
  | none => .bad
def extI? : D → Option (List D)
  | .lst _ ys => some ys
  | .tup ys => some ys
  | _ => none
def extTo (i : Nat) (m : Env → R D) (env : Env) : R D := if (own1 env i).isSome then (m env).bind fun d env => match own1 env i, (res env d).bind extI? with
    | some xs, some ys => if xs.length + ys.length ≤ lim then .ok .non (env.set i (some (.lst true (xs ++ ys)))) else .bad
    | _, _ => .bad else .bad
def andV (last : Bool) (m rest : Env → R D) : Env → R D := if last then m else thT m fun d b env => if b then rest env else .ok d env
def orV (last : Bool) (m rest : Env → R D) : Env → R D := if last then m else thT m fun d b env => if b then .ok d env else rest env
def andT (last : Bool) (m rest : Env → R Bool) (env : Env) : R Bool := if last then m env else (m env).bind fun b env => if b then rest env else .ok false env
def orT (last : Bool) (m rest : Env → R Bool) (env : Env) : R Bool := if last then m env else (m env).bind fun b env => if b then .ok true env else rest env
def setTo (i : Nat) (m : Env → R D) (d : D) (env : Env) : R Unit := if (own1 env i).isSome then (m env).bind fun k env => match own1 env i, res env k with
  | some xs, some (.int j) => (match ixN xs.length j with
    | some n => if noPlc d then .ok () (env.set i (some (.lst true (xs.set n d)))) else .bad
    | none => .bad)
  | _, _ => .bad else .bad
/-- i op= m: ints -/
def augTo (io : List Nat) (i : Nat) (o : Bo) (m : Env → R D) (env : Env) : R Fl := match get env i with
  | some (.int a) => (m env).bind fun y env => match res env y with
    | some (.int b) => (match o with
      | .add => (asgNm io i (.int (a + b)) env).bind fun _ env => .ok .nx env
      | .sub => (asgNm io i (.int (a - b)) env).bind fun _ env => .ok .nx env
      | _ => .bad)
    | _ => .bad
  | _ => .bad
def itemsOf (m : Env → R D) (f : List D → List D) (env : Env) : R (List D) := (m env).bind fun d env => if noPlc d then (match items? d.fz with | some xs => .ok (f xs) env | none => .bad) else .bad
def seqOf (m : Env → R D) (f : List D → List D) (env : Env) : R (List D) := (m env).bind fun d env => if noPlc d then (match seq? d.fz with | some xs => .ok (f xs) env | none => .bad) else .bad

variable (G : Glb) (io : List Nat)
mutual
def ev : Ex → Ev
  | .nop => .of fun _ => .bad
  | .cst d => .of fun env => .ok d env
  | .var i => .of fun env => get1 env i fun d => .ok d.fz (env.set i (some d.fz))
  | .mv i => .of fun env => get1 env i fun d => .ok d (env.set i none)
  | .plc i => .of fun env => get1 env i fun _ => .ok (.plc i) env
  | .glo c => .of fun env => liftO (G.cst c) env
  | .bin o a b => .of (two (ev a).v (ev b).v fun x y env => liftO (bop o x y) env)
  | .neg a => .of fun env => ((ev a).v env).bind fun x env => match res env x with
    | some (.int i) => .ok (.int (-i)) env
    | _ => .bad
  | .fz a => .of fun env => ((ev a).v env).bind fun d env => if noPlc d then .ok d.fz env else .bad
  | .cmp o a b => ⟨two (ev a).v (ev b).v fun x y env => liftO ((cop o x y).map .bl) env, two (ev a).v (ev b).v fun x y env => liftO (cop o x y) env⟩
  | .chn o o' a b c => ⟨chain .bl o o' (ev a).v (ev b).v (ev c).v, chain id o o' (ev a).v (ev b).v (ev c).v⟩
  | .and es => ⟨evAnd es, evAndT es⟩
  | .or es => ⟨evOr es, evOrT es⟩
  | .not a => ⟨thT (ev a).v fun _ b env => .ok (.bl (!b)) env, fun env => ((ev a).t env).bind fun b env => .ok (!b) env⟩
  | .ife t a b => .of fun env => ((ev t).t env).bind fun k env => if k then (ev a).v env else (ev b).v env
  | .ix a i => .of (two (ev a).v (ev i).v fun x y env => liftO (ixop x y) env)
  | .sl a lo hi => .of fun env => ((ev a).v env).bind fun x env => (partOf lo.isNop (ev lo).v env).bind fun l env => (partOf hi.isNop (ev hi).v env).bind fun h env => match res env x with
    | some x => liftO (slop x l h) env
    | none => .bad
  | .tup es => .of fun env => (evL es env).bind fun ds env => if ds.length ≤ lim then .ok (.tup ds) env else .bad
  | .lst es => .of fun env => (evL es env).bind fun ds env => if ds.length ≤ lim then .ok (.lst true ds) env else .bad
  | .blt f es => .of (withL (evA es) fun xs env => liftO (bltop f xs) env)
  | .lrng es => .of (withL (evA es) fun xs env => match rng? xs with | some d => if d.length ≤ lim then .ok (.lst true d) env else .bad | none => .bad)
  | .call f es => .of fun env => (evA es env).bind fun ds env => callTo G f ds env
  | .lc elt tg it cond own => .of fun env => (evI it env).bind fun xs env =>
      if xs.length ≤ lim then (lcLoop (asgT tg) (evC cond) (ev elt).v own xs [] (clear env own)).calm.bind fun acc env' => .ok (.lst true acc) (giveBack env' env own) else .bad
  | .app i e => .of (appTo i (ev e).v)
  | .pop i => .of (popOf i)
  | .ext i e => .of (extTo i (ev e).v)
  | .op1 o a => .of fun env => ((ev a).v env).bind fun x env => match res env x with
    | some x => liftO (op1? o x) env
    | none => .bad
  | .sidx z a => .of fun env => ((ev a).v env).bind fun x env => match res env x with
    | some x => liftO (sidx? z x) env
    | none => .bad
  | .dget kvs k d => .of fun env => match dgetKs G.cst kvs with
    | some ps => two (ev k).v (ev d).v (fun x y env => liftO (dgetAt ps x y) env) env
    | none => .bad
  | .callAt fs i es => .of fun env => ((ev i).v env).bind fun x env => match res env x with
    | some (.int j) => (match atI fs j with | some f => (evA es env).bind fun ds env => callTo G f ds env | none => .bad)
    | _ => .bad
  | .fidx t a b => .of fun env => ((ev a).v env).bind fun x env => if atHand t x then ((ev b).v env).bind fun y env => (match res env y with
    | some y => liftO (fidx? x.fz y) env
    | none => .bad) else .bad
def evAnd : Exs → Env → R D
  | .nil => fun _ => .bad
  | .star _ _ => fun _ => .bad
  | .cons e r => andV r.isNil (ev e).v (evAnd r)
def evOr : Exs → Env → R D
  | .nil => fun _ => .bad
  | .star _ _ => fun _ => .bad
  | .cons e r => orV r.isNil (ev e).v (evOr r)
def evAndT : Exs → Env → R Bool
  | .nil => fun _ => .bad
  | .star _ _ => fun _ => .bad
  | .cons e r => andT r.isNil (ev e).t (evAndT r)
def evOrT : Exs → Env → R Bool
  | .nil => fun _ => .bad
  | .star _ _ => fun _ => .bad
  | .cons e r => orT r.isNil (ev e).t (evOrT r)
/-- a display's items: moved in -/
def evL : Exs → Env → R (List D)
  | .nil => fun env => .ok [] env
  | .cons e r => fun env => ((ev e).v env).bind fun d env => (evL r env).bind fun ds env => if noPlc d then .ok (d :: ds) env else .bad
  | .star e r => fun env => ((ev e).v env).bind fun d env => match res env d with
    | some d => (match seq? d with | some xs => if xs.all noPlc then (evL r env).bind fun ds env => .ok (xs ++ ds) env else .bad | none => .bad)
    | none => .bad
/-- arguments: lent, or moved -/
def evA : Exs → Env → R (List D)
  | .nil => fun env => .ok [] env
  | .cons e r => fun env => ((ev e).v env).bind fun d env => (evA r env).bind fun ds env => .ok (d :: ds) env
  | .star _ _ => fun _ => .bad
/-- a comprehension's test -/
def evC : Exs → Env → R Bool
  | .nil => fun env => .ok true env
  | .cons e r => fun env => if r.isNil then (ev e).t env else .bad
  | .star _ _ => fun _ => .bad
def asgT : Tg → D → Env → R Unit
  | .nm i => asgNm io i
  | .tup ts => fun d env => match d with
    | .tup ds => if ds.length = ts.len then asgTs ts ds env else .bad
    | .lst _ ds => if ds.length = ts.len then asgTs ts ds env else .bad
    | .pr a b => if 2 = ts.len then asgTs ts [a, b] env else .bad
    | _ => .bad
  | .sub i e => setTo i (ev e).v
def asgTs : Tgs → List D → Env → R Unit
  | .nil => fun ds env => match ds with
    | [] => .ok () env
    | _ => .bad
  | .cons t r => fun ds env => match ds with
    | d :: ds => (asgT t d env).bind fun _ env => asgTs r ds env
    | [] => .bad
def evI : It → Env → R (List D)
  | .val e => itemsOf (ev e).v id
  | .rng es => withL (evA es) fun xs env => liftO (rng? xs) env
  | .enum e => seqOf (ev e).v enumL
  | .zip a b => fun env => ((ev a).v env).bind fun x env => ((ev b).v env).bind fun y env => if noPlc x && noPlc y then (match zip? x.fz y.fz with | some xs => .ok xs env | none => .bad) else .bad
end
/-- except x: i = d, or return d; sub tells which classes are of which -/
def tryH (sub : Nat → Nat → Option Bool) (k : Nat) (e : Env) : List (Nat × Option Nat × D) → R Fl
  | [] => .exc k e
  | (x, i, d) :: r => match sub k x with
    | some true => (match i with
      | some i => if i < e.length then .ok .nx (e.set i (some d)) else .bad
      | none => .ok (.rt d) e)
    | some false => tryH sub k e r
    | none => .bad
def tryK (sub : Nat → Nat → Option Bool) (hs : List (Nat × Option Nat × D)) : R Fl → R Fl
  | .exc k e => tryH sub k e hs
  | r => r
/-- except x as i: return the law's word -/
def tryTo (le : Nat → Option D) (i : Nat) : R Fl → R Fl
  | .exc k e => if i < e.length then (match le k with | some d => .ok (.rt d) e | none => .bad) else .bad
  | r => r
abbrev evE (e : Ex) (env : Env) : R D := (ev G io e).v env
abbrev evT (e : Ex) (env : Env) : R Bool := (ev G io e).t env
mutual
def evS : Stm → Env → R Fl
  | .expr e, env => (evE G io e env).bind fun _ env => .ok .nx env
  | .asg t e, env => (evE G io e env).bind fun d env => (asgT G io t d env).bind fun _ env => .ok .nx env
  | .aug i o e, env => augTo io i o (evE G io e) env
  | .ret e, env => (evE G io e env).bind fun d env => if noPlc d then .ok (.rt d) env else .bad
  | .retN, env => .ok (.rt .non) env
  | .ife t a b, env => (evT G io t env).bind fun k env => if k then evSs a env else evSs b env
  | .whl t b, env => whileLoop (evT G io t) (evSs b) fuel env
  | .for_ t it b, env => (evI G io it env).bind fun xs env => forLoop (asgT G io t) (evSs b) xs env
  | .brk, env => .ok .bk env
  | .cnt, env => .ok .ct env
  | .pss, env => .ok .nx env
  | .raise x, env => .exc x env
  | .tryL b x i, env => tryTo (G.le x) i (evSs b env)
  | .tryC b hs, env => tryK G.sub hs (evSs b env)
def evSs : Stms → Env → R Fl
  | .nil, env => .ok .nx env
  | .fgt own r, env => evSs r (clear env own)
  | .cons s r, env => (evS s env).bind fun f env => match f with
    | .nx => evSs r env
    | f => .ok f env
end
/-- what the in-and-out parameters hold, from place k on, m places -/
def outs? (env : Env) (io : List Nat) : Nat → Nat → Option (List D)
  | _, 0 => some []
  | k, m + 1 => if io.contains k then (match get env k, outs? env io (k + 1) m with
    | some d, some ds => some (d :: ds)
    | _, _ => none) else outs? env io (k + 1) m
def ends (io : List Nat) (p : Nat) : R Fl → FR
  | .ok .nx env => match outs? env io 0 p with | some o => .ret .non o | none => .bad
  | .ok (.rt d) env => match outs? env io 0 p with | some o => .ret d o | none => .bad
  | .ok _ _ => .bad
  | .exc x env => match outs? env io 0 p with | some o => .exc x o | none => .bad
  | .bad => .bad
/-- what is handed in as it is: an in-and-out parameter; all else frozen -/
def handIn (io : List Nat) : Nat → List D → List D
  | _, [] => []
  | k, d :: ds => (if io.contains k then d else d.fz) :: handIn io (k + 1) ds
/-- a def: its body, how many slots, how many parameters -/
def runDef (body : Stms) (n p : Nat) (ds : List D) : FR :=
  if ds.length = p then ends io p (evSs G io body ((handIn io 0 ds).map some ++ List.replicate (n - p) none)) else .bad
end DD

set_option Elab.async false
set_option linter.all false
set_option maxRecDepth 100000
namespace DD
open PySem PySem.Spec PyProof.Rows L2

/-! ### what is owned, how a state goes on -/
def Dj (S T : AS) : Prop := ∀ a, S a → T a → False
def Un2 (S T : AS) : AS := fun a => S a ∨ T a
abbrev No : AS := fun _ => False
structure Ok (F H : Hp) (S : AS) : Prop where
  sub : Sub F H
  off : ∀ a, S a → F a = none
  al : ∀ a, S a → H a ≠ none
structure Step (F H : Hp) (S : AS) (F' H' : Hp) (S' : AS) : Prop where
  fle : Sub F F'
  keep : ∀ a o, ¬ S a → H a = some o → H' a = some o
  all : ∀ a, H a ≠ none → H' a ≠ none
  fnew : ∀ a, F' a ≠ none → F a ≠ none ∨ S a ∨ H a = none
  snew : ∀ a, S' a → S a ∨ H a = none
structure EnvR (K : PySem.W.Frag) (F H : Hp) (P : List (Nat × V)) (env : Env) (σ : L2.St) (S : AS) : Prop where
  ex : ∃ o : Nat → AS, (∀ i a, o i a → S a) ∧ (∀ i j a, o i a → o j a → i = j) ∧ ∀ i d, get env i = some d → ∃ v, σ[i]? = some (some v) ∧ Rep K F H d v (o i)
  len : env.length = σ.length
  pin : ∀ p ∈ P, σ[p.1]? = some (some p.2)

section
variable {K : PySem.W.Frag} {F H F' H' F1 H1 F2 H2 : Hp} {S S' T T' S1 S2 T1 T2 : AS} {P : List (Nat × V)} {env : Env} {σ : L2.St}
theorem Ok.mono (h : Ok F H S) (m : ∀ a, S' a → S a) : Ok F H S' := ⟨h.sub, fun a z => h.off a (m a z), fun a z => h.al a (m a z)⟩
theorem Ok.left (h : Ok F H (Un2 S T)) : Ok F H S := h.mono fun _ z => .inl z
theorem Ok.right (h : Ok F H (Un2 S T)) : Ok F H T := h.mono fun _ z => .inr z
theorem Ok.no (h : Sub F H) : Ok F H No := ⟨h, fun _ z => z.elim, fun _ z => z.elim⟩
theorem Step.refl : Step F H S F H S := ⟨.refl, fun _ _ _ e => e, fun _ z => z, fun _ z => .inl z, fun _ z => .inl z⟩
theorem Step.weak (h : Step F H S F' H' S') (m : ∀ a, T a → S' a) : Step F H S F' H' T := ⟨h.fle, h.keep, h.all, h.fnew, fun a z => h.snew a (m a z)⟩
theorem Step.wide (h : Step F H S F' H' S') (m : ∀ a, S a → T a) : Step F H T F' H' S' :=
  ⟨h.fle, fun a o n => h.keep a o fun z => n (m a z), h.all, fun a z => (h.fnew a z).imp id (Or.imp (m a) id), fun a z => (h.snew a z).imp (m a) id⟩
/-- a step from what is held within a step's end, T1 held besides -/
theorem Step.trans (h : Step F H S F1 H1 (Un2 S1 T1)) (h' : Step F1 H1 S1 F2 H2 S2) : Step F H S F2 H2 (Un2 S2 T1) := by
  have hn : ∀ a, H1 a = none → H a = none := fun a z => by
    cases q : H a with
    | none => rfl
    | some u => exact (h.all a (by rw [q]; simp) z).elim
  refine ⟨h.fle.trans h'.fle, fun a o n e => ?_, fun a z => h'.all a (h.all a z), fun a z => ?_, fun a z => ?_⟩
  · refine h'.keep a o (fun z => ?_) (h.keep a o n e)
    rcases h.snew a (.inl z) with q | q
    · exact n q
    · rw [q] at e; cases e
  · rcases h'.fnew a z with q | q | q
    · exact h.fnew a q
    · exact (h.snew a (.inl q)).elim (fun z => .inr (.inl z)) fun z => .inr (.inr z)
    · exact .inr (.inr (hn a q))
  · rcases z with z | z
    · rcases h'.snew a z with q | q
      · exact h.snew a (.inl q)
      · exact .inr (hn a q)
    · exact h.snew a (.inr z)
theorem Step.trans0 (h : Step F H S F1 H1 S1) (h' : Step F1 H1 S1 F2 H2 S2) : Step F H S F2 H2 S2 :=
  ((h.weak (T := Un2 S1 No) fun a z => z.elim id False.elim).trans h').weak fun a z => .inl z

theorem EnvR.keep (h : EnvR K F H P env σ S) (hF : Sub F F') (m : ∀ a, S a → S' a) (k : ∀ a o, S a → H a = some o → H' a = some o) : EnvR K F' H' P env σ S' := by
  obtain ⟨⟨o, h1, h2, h3⟩, l, p⟩ := h
  refine ⟨⟨o, fun i a z => m a (h1 i a z), h2, fun i d e => ?_⟩, l, p⟩
  obtain ⟨v, e1, r⟩ := h3 i d e
  exact ⟨v, e1, Rep.keep hF d (fun _ z => z) (fun a u z => k a u (h1 i a z)) r⟩
theorem EnvR.at (h : EnvR K F H P env σ S) {i : Nat} {d : D} (e : get env i = some d) : ∃ v, σ[i]? = some (some v) ∧ Rep K F H d v S := by
  obtain ⟨⟨o, h1, h2, h3⟩, l, p⟩ := h
  obtain ⟨v, e1, r⟩ := h3 i d e
  exact ⟨v, e1, Rep.keep .refl d (h1 i) (fun _ _ _ z => z) r⟩
theorem get_set {env : Env} {i j : Nat} {d : Option D} {x : D} (h : get (env.set i d) j = some x) : (j = i ∧ d = some x) ∨ (j ≠ i ∧ get env j = some x) := by
  unfold get at h ⊢
  by_cases hj : j = i
  · subst hj
    by_cases hl : j < env.length
    · rw [List.getElem?_set_self hl] at h
      exact .inl ⟨rfl, by simpa using h⟩
    · rw [List.getElem?_eq_none (by simpa using hl)] at h
      simp at h
  · rw [List.getElem?_set_ne (Ne.symm hj)] at h
    exact .inr ⟨hj, h⟩
theorem get_lt {env : Env} {i : Nat} {d : D} (h : get env i = some d) : i < env.length := by
  unfold get at h
  by_cases hl : i < env.length
  · exact hl
  · rw [List.getElem?_eq_none (by simpa using hl)] at h
    simp at h
/-- a slot's content goes out -/
theorem EnvR.take (h : EnvR K F H P env σ S) {i : Nat} {d : D} (e : get env i = some d) :
    ∃ v S' T, σ[i]? = some (some v) ∧ (∀ a, S' a → S a) ∧ (∀ a, T a → S a) ∧ Dj S' T ∧ EnvR K F H P (env.set i none) σ S' ∧ Rep K F H d v T := by
  obtain ⟨⟨o, h1, h2, h3⟩, l, p⟩ := h
  obtain ⟨v, e1, r⟩ := h3 i d e
  refine ⟨v, fun a => ∃ j, j ≠ i ∧ o j a, o i, e1, fun a ⟨j, _, z⟩ => h1 j a z, h1 i, fun a ⟨j, n, z⟩ z' => n (h2 j i a z z'), ⟨⟨fun j a => j ≠ i ∧ o j a, fun j a z => ⟨j, z⟩, fun j k a x y => h2 j k a x.2 y.2, fun j x q => ?_⟩, by simpa using l, p⟩, r⟩
  rcases get_set q with ⟨_, q⟩ | ⟨hj, q⟩
  · cases q
  · obtain ⟨w, e2, r2⟩ := h3 j x q
    exact ⟨w, e2, Rep.keep .refl x (fun a z => ⟨hj, z⟩) (fun _ _ _ z => z) r2⟩
/-- .. is forgotten -/
theorem EnvR.drop (h : EnvR K F H P env σ S) (i : Nat) : EnvR K F H P (env.set i none) σ S := by
  obtain ⟨⟨o, h1, h2, h3⟩, l, p⟩ := h
  refine ⟨⟨o, h1, h2, fun j x q => ?_⟩, by simpa using l, p⟩
  rcases get_set q with ⟨_, q⟩ | ⟨hj, q⟩
  · cases q
  · exact h3 j x q
/-- a slot's content comes in, the slot's value as it was -/
theorem EnvR.back (h : EnvR K F H P env σ S) {i : Nat} {d : D} {v : V} (e : σ[i]? = some (some v)) (r : Rep K F H d v T) (dj : Dj S T) : EnvR K F H P (env.set i (some d)) σ (Un2 S T) := by
  obtain ⟨⟨o, h1, h2, h3⟩, l, p⟩ := h
  refine ⟨⟨fun j a => (j ≠ i ∧ o j a) ∨ (j = i ∧ T a), fun j a z => z.elim (fun z => .inl (h1 j a z.2)) fun z => .inr z.2, fun j k a x y => ?_, fun j x q => ?_⟩, by simpa using l, p⟩
  · rcases x with ⟨n, x⟩ | ⟨rfl, x⟩ <;> rcases y with ⟨m, y⟩ | ⟨rfl, y⟩
    · exact h2 j k a x y
    · exact (dj a (h1 _ _ x) y).elim
    · exact (dj a (h1 _ _ y) x).elim
    · rfl
  · rcases get_set q with ⟨rfl, q'⟩ | ⟨hj, q⟩
    · cases q'
      exact ⟨v, e, Rep.keep .refl d (fun a z => .inr ⟨rfl, z⟩) (fun _ _ _ z => z) r⟩
    · obtain ⟨w, e2, r2⟩ := h3 j x q
      exact ⟨w, e2, Rep.keep .refl x (fun a z => .inl ⟨hj, z⟩) (fun _ _ _ z => z) r2⟩
/-- a name is stored -/
theorem EnvR.put (h : EnvR K F H P env σ S) {i : Nat} {d : D} {v : V} (hi : i < env.length) (hp : ∀ p ∈ P, p.1 ≠ i) (r : Rep K F H d v T) (dj : Dj S T) : EnvR K F H P (env.set i (some d)) (σ.set i (some v)) (Un2 S T) := by
  have h' : EnvR K F H P (env.set i none) (σ.set i (some v)) S := by
    obtain ⟨⟨o, h1, h2, h3⟩, l, p⟩ := h
    refine ⟨⟨o, h1, h2, fun j x q => ?_⟩, by simpa using l, fun q hq => ?_⟩
    · rcases get_set q with ⟨_, q⟩ | ⟨hj, q⟩
      · cases q
      · rw [List.getElem?_set_ne (Ne.symm hj)]
        exact h3 j x q
    · rw [List.getElem?_set_ne (Ne.symm (hp q hq))]
      exact p q hq
  have e : (σ.set i (some v))[i]? = some (some v) := List.getElem?_set_self (by rw [← h.len]; exact hi)
  have := h'.back e r dj
  rwa [List.set_set] at this
/-- the slot at i is frozen -/
theorem EnvR.fz (h : EnvR K F H P env σ S) (ok : Ok F H S) {i : Nat} {d : D} (e : get env i = some d) :
    ∃ v F' S', σ[i]? = some (some v) ∧ Ok F' H S' ∧ Step F H S F' H S' ∧ EnvR K F' H P (env.set i (some d.fz)) σ S' ∧ Rep K F' H d.fz v No := by
  obtain ⟨v, S', T, e1, m1, m2, dj, h', r⟩ := h.take e
  obtain ⟨F', f1, f2, f3, r'⟩ := Rep.freeze d ok.sub (fun a z => ok.off a (m2 a z)) r
  have off : ∀ a, S' a → F' a = none := fun a z => by
    cases q : F' a with
    | none => rfl
    | some u => exact ((f3 a (by rw [q]; simp)).elim (fun y => y (ok.off a (m1 a z))) fun y => dj a z y).elim
  have h2 : EnvR K F' H P (env.set i none) σ S' := h'.keep f1 (fun _ z => z) fun _ _ _ z => z
  have h3 := h2.back e1 r' fun _ _ z => z
  rw [List.set_set] at h3
  refine ⟨v, F', S', e1, ⟨f2, off, fun a z => ok.al a (m1 a z)⟩, ⟨f1, fun _ _ _ z => z, fun _ z => z, fun a z => (f3 a z).imp id fun y => .inl (m2 a y), fun a z => .inl (m1 a z)⟩, h3.keep .refl (fun a z => z.elim id False.elim) fun _ _ _ z => z, r'⟩
/-- what is held is frozen -/
theorem Rep.fzHeld {d : D} {v : V} (r : Rep K F H d v T) (ok : Ok F H (Un2 S T)) (dj : Dj S T) (er : EnvR K F H P env σ S) :
    ∃ F', Ok F' H S ∧ Step F H (Un2 S T) F' H S ∧ EnvR K F' H P env σ S ∧ Rep K F' H d.fz v No := by
  obtain ⟨F', f1, f2, f3, r'⟩ := Rep.freeze d ok.sub (fun a z => ok.off a (.inr z)) r
  have off : ∀ a, S a → F' a = none := fun a z => by
    cases q : F' a with
    | none => rfl
    | some u => exact ((f3 a (by rw [q]; simp)).elim (fun y => y (ok.off a (.inl z))) fun y => dj a z y).elim
  exact ⟨F', ⟨f2, off, fun a z => ok.al a (.inl z)⟩, ⟨f1, fun _ _ _ z => z, fun _ z => z, fun a z => (f3 a z).imp id fun y => .inl (.inr y), fun a z => .inl (.inl z)⟩, er.keep f1 (fun _ z => z) fun _ _ _ z => z, r'⟩
end
end DD

set_option Elab.async false
set_option linter.all false
set_option maxRecDepth 100000
namespace DD
open PySem PySem.Spec PyProof.Rows L2

def R.env {α : Type} : R α → Env → Env
  | .ok _ e, _ => e
  | _, e => e
/-- a value, or a slot that is lent -/
def RV (K : PySem.W.Frag) (σ : L2.St) (F H : Hp) (d : D) (v : V) (T : AS) : Prop :=
  match d with
  | .plc i => σ[i]? = some (some v)
  | d => Rep K F H d v T
def RVL (K : PySem.W.Frag) (σ : L2.St) (F H : Hp) : List D → List V → AS → Prop
  | [], vs, _ => vs = []
  | d :: ds, vs, T => ∃ v r T1 T2, vs = v :: r ∧ (∀ a, T1 a → T a) ∧ (∀ a, T2 a → T a) ∧ Dj T1 T2 ∧ RV K σ F H d v T1 ∧ RVL K σ F H ds r T2
/-- contents that may be read: frozen, or an owned node whose children are frozen -/
def RC (K : PySem.W.Frag) (F H : Hp) (d : D) (v : V) : Prop := kidsFz d = true ∧ ∃ U, Rep K F H d v U
def RCL (K : PySem.W.Frag) (F H : Hp) : List D → List V → Prop
  | [], vs => vs = []
  | d :: ds, vs => ∃ v r, vs = v :: r ∧ RC K F H d v ∧ RCL K F H ds r

section
variable {K : PySem.W.Frag} {σ : L2.St} {F H F' H' : Hp} {S S' T T' : AS} {P : List (Nat × V)} {env : Env} {d : D} {v : V} {ds : List D} {vs : List V}
theorem RV.of (h : noPlc d = true) (r : RV K σ F H d v T) : Rep K F H d v T := by
  cases d <;> first | exact r | simp [noPlc] at h
theorem RV.to (r : Rep K F H d v T) : RV K σ F H d v T := by
  cases d <;> first | exact r | exact False.elim r
theorem RV.keep (hF : Sub F F') (m : ∀ a, T a → T' a) (k : ∀ a o, T a → H a = some o → H' a = some o) (r : RV K σ F H d v T) : RV K σ F' H' d v T' := by
  cases d <;> first | exact Rep.keep hF _ m k r | exact r
theorem RVL.keep (hF : Sub F F') : ∀ {ds : List D} {vs : List V} {T T' : AS}, (∀ a, T a → T' a) → (∀ a o, T a → H a = some o → H' a = some o) → RVL K σ F H ds vs T → RVL K σ F' H' ds vs T'
  | [], _, _, _, _, _, r => r
  | d :: ds, vs, T, T', m, k, ⟨v, r, T1, T2, e, m1, m2, dj, h1, h2⟩ => ⟨v, r, T1, T2, e, fun a z => m a (m1 a z), fun a z => m a (m2 a z), dj, RV.keep hF (fun _ z => z) (fun a o z => k a o (m1 a z)) h1, RVL.keep hF (fun _ z => z) (fun a o z => k a o (m2 a z)) h2⟩
mutual
theorem fz_isFz : ∀ d : D, d.fz.isFz = true
  | .non | .bl _ | .int _ | .str _ | .fn _ | .plc _ => rfl
  | .tup xs => by simp only [D.fz, D.isFz]; exact fzL_isFz xs
  | .ext xs => by simp only [D.fz, D.isFz]; exact fzL_isFz xs
  | .lst _ xs => by simp only [D.fz, D.isFz, Bool.not_false, Bool.true_and]; exact fzL_isFz xs
  | .pr a b => by simp only [D.fz, D.isFz, fz_isFz a, fz_isFz b]; rfl
theorem fzL_isFz : ∀ ds : List D, D.isFzL (D.fzL ds) = true
  | [] => rfl
  | d :: ds => by simp only [D.fzL, D.isFzL, Bool.and_eq_true]; exact ⟨fz_isFz d, fzL_isFz ds⟩
end
theorem kids_of_fz {d : D} (h : d.isFz = true) : kidsFz d = true := by
  cases d <;> first | exact h | (simp only [D.isFz, Bool.and_eq_true] at h; exact h.2)
theorem RC.keep (hF : Sub F F') (hH : Sub H H') (r : RC K F H d v) : RC K F' H' d v := ⟨r.1, r.2.imp fun _ q => Rep.keep hF d (fun _ z => z) (fun a o _ e => hH a o e) q⟩
theorem RCL.keep (hF : Sub F F') (hH : Sub H H') : ∀ {ds : List D} {vs : List V}, RCL K F H ds vs → RCL K F' H' ds vs
  | [], _, r => r
  | _ :: _, _, ⟨v, r, e, h1, h2⟩ => ⟨v, r, e, h1.keep hF hH, RCL.keep hF hH h2⟩
/-- operands: what is moved in is frozen, what is lent is read -/
theorem resolve : ∀ {ds ds' : List D} {vs : List V} {F : Hp} {T : AS}, Ok F H (Un2 S T) → Dj S T → EnvR K F H P env σ S → RVL K σ F H ds vs T → resL env ds = some ds' →
    ∃ F', Ok F' H S ∧ Step F H (Un2 S T) F' H S ∧ EnvR K F' H P env σ S ∧ RCL K F' H ds' vs
  | [], ds', vs, F, T, ok, dj, er, r, e => by
    cases e
    exact ⟨F, ok.left, Step.refl.weak fun a z => .inl z, er, r⟩
  | d :: ds, ds', vs, F, T, ok, dj, er, ⟨v, r, T1, T2, ev, m1, m2, dj2, h1, h2⟩, e => by
    obtain ⟨d', ds2, e1, e2, e3⟩ : ∃ d' ds2, res env d = some d' ∧ resL env ds = some ds2 ∧ ds' = d' :: ds2 := by
      unfold resL at e
      cases q1 : res env d with
      | none => rw [q1] at e; cases e
      | some x =>
        cases q2 : resL env ds with
        | none => rw [q1, q2] at e; cases e
        | some xs => rw [q1, q2] at e; cases e; exact ⟨_, _, rfl, rfl, rfl⟩
    subst e3 ev
    by_cases hp : noPlc d = true
    · have r1 : Rep K F H d v T1 := h1.of hp
      have ed : d' = d.fz := by
        cases d <;> first | (simp only [res] at e1; exact (Option.some.inj e1).symm) | simp [noPlc] at hp
      subst ed
      have ok1 : Ok F H (Un2 S T1) := ok.mono fun a z => z.elim .inl fun z => .inr (m1 a z)
      obtain ⟨F1, f1, f2, f3, f4⟩ := Rep.freeze d ok.sub (fun a z => ok.off a (.inr (m1 a z))) r1
      have off : ∀ a, S a ∨ T2 a → F1 a = none := fun a z => by
        cases q : F1 a with
        | none => rfl
        | some u =>
          rcases f3 a (by rw [q]; simp) with y | y
          · exact (y (ok.off a (z.imp id (m2 a)))).elim
          · rcases z with z | z
            · exact (dj a z (m1 a y)).elim
            · exact (dj2 a y z).elim
      have okF : Ok F1 H (Un2 S T2) := ⟨f2, off, fun a z => ok.al a (z.imp id (m2 a))⟩
      obtain ⟨F', g1, g2, g3, g4⟩ := resolve okF (fun a x y => dj a x (m2 a y)) (er.keep f1 (fun _ z => z) fun _ _ _ z => z) (RVL.keep f1 (fun _ z => z) (fun _ _ _ z => z) h2) e2
      refine ⟨F', g1, ?_, g3, v, r, rfl, ⟨kids_of_fz (fz_isFz d), _, Rep.keep g2.fle _ (fun _ z => z) (fun _ _ z => z.elim) f4⟩, g4⟩
      exact ⟨f1.trans g2.fle, fun _ _ _ z => z, fun _ z => z, fun a z => by
        rcases g2.fnew a z with y | y | y
        · rcases f3 a y with y | y
          · exact .inl y
          · exact .inr (.inl (.inr (m1 a y)))
        · exact .inr (.inl (y.imp id (m2 a)))
        · exact .inr (.inr y), fun a z => .inl (.inl z)⟩
    · cases d with
      | plc i =>
        obtain ⟨x, hx, hk, hd⟩ : ∃ x, get env i = some x ∧ kidsFz x = true ∧ d' = x := by
          simp only [res] at e1
          cases q : get env i with
          | none => rw [q] at e1; cases e1
          | some x =>
            rw [q] at e1
            simp only at e1
            split at e1
            · rename_i hk; cases e1; exact ⟨_, rfl, hk, rfl⟩
            · cases e1
        subst hd
        obtain ⟨w, e4, r4⟩ := er.at hx
        have h1' : σ[i]? = some (some v) := h1
        rw [h1'] at e4; cases e4
        have ok1 : Ok F H (Un2 S T2) := ok.mono fun a z => z.imp id (m2 a)
        obtain ⟨F', g1, g2, g3, g4⟩ := resolve ok1 (fun a x y => dj a x (m2 a y)) er h2 e2
        refine ⟨F', g1, g2.wide fun a z => z.imp id (m2 a), g3, v, r, rfl, ⟨hk, _, Rep.keep g2.fle _ (fun _ z => z) (fun _ _ _ z => z) r4⟩, g4⟩
      | _ => simp [noPlc] at hp
end

/-! ### what is wanted -/
variable (X : Cx) (G : Glb) (P : List (Nat × V)) (W : WX)
def PostX (σ : L2.St) (F H : Hp) (S : AS) (x : Nat) (env : Env) : Prop :=
  ∀ F' H' S' cls, Ok F' H' S' → Step F H S F' H' S' → EnvR X.K F' H' P env σ S' → X.mg (G.nm x) = some cls → W cls none σ H'
def PostE (σ : L2.St) (F H : Hp) (S : AS) (r : R D) (Q : VK) : Prop := match r with
  | .ok d env => ∀ v F' H' S' T, Ok F' H' (Un2 S' T) → Dj S' T → Step F H S F' H' (Un2 S' T) → EnvR X.K F' H' P env σ S' → RV X.K σ F' H' d v T → Q v H'
  | .exc x env => PostX X G P W σ F H S x env
  | .bad => False
def PostT (σ : L2.St) (F H : Hp) (S : AS) (r : R Bool) (Q : Bool → Hp → Prop) : Prop := match r with
  | .ok b env => ∀ F' H' S', Ok F' H' S' → Step F H S F' H' S' → EnvR X.K F' H' P env σ S' → Q b H'
  | .exc x env => PostX X G P W σ F H S x env
  | .bad => False
def PostL (σ : L2.St) (F H : Hp) (S : AS) (r : R (List D)) (Q : List V → Hp → Prop) : Prop := match r with
  | .ok ds env => ∀ vs F' H' S' T, Ok F' H' (Un2 S' T) → Dj S' T → Step F H S F' H' (Un2 S' T) → EnvR X.K F' H' P env σ S' → RVL X.K σ F' H' ds vs T → Q vs H'
  | .exc x env => PostX X G P W σ F H S x env
  | .bad => False
def tE (env : Env) (m : Env → R D) : TE := fun σ H Q => ∃ F S, Ok F H S ∧ EnvR X.K F H P env σ S ∧ PostE X G P W σ F H S (m env) Q
def tT (env : Env) (m : Env → R Bool) : TT := fun σ H Q => ∃ F S, Ok F H S ∧ EnvR X.K F H P env σ S ∧ PostT X G P W σ F H S (m env) Q
def tL (env : Env) (m : Env → R (List D)) : TA := fun σ H Q => ∃ F S, Ok F H S ∧ EnvR X.K F H P env σ S ∧ PostL X G P W σ F H S (m env) Q
/-- an operation that reads and makes: from here the result may be any new thing -/
def OP (K : PySem.W.Frag) (F H : Hp) (d : D) (Q : VK) : Prop :=
  ∀ z F' H' T, Sub F' H' → Sub F F' → Sub H H' → (∀ a, F' a ≠ none → F a ≠ none ∨ H a = none) → (∀ a, T a → H a = none ∧ F' a = none ∧ H' a ≠ none) → Rep K F' H' d z T → Q z H'
section
variable {X G P W} {K : PySem.W.Frag} {σ : L2.St} {F H F1 H1 F2 H2 : Hp} {S S1 S2 T T1 T2 : AS} {env env2 : Env} {Q : VK} {d : D} {v : V} {xs : List D} {vs : List V}
theorem PostX.step {x : Nat} (h : PostX X G P W σ F H S x env) (st : Step F H S F1 H1 (Un2 S1 T1)) : PostX X G P W σ F1 H1 S1 x env :=
  fun F' H' S' cls ok st' er hm => h F' H' S' cls ok ((st.trans st').weak fun a z => .inl z) er hm
theorem op_of (h : PostE X G P W σ F H S (.ok d env2) Q) (st : Step F H S F2 H2 S2) (ok : Ok F2 H2 S2) (er : EnvR X.K F2 H2 P env2 σ S2) : OP X.K F2 H2 d Q := by
  intro z F' H' T s f hh fn tn r
  have dj : Dj S2 T := fun a x y => ok.al a x (tn a y).1
  refine h z F' H' S2 T ⟨s, fun a x => ?_, fun a x => ?_⟩ dj ?_ (er.keep f (fun _ z => z) fun a o _ e => hh a o e) (RV.to r)
  · rcases x with x | x
    · cases q : F' a with
      | none => rfl
      | some u => exact ((fn a (by rw [q]; simp)).elim (fun y => y (ok.off a x)) fun y => ok.al a x y).elim
    · exact (tn a x).2.1
  · rcases x with x | x
    · intro q
      cases e : H2 a with
      | none => exact ok.al a x e
      | some u => rw [hh a u e] at q; cases q
    · exact (tn a x).2.2
  · have st2 : Step F2 H2 S2 F' H' (Un2 S2 T) := ⟨f, fun a o _ e => hh a o e, fun a n q => (by
      cases e : H2 a with
      | none => exact n e
      | some u => rw [hh a u e] at q; cases q), fun a y => (fn a y).imp id .inr, fun a y => y.imp id fun y => (tn a y).1⟩
    exact st.trans0 st2
theorem OP.scalar (h : OP K F H d Q) (s : Sub F H) (r : Rep K F H d v No) : Q v H := h v F H No s .refl .refl (fun _ z => .inl z) (fun _ z => z.elim) r
theorem sub_of_upd {a : Addr} {o : HO} {S0 : Hp} (s : Sub S0 H) (h : S0 a = none) (n : H a = none) : Sub (upd S0 a o) (upd H a o) := fun b u e => by
  by_cases hb : b = a
  · subst hb; rw [upd_same] at e ⊢; exact e
  · rw [upd_ne hb] at e ⊢; exact s b u e
theorem none_sub (s : Sub F H) {a : Addr} (n : H a = none) : F a = none := by
  cases q : F a with
  | none => rfl
  | some u => rw [s a u q] at n; cases n
/-- a new tuple of frozen items -/
theorem OP.tup (h : OP K F H (.tup xs) Q) (s : Sub F H) (r : RepL K F H xs vs No) : ∀ p (ob : Obj), ob.dict = none → H p = none → Q (.ref p) (upd H p (.frz ob (.tup vs))) := fun p ob hd n => by
  have n1 := none_sub s n
  refine h (.ref p) (upd F p (.frz ob (.tup vs))) (upd H p (.frz ob (.tup vs))) No (sub_of_upd s n1 n) (.upd n1) (.upd n) (fun a z => ?_) (fun _ z => z.elim) ⟨p, vs, rfl, ⟨ob, upd_same, hd⟩, RepL.keep (.upd n1) _ (fun _ z => z) (fun _ _ z => z.elim) r⟩
  by_cases ha : a = p
  · subst ha; exact .inr n
  · rw [upd_ne ha] at z; exact .inl z
/-- a new list of frozen items -/
theorem OP.lst (h : OP K F H (.lst true xs) Q) (s : Sub F H) (r : RepL K F H xs vs No) : ∀ p, H p = none → Q (.ref p) (upd H p (.lst vs)) := fun p n => by
  have n1 := none_sub s n
  refine h (.ref p) F (upd H p (.lst vs)) (fun a => a = p) (fun a o e => ?_) .refl (.upd n) (fun a z => .inl z) (fun a z => ?_) ⟨p, vs, rfl, upd_same, rfl, RepL.keep .refl _ (fun _ z => z.elim) (fun _ _ z => z.elim) r⟩
  · rw [upd_ne (ne_of_none (s a o e) n)]; exact s a o e
  · subst z; exact ⟨n, n1, by rw [upd_same]; simp⟩
end
end DD

set_option Elab.async false
set_option linter.all false
set_option maxRecDepth 100000
set_option maxHeartbeats 4000000
namespace DD
open PySem PySem.Spec PyProof.Rows L2
/-- t * 1 is t -/
theorem tup_one (l : Addr) (items : Array Value) (n : Nat) (dd : Option Addr) (sl : Array (Option Value)) (u : Tok) :
    Meets (Builtin.«tuple.__mul__» ⟨[.ref l, .int 1 u], []⟩) (fun _ R s => s.heap.get? l = some { cls := .type "tuple", dict := dd, data := .seq items n, slots := sl } ∧ R (.ok (.ret (Value.ref l))) s) :=
  .of_wp fun prog w A R s h => by
    obtain ⟨hp, g, d, tk, os⟩ := s
    obtain ⟨hl, h⟩ := h
    have f1 := AutoSeq1.idx_int
    have c1 : (items.isEmpty || (1 : Int) == 1) = true := by simp
    wp_walk using wpAny_loadPart' hl
    repeat (first
      | (refine wpAny_ite_false (decide_eq_false (by decide)) ?_; wp_walk using wpAny_loadPart' hl)
      | (refine wpAny_ite_true (by rw [c1]; rfl) ?_; wp_walk using wpAny_loadPart' hl))
    exact ⟨_, rfl, h⟩
/-- t * 0 is empty -/
theorem tup_nul (l : Addr) (items : Array Value) (n : Nat) (dd : Option Addr) (sl : Array (Option Value)) (u : Tok) (hi : items.isEmpty = false) :
    Meets (Builtin.«tuple.__mul__» ⟨[.ref l, .int 0 u], []⟩) (fun _ R s => s.heap.get? l = some { cls := .type "tuple", dict := dd, data := .seq items n, slots := sl } ∧
      R (.ok (.ret (Value.ref s.heap.objs.size))) { s with heap := s.heap.push { cls := Value.type "tuple", data := Data.seq #[] }, toks := s.toks }) :=
  .of_wp fun prog w A R s h => by
    obtain ⟨hp, g, d, tk, os⟩ := s
    obtain ⟨hl, h⟩ := h
    have f1 := AutoSeq1.idx_int
    have c1 : (items.isEmpty || (0 : Int) == 1) = false := by rw [hi]; rfl
    have c2 : (decide ((0 : Int) ≤ 0) || items.isEmpty) = true := by rw [hi]; rfl
    wp_walk using wpAny_loadPart' hl
    repeat (first
      | (refine wpAny_ite_false (decide_eq_false (by decide)) ?_; wp_walk using wpAny_loadPart' hl)
      | (refine wpAny_ite_false (decide_eq_false (by rw [c1]; exact Bool.false_ne_true)) ?_; wp_walk using wpAny_loadPart' hl)
      | (refine wpAny_ite_true (by rw [c2]; rfl) ?_; wp_walk using wpAny_loadPart' hl))
    exact ⟨_, rfl, h⟩
section
variable {X : Cx}
/-- t * 0, t * 1 -/
theorem laidT {pins : List (Addr × Obj)} {σ : L2.St} {H : Hp} {s : Shared} {vs : List V} {us : List Value} {Q : VK} (I : Inv X pins σ H s) (r : Vals vs us) (hz : vs.length ≤ sizeLine)
    (q : ∀ p (ob : Obj), ob.dict = none → H p = none → Q (.ref p) (upd H p (.frz ob (.tup vs)))) : EP X pins σ Q (.ref s.heap.objs.size) { s with heap := s.heap.push { cls := .type "tuple", data := .seq us.toArray } } :=
  ⟨.ref s.heap.objs.size, _, I.laid (t' := s.toks) (o := .frz { cls := .type "tuple", data := .seq us.toArray } (.tup vs)) (fun b ob q => Heap.get?_push_of_some _ q) (Nat.le_refl _) ⟨Heap.get?_push_size _ rfl, hz, us, r, IsTup.new _ _⟩, rfl, q _ _ rfl (I.hok.fresh (Nat.le_refl _))⟩
theorem op_rep01 : OpR X (binaryOp .Mult) (fun x y H Q => ∃ l k xs, x = .ref l ∧ y = .int k ∧ SqT X.K H l xs ∧ xs ≠ [] ∧ ((k = 1 ∧ Q (.ref l) H) ∨ (k = 0 ∧ ∀ p (ob : Obj), ob.dict = none → H p = none → Q (.ref p) (upd H p (.frz ob (.tup [])))))) := by
  intro pins s σ H x y v u Q I rx ry ⟨l, k, xs, ex, ey, hT, hne, q⟩
  subst ex ey
  cases rx
  obtain ⟨t, rfl⟩ := ry
  obtain ⟨its, r, ⟨⟨cls, dd, data, sl⟩, ho, hc, n, hd⟩, hs⟩ := I.tuple hT
  simp only at hc hd
  subst hc hd
  have hi : its.toArray.isEmpty = false := by
    have := r.length
    cases its with
    | nil => exact (hne (List.eq_nil_of_length_eq_zero (by simpa using this))).elim
    | cons a b => rfl
  rcases q with ⟨rfl, q⟩ | ⟨rfl, q⟩
  · exact wpAny_binaryOp_repeat_ref (T := "tuple") (U := "int") (by decide) ⟨_, ho, rfl⟩ (fun s' => typeIs_int s' 1 t) noFill_tuple_mul F.fills_int_mul F.slot_int_rmul repeat_tuple F.slot_int_index.lookup
      (call_meets F.slot_int_rmul (typeIs_int s 1 t) F.entry_int_rmul (F.args_int_rmul_2 _ _) (int_rmul_tuple 1 t l its.toArray n dd sl)
        ⟨ho, rfl, ⟨_, ho, rfl⟩, call_meets F.slot_tuple_mul ⟨_, ho, rfl⟩ F.entry_tuple_mul (F.args_tuple_mul_2 _ _) (tup_one l its.toArray n dd sl t) ⟨ho, ⟨.ref l, H, I, rfl, q⟩⟩⟩)
  · exact wpAny_binaryOp_repeat_ref (T := "tuple") (U := "int") (by decide) ⟨_, ho, rfl⟩ (fun s' => typeIs_int s' 0 t) noFill_tuple_mul F.fills_int_mul F.slot_int_rmul repeat_tuple F.slot_int_index.lookup
      (call_meets F.slot_int_rmul (typeIs_int s 0 t) F.entry_int_rmul (F.args_int_rmul_2 _ _) (int_rmul_tuple 0 t l its.toArray n dd sl)
        ⟨ho, rfl, ⟨_, ho, rfl⟩, call_meets F.slot_tuple_mul ⟨_, ho, rfl⟩ F.entry_tuple_mul (F.args_tuple_mul_2 _ _) (tup_nul l its.toArray n dd sl t hi)
          ⟨ho, laidT I .nil (by simp [sizeLine_eq]) q⟩⟩)
theorem op_repTF : OpR X (binaryOp .Mult) (fun x y H Q => ∃ l k xs, x = .ref l ∧ y = .int k ∧ SqT X.K H l xs ∧ xs ≠ [] ∧ 2 ≤ k ∧ k ≤ 1000 ∧ xs.length ≤ 1000 ∧ ∀ p (ob : Obj), ob.dict = none → H p = none → Q (.ref p) (upd H p (.frz ob (.tup (List.replicate k.toNat xs).flatten)))) := by
  intro pins s σ H x y v u Q I rx ry h
  obtain ⟨l, k, xs, rfl, rfl, hT, hne, h1, h2, hz, q⟩ := h
  cases rx
  obtain ⟨t, rfl⟩ := ry
  obtain ⟨its, r, ⟨⟨cls, dd, data, sl⟩, ho, hc, n, hd⟩, hs⟩ := I.tuple hT
  simp only at hc hd
  subst hc hd
  have hle : its.length = xs.length := r.length.symm
  have hn : its ≠ [] := fun e => hne (by
    rw [e] at hle
    exact List.eq_nil_of_length_eq_zero hle.symm)
  have hi : its.toArray.isEmpty = false := by
    cases its with
    | nil => exact absurd rfl hn
    | cons a b => rfl
  have hsz0 : its.toArray.size = xs.length := by rw [List.size_toArray, hle]
  have hm : ((its.toArray.size : Nat) : Int) * k ≤ 1000000 := by
    rw [hsz0]
    have a1 : ((xs.length : Nat) : Int) * k ≤ 1000 * k := Int.mul_le_mul_of_nonneg_right (by omega) (by omega)
    omega
  have flen : (List.replicate k.toNat its).flatten.length ≤ sizeLine := by
    rw [PyProof.Rows.lm_len_rep_flat, hle, sizeLine_eq]
    have a1 : k.toNat * xs.length ≤ 1000 * 1000 := Nat.mul_le_mul (by omega) hz
    omega
  have c0 : (decide (k < -(2 ^ 63)) || decide (k ≥ 2 ^ 63)) = false := by
    rw [decide_eq_false (by omega), decide_eq_false (by omega)] <;> rfl
  have c1 : (its.toArray.isEmpty || k == 1) = false := by
    rw [hi, Bool.false_or]
    exact beq_eq_false_iff_ne.mpr (by omega)
  have c2 : (decide (k ≤ 0) || its.toArray.isEmpty) = false := by
    rw [hi, Bool.or_false]
    exact decide_eq_false (by omega)
  have c4 : Builtin.Tuple.tupleTooMany (((its.toArray.size : Nat) : Int) * k) = false := by
    unfold Builtin.Tuple.tupleTooMany
    rw [sizeLine_eq]
    exact decide_eq_false (by omega)
  refine wpAny_binaryOp_repeat_ref (T := "tuple") (U := "int") (by decide) ⟨_, ho, rfl⟩ (fun s' => typeIs_int s' k t) noFill_tuple_mul F.fills_int_mul F.slot_int_rmul repeat_tuple F.slot_int_index.lookup
    (call_meets F.slot_int_rmul (typeIs_int s k t) F.entry_int_rmul (F.args_int_rmul_2 _ _) (int_rmul_tuple k t l its.toArray n dd sl)
      ⟨ho, rfl, ⟨_, ho, rfl⟩, call_meets F.slot_tuple_mul ⟨_, ho, rfl⟩ F.entry_tuple_mul (F.args_tuple_mul_2 _ _) (tuple_mulW l its.toArray n dd sl k t c0 c1 c2 (by omega) c4 (by rw [size_rep, List.size_toArray]; exact flen)) ⟨ho, ?_⟩⟩)
  rw [size_rep]
  refine laidT I (r.rep k.toNat) ?_ q
  rw [PyProof.Rows.lm_len_rep_flat, sizeLine_eq]
  have a1 : k.toNat * xs.length ≤ 1000 * 1000 := Nat.mul_le_mul (by omega) hz
  omega
theorem sl_tupF : SlR X (fun x lo hi H Q => ∃ a xs, x = .ref a ∧ SqT X.K H a xs ∧ ¬ (HT.sIx xs.length 0 lo = 0 ∧ HT.sIx xs.length xs.length hi = xs.length) ∧ ∀ p (ob : Obj), ob.dict = none → H p = none → Q (.ref p) (upd H p (.frz ob (.tup (cutV xs lo hi))))) := by
  intro pins s σ H x v vl vu lo hi sl Q I rx hs pl pu h
  obtain ⟨a, xs, rfl, hx, hw, q⟩ := h
  cases rx
  obtain ⟨its, r, ht, hz⟩ := I.tuple hx
  have hlen : its.toArray.size = xs.length := by rw [List.size_toArray]; exact r.length.symm
  refine ⟨"tuple", _, PyProof.Rows.slot_tuple_getitem.lookup, ht.typeIs, ?_⟩
  refine HT.getItem_tuple_cut ht hs pl pu (by rw [hlen]; exact hw) ?_ (by rw [hlen]; exact hz)
  rw [hlen]
  exact laidT I ((r.drop (HT.sIx xs.length 0 lo)).take (HT.sIx xs.length xs.length hi - HT.sIx xs.length 0 lo)) (Nat.le_trans (cutV_length xs lo hi) hz) q
theorem call_tuple_ofF : CallR X (.type "tuple") (fun xs H Q => ∃ p ys, xs = [.ref p] ∧ SqL X.K H p ys ∧ ∀ l (ob : Obj), ob.dict = none → H l = none → Q (.ref l) (upd H l (.frz ob (.tup ys)))) := by
  intro pins s σ H xs us Q I r h
  obtain ⟨p, ys, rfl, hq, q⟩ := h
  obtain ⟨u, rfl, rx⟩ := vals1 r
  cases rx
  obtain ⟨its, r', pl, hz⟩ := I.list hq
  have hlen := r'.length
  refine call_tuple_list pl.isList (fun h' kp => ?_) (by simp only [List.size_toArray] <;> omega)
  have I1 : Inv X pins σ H { s with heap := h' } := I.kept (t' := s.toks) kp
  exact laidT I1 r' hz q
end
end DD

set_option Elab.async false
set_option linter.all false
set_option maxRecDepth 100000
set_option maxHeartbeats 1000000
namespace DD
open PySem PySem.Spec PyProof.Rows L2

section
variable {K : PySem.W.Frag} {F H : Hp} {S : AS} {xs ys : List D} {vs ws : List V} {v : V} {o : Bool} {x : D}
theorem repL_len : ∀ {xs : List D} {vs : List V} {S : AS}, RepL K F H xs vs S → xs.length = vs.length
  | [], _, _, e => by cases e; rfl
  | _ :: xs, _, _, ⟨v, r, S1, S2, e, _, _, _, _, h⟩ => by subst e; rw [List.length_cons, List.length_cons, repL_len h]
theorem repL_get : ∀ {xs : List D} {vs : List V} {i : Nat} {x : D}, RepL K F H xs vs S → xs[i]? = some x → ∃ v, vs[i]? = some v ∧ Rep K F H x v S
  | [], _, _, _, _, e => by simp at e
  | y :: xs, _, 0, x, ⟨v, r, S1, S2, ev, m1, _, _, h1, _⟩, e => by subst ev; simp at e; subst e; exact ⟨v, rfl, Rep.keep .refl _ m1 (fun _ _ _ z => z) h1⟩
  | y :: xs, _, i + 1, x, ⟨v, r, S1, S2, ev, _, m2, _, _, h2⟩, e => by
    subst ev
    obtain ⟨w, e1, e2⟩ := repL_get (RepL.keep .refl _ m2 (fun _ _ _ z => z) h2) (i := i) (by simpa using e)
    exact ⟨w, by simpa using e1, e2⟩
theorem repL_of : ∀ {xs : List D} {vs : List V}, xs.length = vs.length → (∀ (i : Nat) (x : D) (v : V), xs[i]? = some x → vs[i]? = some v → Rep K F H x v No) → RepL K F H xs vs No
  | [], [], _, _ => rfl
  | x :: xs, v :: vs, l, h => ⟨v, vs, No, No, rfl, fun _ z => z, fun _ z => z, fun _ z => z.elim, h 0 x v rfl rfl, repL_of (by simpa using l) fun i x v a b => h (i + 1) x v (by simpa using a) (by simpa using b)⟩
  | [], _ :: _, l, _ => by cases l
  | _ :: _, [], l, _ => by cases l
theorem repL_at (h : RepL K F H xs vs No) {i : Nat} {x : D} {v : V} (e : xs[i]? = some x) (e' : vs[i]? = some v) : Rep K F H x v No := by
  obtain ⟨w, e1, e2⟩ := repL_get h e
  rw [e'] at e1; cases e1; exact e2
theorem repL_app (h : RepL K F H xs vs No) (h' : RepL K F H ys ws No) : RepL K F H (xs ++ ys) (vs ++ ws) No := by
  have l := repL_len h
  refine repL_of (by simp [l, repL_len h']) fun i x v e e' => ?_
  by_cases hi : i < xs.length
  · rw [List.getElem?_append_left hi] at e
    rw [List.getElem?_append_left (by omega)] at e'
    exact repL_at h e e'
  · rw [List.getElem?_append_right (by omega)] at e
    rw [List.getElem?_append_right (by omega), ← l] at e'
    exact repL_at h' e e'
theorem repL_drop (h : RepL K F H xs vs No) (n : Nat) : RepL K F H (xs.drop n) (vs.drop n) No :=
  repL_of (by simp [repL_len h]) fun i x v e e' => repL_at h (by simpa using e) (by simpa using e')
theorem repL_take (h : RepL K F H xs vs No) (n : Nat) : RepL K F H (xs.take n) (vs.take n) No := by
  refine repL_of (by simp [repL_len h]) fun i x v e e' => ?_
  rw [List.getElem?_take] at e e'
  split at e
  · rename_i hi
    rw [if_pos hi] at e'
    exact repL_at h e e'
  · cases e
theorem repL_rep (h : RepL K F H xs vs No) : ∀ k : Nat, RepL K F H (List.replicate k xs).flatten (List.replicate k vs).flatten No
  | 0 => rfl
  | k + 1 => by rw [List.replicate_succ, List.replicate_succ, List.flatten_cons, List.flatten_cons]; exact repL_app h (repL_rep h k)
theorem rc_tup (h : RC K F H (.tup xs) v) : ∃ a vs, v = .ref a ∧ PlT F a vs ∧ RepL K F H xs vs No := by
  obtain ⟨k, U, a, vs, e, h1, h2⟩ := h
  exact ⟨a, vs, e, h1, RepL.fzd xs (by simpa [kidsFz, D.isFz] using k) h2⟩
theorem rc_lst (s : Sub F H) (h : RC K F H (.lst o xs) v) : ∃ a vs, v = .ref a ∧ H a = some (.lst vs) ∧ RepL K F H xs vs No := by
  obtain ⟨k, U, a, vs, e, h⟩ := h
  have k' : D.isFzL xs = true := k
  cases o with
  | false => exact ⟨a, vs, e, s _ _ h.1, h.2⟩
  | true => exact ⟨a, vs, e, h.1, RepL.fzd xs k' h.2.2⟩
theorem rc_ext (s : Sub F H) (h : RC K F H (.ext xs) v) : ∃ a vs, v = .ref a ∧ SqL K H a vs ∧ RepL K F H xs vs No := by
  obtain ⟨k, U, a, vs, e, h1, h2⟩ := h
  exact ⟨a, vs, e, s.seqL h1, RepL.fzd xs (by simpa [kidsFz, D.isFz] using k) h2⟩
theorem rc_int {i : Int} (h : RC K F H (.int i) v) : v = .int i := h.2.choose_spec
theorem rc_str {z : Str} (h : RC K F H (.str z) v) : v = .str z := h.2.choose_spec.1
theorem rc_strOk {z : Str} (h : RC K F H (.str z) v) : PyData.strOk z = true := h.2.choose_spec.2
theorem rc_bl {z : Bool} (h : RC K F H (.bl z) v) : v = .bl z := h.2.choose_spec
theorem rc_non (h : RC K F H .non v) : v = .non := h.2.choose_spec
end
theorem lim_eq : sizeLine = lim := sizeLine_eq
theorem size_rep' {α : Type} (its : List α) (m : Nat) : (List.replicate m its.toArray).foldl (fun x1 x2 => x1 ++ x2) #[] = (List.replicate m its).flatten.toArray := by
  have key : ∀ (m : Nat) (acc : List α), (List.replicate m its.toArray).foldl (fun x1 x2 => x1 ++ x2) acc.toArray = (acc ++ (List.replicate m its).flatten).toArray := by
    intro m
    induction m with
    | zero => intro acc; simp
    | succ m ih =>
      intro acc
      rw [List.replicate_succ, List.foldl_cons, List.replicate_succ, List.flatten_cons, ← List.append_assoc, ← ih (acc ++ its)]
      simp
  have := key m []
  simpa using this

section
variable (X : Cx)
/-- a two-place operation by data -/
def rD (g : D → D → Option D) : R2 := fun x y H Q => ∃ F a b d, Sub F H ∧ RC X.K F H a x ∧ RC X.K F H b y ∧ g a b = some d ∧ OP X.K F H d Q
def rDB (g : D → D → Option Bool) : R2 := fun x y H Q => ∃ F a b k, Sub F H ∧ RC X.K F H a x ∧ RC X.K F H b y ∧ g a b = some k ∧ Q (.bl k) H
variable {X}
theorem add_tup {t b : Addr} {vs ws : List Value} {prog : Program} {w : World} {A : Around} {E : Value → Shared → Prop} {s : Shared} {Q : Value → Shared → Prop} (ht : IsTup s.heap t vs.toArray) (hb : IsTup s.heap b ws.toArray)
    (h0 : vs = [] → Q (.ref b) s) (h1 : vs ≠ [] → ws = [] → Q (.ref t) s)
    (h2 : vs ≠ [] → ws ≠ [] → Q (.ref s.heap.objs.size) { s with heap := s.heap.push { cls := .type "tuple", data := .seq (vs ++ ws).toArray } })
    (hsz : vs.length + ws.length ≤ sizeLine) : wpAny (model prog w) A (binaryOp .Add (.ref t) (.ref b)) Q E s := by
  by_cases hv : vs = []
  · obtain ⟨⟨cls, dd, data, sl⟩, ho, hc, n, hd⟩ := id ht
    obtain ⟨⟨cls2, dd2, data2, sl2⟩, ho2, hc2, n2, hd2⟩ := id hb
    simp only at hc hd hc2 hd2
    subst hc hd hc2 hd2
    exact concat_meets ⟨_, ho, rfl⟩ ⟨_, ho2, rfl⟩ noFill_tuple_add seq_tuple_add PySem.F.slot_tuple_add PySem.F.entry_tuple_add (PySem.F.args_tuple_add_2 _ _)
      (tuple_addW0 t b vs.toArray ws.toArray n n2 dd dd2 sl sl2 (by simp [hv])) ⟨ho, ho2, h0 hv⟩
  · exact HT.cat_tup ht hb hv (h1 hv) (h2 hv) hsz
theorem inv_newTup {pins : List (Addr × Obj)} {σ : L2.St} {H : Hp} {s : Shared} {vs : List V} {us : List Value} (I : Inv X pins σ H s) (r : Vals vs us) (hz : vs.length ≤ sizeLine) :
    Inv X pins σ (upd H s.heap.objs.size (.frz { cls := .type "tuple", data := .seq us.toArray } (.tup vs))) { s with heap := s.heap.push { cls := .type "tuple", data := .seq us.toArray } } :=
  I.laid (t' := s.toks) (o := .frz { cls := .type "tuple", data := .seq us.toArray } (.tup vs)) (fun b ob q => Heap.get?_push_of_some _ q) (Nat.le_refl _) ⟨Heap.get?_push_size _ rfl, hz, us, r, IsTup.new _ _⟩
theorem inv_newLst {pins : List (Addr × Obj)} {σ : L2.St} {H : Hp} {s : Shared} {vs : List V} {us : List Value} (I : Inv X pins σ H s) (r : Vals vs us) (hz : vs.length ≤ sizeLine) :
    Inv X pins σ (upd H s.heap.objs.size (.lst vs)) { s with heap := s.heap.push { cls := .type "list", data := .seq us.toArray } } :=
  I.laid (t' := s.toks) (o := .lst vs) (fun b ob q => Heap.get?_push_of_some _ q) (Nat.le_refl _) ⟨hz, us, 0, r, Heap.get?_push_size _ rfl⟩
theorem inv_new0 {pins : List (Addr × Obj)} {σ : L2.St} {H : Hp} {s : Shared} (I : Inv X pins σ H s) : H s.heap.objs.size = none := I.hok.fresh (Nat.le_refl _)
theorem nil_vals {vs : List V} {us : List Value} (r : Vals vs us) : us = [] ↔ vs = [] := r.nil_iff

theorem d_catT : OpR X (binaryOp .Add) (rD X fun a b => match a, b with | .tup a, .tup b => if a.length + b.length ≤ lim then some (.tup (a ++ b)) else none | _, _ => none) := by
  intro pins s σ H x y v u Q I rx ry ⟨F, a, b, d, sb, ra, rb, e, q⟩
  cases a <;> first | (simp at e; done) | skip
  cases b <;> first | (simp at e; done) | skip
  rename_i xs ys
  simp only at e
  split at e
  · rename_i hl
    cases e
    obtain ⟨t, vs, rfl, h1, h2⟩ := rc_tup ra
    obtain ⟨t', ws, rfl, h3, h4⟩ := rc_tup rb
    cases rx; cases ry
    obtain ⟨its, r1, p1, z1⟩ := I.tuple (sb.seqT h1.seqT)
    obtain ⟨its2, r2, p2, z2⟩ := I.tuple (sb.seqT h3.seqT)
    have hz : vs.length + ws.length ≤ sizeLine := by rw [← repL_len h2, ← repL_len h4, lim_eq]; exact hl
    refine add_tup p1 p2 (fun e => ?_) (fun _ e => ?_) (fun _ _ => ?_) (by rw [← r1.length, ← r2.length]; exact hz)
    · have e1 : vs = [] := (nil_vals r1).mp e
      subst e1
      have e2 : xs = [] := List.eq_nil_of_length_eq_zero (by rw [repL_len h2]; rfl)
      subst e2
      exact ⟨.ref t', H, I, rfl, q.scalar sb ⟨t', ws, rfl, h3, h4⟩⟩
    · have e1 : ws = [] := (nil_vals r2).mp e
      subst e1
      have e2 : ys = [] := List.eq_nil_of_length_eq_zero (by rw [repL_len h4]; rfl)
      subst e2
      rw [List.append_nil] at q
      exact ⟨.ref t, H, I, rfl, q.scalar sb ⟨t, vs, rfl, h1, h2⟩⟩
    · exact ⟨.ref s.heap.objs.size, _, inv_newTup I (r1.append r2) (by rw [List.length_append]; exact hz), rfl, q.tup sb (repL_app h2 h4) _ _ rfl (inv_new0 I)⟩
  · cases e
end
end DD
namespace DD
open PySem PySem.Spec PyProof.Rows L2
section
variable {X : Cx}
theorem opR_or {f : Value → Value → Sem Value} {r r' : R2} (h : OpR X f r) (h' : OpR X f r') : OpR X f (fun x y H Q => r x y H Q ∨ r' x y H Q) := by
  intro pins s σ H x y v u Q I rx ry q
  rcases q with q | q
  · exact h pins s σ H x y v u Q I rx ry q
  · exact h' pins s σ H x y v u Q I rx ry q
def boOp : Bo → Operator
  | .add => .Add | .sub => .Sub | .mul => .Mult | .fdiv => .FloorDiv | .mod => .Mod | .pow => .Pow
theorem small_ok {i : Int} (h : small i = true) : -(2 ^ 64) < i ∧ i < 2 ^ 64 := by
  have := inR_le h
  omega
theorem idx_ok {i : Int} (h : idx i = true) : -(2 ^ 62) < i ∧ i < 2 ^ 62 := by
  have := inR_le h
  omega
/-- the answer of an operation on two ints -/
theorem fin_int {H F : Hp} {Q : VK} {i : Int} (q : OP X.K F H (.int i) Q) (sb : Sub F H) : Q (.int i) H := q.scalar sb rfl

theorem d_catL : OpR X (binaryOp .Add) (rD X fun a b => match a, b with | .lst _ a, .lst _ b => if a.length + b.length ≤ lim then some (.lst true (a ++ b)) else none | _, _ => none) := by
  intro pins s σ H x y v u Q I rx ry ⟨F, a, b, d, sb, ra, rb, e, q⟩
  cases a <;> first | (simp at e; done) | skip
  cases b <;> first | (simp at e; done) | skip
  simp only at e
  split at e
  · rename_i hl
    cases e
    obtain ⟨t, vs, rfl, h1, h2⟩ := rc_lst sb ra
    obtain ⟨t', ws, rfl, h3, h4⟩ := rc_lst sb rb
    exact op_cat pins s σ H _ _ v u Q I rx ry ⟨t, t', vs, ws, rfl, rfl, h1, h3, by rw [← repL_len h2, ← repL_len h4, lim_eq]; exact hl, q.lst sb (repL_app h2 h4)⟩
  · cases e
theorem d_rep : OpR X (binaryOp .Mult) (rD X fun a b => match a, b with | .lst _ a, .int k => if idx k = true ∧ a.length * k.toNat ≤ lim then some (.lst true (List.replicate k.toNat a).flatten) else none | _, _ => none) := by
  intro pins s σ H x y v u Q I rx ry ⟨F, a, b, d, sb, ra, rb, e, q⟩
  cases a <;> first | (simp at e; done) | skip
  cases b <;> first | (simp at e; done) | skip
  simp only at e
  split at e
  · rename_i hl
    cases e
    obtain ⟨l, vs, rfl, h1, h2⟩ := rc_lst sb ra
    cases rc_int rb
    exact op_rep pins s σ H _ _ v u Q I rx ry ⟨l, _, vs, rfl, rfl, h1, by have := idx_ok hl.1; omega, by have := idx_ok hl.1; omega, by rw [← repL_len h2, lim_eq]; exact hl.2, q.lst sb (repL_rep h2 _)⟩
  · cases e
theorem d_repT : OpR X (binaryOp .Mult) (rD X fun a b => match a, b with | .tup a, .int k => if !a.isEmpty ∧ 0 ≤ k ∧ k ≤ 1000 ∧ a.length ≤ 1000 then some (.tup (List.replicate k.toNat a).flatten) else none | _, _ => none) := by
  intro pins s σ H x y v u Q I rx ry ⟨F, a, b, d, sb, ra, rb, e, q⟩
  cases a <;> first | (simp at e; done) | skip
  cases b <;> first | (simp at e; done) | skip
  simp only at e
  split at e
  · rename_i hl
    cases e
    obtain ⟨l, vs, rfl, h1, h2⟩ := rc_tup ra
    cases rc_int rb
    have hne : vs ≠ [] := fun z => by
      have := repL_len h2
      rw [z] at this
      have e0 := List.eq_nil_of_length_eq_zero this
      rw [e0] at hl
      exact absurd hl.1 (by decide)
    rename_i k
    by_cases k2 : 2 ≤ k
    · exact op_repTF pins s σ H _ _ v u Q I rx ry ⟨l, _, vs, rfl, rfl, sb.seqT h1.seqT, hne, k2, hl.2.2.1, by rw [← repL_len h2]; exact hl.2.2.2, q.tup sb (repL_rep h2 _)⟩
    · by_cases k1 : k = 1
      · subst k1
        refine op_rep01 pins s σ H _ _ v u Q I rx ry ⟨l, _, vs, rfl, rfl, sb.seqT h1.seqT, hne, .inl ⟨rfl, ?_⟩⟩
        rename_i xs
        have e : (List.replicate (1 : Int).toNat xs).flatten = xs := by show (List.replicate 1 xs).flatten = xs; simp
        rw [e] at q
        exact q.scalar sb ⟨l, vs, rfl, h1, h2⟩
      · have k0 : k = 0 := by omega
        subst k0
        exact op_rep01 pins s σ H _ _ v u Q I rx ry ⟨l, _, vs, rfl, rfl, sb.seqT h1.seqT, hne, .inr ⟨rfl, q.tup sb (repL_rep h2 0)⟩⟩
  · cases e
theorem rep_room {n m k : Nat} (h : n ≤ 1000) (h1 : 1 ≤ k) (h2 : k ≤ 1000) : ¬ ((n : Int) > (2 ^ 63 - 1) / (k : Int)) := by
  intro q
  have e := Int.mul_ediv_add_emod (2 ^ 63 - 1) (k : Int)
  have r := Int.emod_lt_of_pos (2 ^ 63 - 1) (show (0 : Int) < k by omega)
  have a : (k : Int) * ((2 ^ 63 - 1) / (k : Int) + 1) ≤ (k : Int) * n := Int.mul_le_mul_of_nonneg_left (by omega) (by omega)
  have b : (k : Int) * n ≤ (k : Int) * 1000 := Int.mul_le_mul_of_nonneg_left (by omega) (by omega)
  have c : (k : Int) * 1000 ≤ 1000 * 1000 := Int.mul_le_mul_of_nonneg_right (by omega) (by omega)
  rw [Int.mul_add] at a
  omega
theorem d_mulS : OpR X (binaryOp .Mult) (rD X fun a b => match a, b with | .str a, .int k => if 2 ≤ k ∧ k ≤ 1000 ∧ 1 ≤ a.length ∧ a.length ≤ 1000 then some (.str ⟨(List.replicate k.toNat a.cps.toList).flatten.toArray⟩) else none | _, _ => none) := by
  intro pins s σ H x y v u Q I rx ry ⟨F, a, b, d, sb, ra, rb, e, q⟩
  cases a <;> first | (simp at e; done) | skip
  cases b <;> first | (simp at e; done) | skip
  rename_i z k
  simp only at e
  split at e
  · rename_i hl
    cases e
    have ex := rc_str ra
    have ey := rc_int rb
    subst ex ey
    obtain ⟨t, rfl⟩ := rx
    obtain ⟨t2, rfl⟩ := ry
    obtain ⟨h1, h2, h3, h4⟩ := hl
    obtain ⟨m, rfl⟩ := Int.eq_ofNat_of_zero_le (show 0 ≤ k by omega)
    have c1 : (((m : Int) == 1) || z.length == 0) = false := by
      rw [Bool.or_eq_false_iff, beq_eq_false_iff_ne, beq_eq_false_iff_ne]
      constructor <;> omega
    have et : PySem.Txt.mul z (m : Int) = ⟨(List.replicate (m : Int).toNat z.cps.toList).flatten.toArray⟩ := by
      unfold PySem.Txt.mul
      rw [if_neg (by omega), if_neg (by rw [c1]; exact Bool.false_ne_true)]
      have := size_rep' z.cps.toList (m : Int).toNat
      exact congrArg Str.mk this
    have ok : PySem.MulOk z (m : Int) := by
      refine ⟨?_, fun _ _ => rep_room (m := 0) h4 (by omega) (by omega), fun _ _ => ?_⟩
      · rw [Bool.or_eq_false_iff, decide_eq_false_iff_not, decide_eq_false_iff_not]
        constructor <;> omega
      · unfold PySem.Builtin.Str.tooLong
        rw [decide_eq_false_iff_not, sizeLine_eq, Int.toNat_natCast]
        have := Nat.mul_le_mul h4 (show m ≤ 1000 by omega)
        omega
    refine PySem.SB.mul ok fun t' k' => ⟨.str (PySem.Txt.mul z (m : Int)), H, I.tok _, ⟨t', rfl⟩, ?_⟩
    rw [et]
    refine q.scalar sb ⟨rfl, ?_⟩
    have hz := rc_strOk ra
    unfold PyData.strOk at hz ⊢
    rw [← Array.all_toList, List.all_eq_true] at hz ⊢
    intro c hc
    have hc' : c ∈ (List.replicate (m : Int).toNat z.cps.toList).flatten := by simpa using hc
    obtain ⟨l, hl, hcl⟩ := List.mem_flatten.mp hc'
    rw [(List.mem_replicate.mp hl).2] at hcl
    exact hz c hcl
  · cases e
/-- an operation on data whose rule is one on ints -/
theorem d_int {f : Value → Value → Sem Value} {C : Int → Int → Prop} {g : Int → Int → Int} (h : OpR X f (rI C fun i j => .int (g i j))) (g' : D → D → Option D) (hg : ∀ a b d, g' a b = some d → ∃ i j, a = .int i ∧ b = .int j ∧ C i j ∧ d = .int (g i j)) : OpR X f (rD X g') := by
  intro pins s σ H x y v u Q I rx ry ⟨F, a, b, d, sb, ra, rb, e, q⟩
  obtain ⟨i, j, rfl, rfl, c, rfl⟩ := hg a b d e
  exact h pins s σ H x y v u Q I rx ry ⟨i, j, rc_int ra, rc_int rb, c, fin_int q sb⟩
theorem d_int0 {f : Value → Value → Sem Value} {g : Int → Int → Int} (h : OpR X f (rI0 fun i j => .int (g i j))) (g' : D → D → Option D) (hg : ∀ a b d, g' a b = some d → ∃ i j, a = .int i ∧ b = .int j ∧ d = .int (g i j)) : OpR X f (rD X g') := by
  intro pins s σ H x y v u Q I rx ry ⟨F, a, b, d, sb, ra, rb, e, q⟩
  obtain ⟨i, j, rfl, rfl, rfl⟩ := hg a b d e
  exact h pins s σ H x y v u Q I rx ry ⟨i, j, rc_int ra, rc_int rb, fin_int q sb⟩
theorem strOk_app {a b : Str} (h : PyData.strOk a = true) (h' : PyData.strOk b = true) : PyData.strOk (a ++ b) = true := by
  have e : (a ++ b).cps = a.cps ++ b.cps := rfl
  unfold PyData.strOk at *
  rw [e, Array.all_append, h, h'] <;> rfl
theorem d_addS : OpR X (binaryOp .Add) (rD X fun a b => match a, b with | .str a, .str b => if a.length + b.length ≤ lim then some (.str (a ++ b)) else none | _, _ => none) := by
  intro pins s σ H x y v u Q I rx ry ⟨F, a, b, d, sb, ra, rb, e, q⟩
  cases a <;> first | (simp at e; done) | skip
  cases b <;> first | (simp at e; done) | skip
  simp only at e
  split at e
  · rename_i hl
    cases e
    exact op_add_str pins s σ H x y v u Q I rx ry ⟨_, _, rc_str ra, rc_str rb, by rw [lim_eq]; exact hl, q.scalar sb ⟨rfl, strOk_app (rc_strOk ra) (rc_strOk rb)⟩⟩
  · cases e
/-- several rules for one operation -/
theorem d_or {f : Value → Value → Sem Value} {g g' : D → D → Option D} (h : OpR X f (rD X g)) (h' : OpR X f (rD X g')) {g'' : D → D → Option D} (hg : ∀ a b d, g'' a b = some d → g a b = some d ∨ g' a b = some d) : OpR X f (rD X g'') := by
  intro pins s σ H x y v u Q I rx ry ⟨F, a, b, d, sb, ra, rb, e, q⟩
  rcases hg a b d e with e | e
  · exact h pins s σ H x y v u Q I rx ry ⟨F, a, b, d, sb, ra, rb, e, q⟩
  · exact h' pins s σ H x y v u Q I rx ry ⟨F, a, b, d, sb, ra, rb, e, q⟩
def addI (a b : D) : Option D := match a, b with | .int a, .int b => some (.int (a + b)) | _, _ => none
theorem d_addI : OpR X (binaryOp .Add) (rD X addI) := d_int0 op_add _ fun a b d e => by
  cases a <;> cases b <;> simp [addI] at e
  exact ⟨_, _, rfl, rfl, e.symm⟩
def orElse2 (g g' : D → D → Option D) (a b : D) : Option D := match g a b with | some d => some d | none => g' a b
theorem d_or2 {f : Value → Value → Sem Value} {g g' : D → D → Option D} (h : OpR X f (rD X g)) (h' : OpR X f (rD X g')) : OpR X f (rD X (orElse2 g g')) := d_or h h' fun a b d e => by
  unfold orElse2 at e
  cases q : g a b with
  | some x => rw [q] at e; exact .inl e
  | none => rw [q] at e; exact .inr e
theorem bop_ok : ∀ o : Bo, OpR X (binaryOp (boOp o)) (rD X (bop o))
  | .add => d_or (d_or2 (d_or2 d_addI d_addS) d_catT) d_catL fun a b d e => by
      cases a <;> cases b <;> simp only [bop] at e <;> first
        | (cases e; done)
        | exact .inr e
        | (refine .inl ?_; simp only [orElse2, addI]; exact e)
        | (refine .inl ?_; simp only [orElse2, addI]; rw [e])
        | (refine .inl ?_; simp only [orElse2, addI]; split at e <;> simp_all)
  | .sub => d_int0 op_sub _ fun a b d e => by
      cases a <;> cases b <;> simp [bop] at e
      exact ⟨_, _, rfl, rfl, e.symm⟩
  | .mul => d_or (d_or2 (d_int op_mul (fun a b => match a, b with | .int a, .int b => if small a || small b then some (.int (a * b)) else none | _, _ => none) fun a b d e => by
        cases a <;> cases b <;> simp at e
        refine ⟨_, _, rfl, rfl, ?_, e.2.symm⟩
        exact e.1.imp small_ok small_ok) d_rep) (d_or2 d_repT d_mulS) fun a b d e => by
      cases a <;> cases b <;> simp only [bop] at e <;> first
        | (cases e; done)
        | exact .inr e
        | (refine .inl ?_; simp only [orElse2]; exact e)
        | (refine .inl ?_; simp only [orElse2]; rw [e])
        | (refine .inr ?_; simp only [orElse2]; exact e)
        | (refine .inr ?_; simp only [orElse2]; rw [e])
  | .fdiv => d_int op_fdiv _ fun a b d e => by
      cases a <;> cases b <;> simp [bop] at e
      exact ⟨_, _, rfl, rfl, ⟨e.1.1, by have := inR_le e.1.2; omega⟩, e.2.symm⟩
  | .mod => d_int op_mod _ fun a b d e => by
      cases a <;> cases b <;> simp [bop] at e
      exact ⟨_, _, rfl, rfl, e.1, e.2.symm⟩
  | .pow => d_int op_pow _ fun a b d e => by
      cases a <;> cases b <;> simp [bop] at e
      exact ⟨_, _, rfl, rfl, ⟨e.1.1, by have := inR_le e.1.2.1; omega, by have := small_ok e.1.2.2; omega⟩, e.2.symm⟩
end
end DD

set_option Elab.async false
set_option linter.all false
set_option maxRecDepth 100000
set_option maxHeartbeats 1000000
namespace DD
open PySem PySem.Spec PyProof.Rows L2
section
variable {K : PySem.W.Frag} {F H : Hp}
mutual
theorem py_facts (sb : Sub F H) : ∀ (d : D) {v : V} {S : AS} {n : Nat}, dle n d = true → Rep K F H d v S → Dp K H v d.py ∧ d.py.canLay0 = true ∧ d.py.depth ≤ n
  | .non, _, _, _, _, h => by cases h; exact ⟨.non, rfl, Nat.zero_le _⟩
  | .bl _, _, _, _, _, h => by cases h; exact ⟨.bl _, rfl, Nat.zero_le _⟩
  | .int _, _, _, _, _, h => by cases h; exact ⟨.int _, rfl, Nat.zero_le _⟩
  | .str _, _, _, _, _, h => by obtain ⟨rfl, o⟩ := h; exact ⟨.str _, o, Nat.zero_le _⟩
  | .fn _, _, _, _, z, _ => by simp [dle] at z
  | .plc _, _, _, _, z, _ => by simp [dle] at z
  | .ext _, _, _, _, z, _ => by simp [dle] at z
  | .tup xs, _, _, n, z, ⟨a, vs, e, h1, h2⟩ => by
    subst e
    cases n with
    | zero => simp [dle] at z
    | succ n =>
      obtain ⟨q1, q2, q3⟩ := py_factsL sb xs (by simpa [dle] using z) h2
      exact ⟨.tup (sb.seqT h1.seqT) q1, q2, Nat.succ_le_succ q3⟩
  | .lst false xs, _, _, n, z, ⟨a, vs, e, h1, h2⟩ => by
    subst e
    cases n with
    | zero => simp [dle] at z
    | succ n =>
      obtain ⟨q1, q2, q3⟩ := py_factsL sb xs (by simpa [dle] using z) h2
      exact ⟨.lst (SqL.of (sb _ _ h1)) q1, q2, Nat.succ_le_succ q3⟩
  | .lst true xs, _, _, n, z, ⟨a, vs, e, h1, _, h2⟩ => by
    subst e
    cases n with
    | zero => simp [dle] at z
    | succ n =>
      obtain ⟨q1, q2, q3⟩ := py_factsL sb xs (by simpa [dle] using z) h2
      exact ⟨.lst (SqL.of h1) q1, q2, Nat.succ_le_succ q3⟩
theorem py_factsL (sb : Sub F H) : ∀ (ds : List D) {vs : List V} {S : AS} {n : Nat}, dleL n ds = true → RepL K F H ds vs S → DpAll K H vs (D.pyL ds) ∧ PyData.canLayAll0 (D.pyL ds) = true ∧ PyData.depthAll (D.pyL ds) ≤ n
  | [], _, _, _, _, h => by cases h; exact ⟨.nil, rfl, Nat.zero_le _⟩
  | d :: ds, _, _, n, z, ⟨v, r, S1, S2, e, m1, m2, dj, h1, h2⟩ => by
    subst e
    simp only [dleL, Bool.and_eq_true] at z
    obtain ⟨a1, a2, a3⟩ := py_facts sb d z.1 h1
    obtain ⟨b1, b2, b3⟩ := py_factsL sb ds z.2 h2
    refine ⟨.cons a1 b1, ?_, Nat.max_le.mpr ⟨a3, b3⟩⟩
    show (d.py.canLay0 && PyData.canLayAll0 (D.pyL ds)) = true
    rw [a2, b2] <;> rfl
end
theorem rc_py (sb : Sub F H) {d : D} {v : V} (h : RC K F H d v) {n : Nat} (z : dle n d = true) : Dp K H v d.py ∧ d.py.canLay0 = true ∧ d.py.depth ≤ n := h.2.elim fun _ r => py_facts sb d z r
theorem shaped_py (sb : Sub F H) {d : D} {v : V} (h : RC K F H d v) (z : dle 60 d = true) : Dp K H v d.py ∧ SeqAt.shaped d.py = true := by
  obtain ⟨a, b, c⟩ := rc_py sb h z
  refine ⟨a, ?_⟩
  unfold SeqAt.shaped
  rw [b, decide_eq_true (Nat.le_trans c (by decide))] <;> rfl
end
section
variable {X : Cx}
def isSq : D → Bool
  | .tup _ => true
  | .lst _ _ => true
  | _ => false
theorem isSq_of {a : D} (h : isSq a = true) : (∃ xs, a = .tup xs) ∨ ∃ o xs, a = .lst o xs := by
  cases a <;> first | exact .inl ⟨_, rfl⟩ | exact .inr ⟨_, _, rfl⟩ | cases h
def cmOp : Cm → CmpOp
  | .eq => .Eq | .ne => .NotEq | .lt => .Lt | .le => .LtE | .gt => .Gt | .ge => .GtE | .in_ => .In | .nin => .NotIn | .is_ => .Is | .isnot => .IsNot
theorem any_py (x : D) : ∀ ys : List D, ((D.pyL ys).any fun y => PyData.eqv y x.py) = ys.any fun y => deq y x
  | [] => rfl
  | y :: ys => by simp only [D.pyL, List.any_cons, any_py x ys]; rfl
theorem one_sign {s : Str} (h : s.length = 1) : s = ⟨#[s.cps.getD 0 0]⟩ := by
  obtain ⟨c⟩ := s
  have e : c.size = 1 := h
  obtain ⟨l⟩ := c
  match l, e with
  | [a], _ => rfl
theorem is_non {K : PySem.W.Frag} {F H : Hp} {d : D} {v : V} (h : RC K F H d v) : decide (v = V.non) = isNonD d := by
  obtain ⟨k, U, r⟩ := h
  cases d with
  | non => cases r; rfl
  | bl => cases r; rfl
  | int => cases r; rfl
  | str => cases r.1; rfl
  | tup => obtain ⟨_, _, e, _⟩ := r; subst e; rfl
  | lst => obtain ⟨_, _, e, _⟩ := r; subst e; rfl
  | ext => obtain ⟨_, _, e, _⟩ := r; subst e; rfl
  | pr => obtain ⟨_, _, _, e, _⟩ := r; subst e; rfl
  | fn => exact r.elim
  | plc => exact r.elim
theorem is_in (hu : X.A.units + 70 < cLine) (neg : Bool) : OpR X (compareOp (if neg then .NotIn else .In)) (rDB X fun a b => (isin a b).map fun k => if neg then !k else k) := by
  intro pins s σ H x y v u Q I rx ry ⟨F, a, b, k, sb, ra, rb, e0, q⟩
  obtain ⟨k0, e, ek0⟩ := Option.map_eq_some_iff.mp e0
  clear e0
  subst ek0
  have main : ∀ (xs : List D), dle 60 a = true → dleL 60 xs = true → k0 = (xs.any fun y => deq y a) → (∃ p vs, y = .ref p ∧ RepL X.K F H xs vs No ∧ (SqL X.K H p vs ∨ SqT X.K H p vs)) → wpAny (model X.prog X.w) X.A (compareOp (if neg then .NotIn else .In) v u) (EP X pins σ Q) X.xe s := by
    intro xs d1 d2 ek ⟨p, vs, ey, hr, hs⟩
    subst ey
    cases ry
    obtain ⟨a1, a2, a3⟩ := rc_py sb ra d1
    obtain ⟨b1, b2, b3⟩ := py_factsL sb xs d2 hr
    obtain ⟨as, r1⟩ := Dp.reads I _ x v a1 rx
    have room : X.A.units + 1 + min (PyData.depthAll (D.pyL xs)) a.py.depth < cLine := by
      have := Nat.min_le_right (PyData.depthAll (D.pyL xs)) a.py.depth
      omega
    have fin : EP X pins σ Q (.bool (if neg then !((D.pyL xs).any fun y => PyData.eqv y a.py) else (D.pyL xs).any fun y => PyData.eqv y a.py)) s := by
      rw [any_py, ← ek]
      exact ⟨.bl _, H, I, rfl, q⟩
    rcases hs with hs | hs
    · obtain ⟨bs, r2⟩ := Dp.reads I _ (.ref p) (.ref p) (Dp.lst hs b1) rfl
      cases neg with
      | false => exact SeqAt.in_list_reads r2 r1 b2 a2 room fin
      | true => exact SeqAt.notIn_list_reads r2 r1 b2 a2 room fin
    · obtain ⟨bs, r2⟩ := Dp.reads I _ (.ref p) (.ref p) (Dp.tup hs b1) rfl
      cases neg with
      | false => exact SeqAt.in_tuple_reads r2 r1 b2 a2 room fin
      | true => exact SeqAt.notIn_tuple_reads r2 r1 b2 a2 room fin
  cases b with
  | str t =>
    cases a <;> first | (simp [isin] at e; done) | skip
    rename_i z
    simp only [isin] at e
    split at e
    · rename_i hl
      cases e
      have e1 := rc_str ra
      have e2 := rc_str rb
      rw [one_sign hl] at e1
      cases neg with
      | false => exact op_in_sign pins s σ H x y v u Q I rx ry ⟨_, t, e1, e2, q⟩
      | true => exact op_notIn_sign pins s σ H x y v u Q I rx ry ⟨_, t, e1, e2, q⟩
    · cases e
  | tup xs =>
    simp only [isin, seq?] at e
    split at e
    · rename_i hd
      cases e
      rw [Bool.and_eq_true] at hd
      obtain ⟨p, vs, e1, e2, e3⟩ := rc_tup rb
      exact main xs hd.1 hd.2 rfl ⟨p, vs, e1, e3, .inr (sb.seqT e2.seqT)⟩
    · cases e
  | lst o xs =>
    simp only [isin, seq?] at e
    split at e
    · rename_i hd
      cases e
      rw [Bool.and_eq_true] at hd
      obtain ⟨p, vs, e1, e2, e3⟩ := rc_lst sb rb
      exact main xs hd.1 hd.2 rfl ⟨p, vs, e1, e3, .inl (SqL.of e2)⟩
    · cases e
  | _ => simp [isin, seq?] at e
theorem py_seq {a : D} (h : (∃ xs, a = .tup xs) ∨ ∃ o xs, a = .lst o xs) : a.py ≠ .none := by
  rcases h with ⟨xs, rfl⟩ | ⟨o, xs, rfl⟩ <;> (intro z; cases z)
theorem is_lt (hu : X.A.units + 70 < cLine) : OpR X (compareOp .Lt) (rDB X fun a b => if isSq a then dlt a b else none) := by
  intro pins s σ H x y v u Q I rx ry ⟨F, a, b, k, sb, ra, rb, e, q⟩
  have e : (if isSq a = true then dlt a b else none) = some k := e
  split at e
  · rename_i hsq
    unfold dlt at e
    split at e
    · rename_i hd
      cases e
      simp only [Bool.and_eq_true] at hd
      obtain ⟨a1, a2, a3⟩ := rc_py sb ra hd.1
      obtain ⟨b1, b2, b3⟩ := rc_py sb rb hd.2.1
      obtain ⟨as, r1⟩ := Dp.reads I _ x v a1 rx
      obtain ⟨bs, r2⟩ := Dp.reads I _ y u b1 ry
      have := Nat.min_le_left a.py.depth b.py.depth
      exact PySem.W.lt_data r1 r2 hd.2.2 (py_seq (isSq_of hsq)) (by omega) ⟨.bl _, H, I, rfl, q⟩
    · cases e
  · cases e
theorem rDB_map {f : Value → Value → Sem Value} {g g' : D → D → Option Bool} (h : OpR X f (rDB X g)) (hg : ∀ a b, g' a b = g a b) : OpR X f (rDB X g') := by
  intro pins s σ H x y v u Q I rx ry ⟨F, a, b, k, sb, ra, rb, e, q⟩
  exact h pins s σ H x y v u Q I rx ry ⟨F, a, b, k, sb, ra, rb, by rw [← hg]; exact e, q⟩
theorem cop_int {f : Value → Value → Sem Value} {p : Int → Int → Bool} (h : OpR X f (rI0 fun i j => .bl (p i j))) {g : D → D → Option Bool} (hg : ∀ a b k, g a b = some k → ∃ i j, a = .int i ∧ b = .int j ∧ k = p i j) : OpR X f (rDB X g) := by
  intro pins s σ H x y v u Q I rx ry ⟨F, a, b, k, sb, ra, rb, e, q⟩
  obtain ⟨i, j, rfl, rfl, rfl⟩ := hg a b k e
  exact h pins s σ H x y v u Q I rx ry ⟨i, j, rc_int ra, rc_int rb, q⟩
theorem cop_ok (hu : X.A.units + 70 < cLine) : ∀ o : Cm, OpR X (compareOp (cmOp o)) (rDB X (cop o))
  | .eq => by
    intro pins s σ H x y v u Q I rx ry ⟨F, a, b, k, sb, ra, rb, e, q⟩
    simp only [cop] at e
    split at e
    · rename_i hd
      cases e
      rw [Bool.and_eq_true] at hd
      obtain ⟨a1, a2⟩ := shaped_py sb ra hd.1
      obtain ⟨b1, b2⟩ := shaped_py sb rb hd.2
      exact op_eqD (by omega) pins s σ H x y v u Q I rx ry ⟨_, _, a1, b1, a2, b2, q⟩
    · cases e
  | .ne => by
    intro pins s σ H x y v u Q I rx ry ⟨F, a, b, k, sb, ra, rb, e, q⟩
    simp only [cop] at e
    split at e
    · rename_i hd
      cases e
      rw [Bool.and_eq_true] at hd
      obtain ⟨a1, a2⟩ := shaped_py sb ra hd.1
      obtain ⟨b1, b2⟩ := shaped_py sb rb hd.2
      exact op_neD (by omega) pins s σ H x y v u Q I rx ry ⟨_, _, a1, b1, a2, b2, q⟩
    · cases e
  | .lt => by
    intro pins s σ H x y v u Q I rx ry ⟨F, a, b, k, sb, ra, rb, e, q⟩
    cases a <;> cases b <;> simp only [cop] at e <;> first | (cases e; done) | skip
    · cases e; exact op_lt pins s σ H x y v u Q I rx ry ⟨_, _, rc_int ra, rc_int rb, q⟩
    · cases e; exact op_lt_str pins s σ H x y v u Q I rx ry ⟨_, _, rc_str ra, rc_str rb, q⟩
    · exact is_lt hu pins s σ H x y v u Q I rx ry ⟨F, _, _, k, sb, ra, rb, e, q⟩
    · exact is_lt hu pins s σ H x y v u Q I rx ry ⟨F, _, _, k, sb, ra, rb, e, q⟩
  | .le => cop_int op_le fun a b k e => by
    cases a <;> cases b <;> simp [cop] at e
    exact ⟨_, _, rfl, rfl, by simpa using e.symm⟩
  | .gt => cop_int op_gt fun a b k e => by
    cases a <;> cases b <;> simp [cop] at e
    exact ⟨_, _, rfl, rfl, by simpa using e.symm⟩
  | .ge => cop_int op_ge fun a b k e => by
    cases a <;> cases b <;> simp [cop] at e
    exact ⟨_, _, rfl, rfl, by simpa using e.symm⟩
  | .in_ => rDB_map (is_in hu false) fun a b => by simp only [cop]; cases isin a b <;> rfl
  | .nin => rDB_map (is_in hu true) fun a b => by simp only [cop]; cases isin a b <;> rfl
  | .is_ => by
    intro pins s σ H x y v u Q I rx ry ⟨F, a, b, k, sb, ra, rb, e, q⟩
    cases b <;> simp only [cop] at e <;> first | (cases e; done) | skip
    cases e
    exact op_isN pins s σ H x y v u Q I rx ry ⟨rc_non rb, by rw [is_non ra]; exact q⟩
  | .isnot => by
    intro pins s σ H x y v u Q I rx ry ⟨F, a, b, k, sb, ra, rb, e, q⟩
    cases b <;> simp only [cop] at e <;> first | (cases e; done) | skip
    cases e
    refine op_notN pins s σ H x y v u Q I rx ry ⟨rc_non rb, ?_⟩
    rw [is_non ra]
    cases a <;> exact q
end
end DD

set_option Elab.async false
set_option linter.all false
set_option maxRecDepth 100000
set_option maxHeartbeats 1000000
namespace DD
open PySem PySem.Spec PyProof.Rows L2
section
variable {prog : Program} {w : World} {A : Around} {E : Value → Shared → Prop} {s : Shared}
/-- t[:] is t -/
theorem item_tuple_whole {t sl : Addr} {items : Array Value} {vl vu : Value} {lo hi : Option Int} {Q : Value → Shared → Prop} (ht : IsTup s.heap t items) (hs : s.heap.IsSliceOf sl vl vu .none)
    (pl : IsPart vl lo) (pu : IsPart vu hi) (hw : HT.sIx items.size 0 lo = 0 ∧ HT.sIx items.size items.size hi = items.size) (h : Q (.ref t) s) : wpAny (model prog w) A (getItem (.ref t) (.ref sl)) Q E s := by
  obtain ⟨os, hos, hcs, hds⟩ := id hs
  have ty : s.TypeIs (.ref sl) "slice" := ⟨os, hos, hcs⟩
  unfold getItem
  try with_reducible refine wpAny_holding ?_
  first | refine wpAny_bind (wpAny_pure ?_) | skip
  refine wpAny_bind (wpAny_sequenceKey ht.typeIs (by decide) ?_)
  refine wpAny_bind (wpAny_callSpecial?_slot (name := Str.ofString "__getitem__") ht.typeIs slot_tuple_getitem (wpAny_call_entry slot_tuple_getitem ht.typeIs entry_tuple_getitem ?_ (args_tuple_getitem _ _)))
  show wpAny _ _ (Builtin.Tuple.tupleItemsOf (.ref t) >>= _) _ _ s
  refine wpAny_bind (tupleItemsOf_ ht (wpAny_bind (wpAny_typeOf ty ?_)))
  rw [if_pos (by decide)]
  refine wpAny_bind (HT.sliceApplied_gen hs pl pu ?_)
  have yes : (((HT.sIx items.size 0 lo : Nat) : Int) == 0 && (1 : Int) == 1 && (HT.sIx items.size items.size hi - HT.sIx items.size 0 lo) == items.size) = true := by
    rw [hw.1, hw.2]
    simp
  show wpAny _ _ (if (((HT.sIx items.size 0 lo : Nat) : Int) == 0 && (1 : Int) == 1 && (HT.sIx items.size items.size hi - HT.sIx items.size 0 lo) == items.size) = true then _ else _) _ _ s
  rw [if_pos yes]
  unfold Builtin.Tuple.tupleIsExact
  refine wpAny_bind (wpAny_bind (wpAny_typeOf ht.typeIs (wpAny_pure ?_)))
  rw [if_pos (by decide)]
  first
    | exact wpAny_bind (wpAny_rule (wpAny_pure ⟨_, rfl, wpAny_pure h⟩))
    | exact wpAny_bind (wpAny_rule (wpAny_bind (wpAny_pure (wpAny_pure ⟨_, rfl, wpAny_pure h⟩))))
end

theorem fm_some {α β : Type} {f : α → Option β} {g : α → β} : ∀ {l : List α}, (∀ k ∈ l, f k = some (g k)) → l.filterMap f = l.map g
  | [], _ => rfl
  | a :: l, h => by rw [List.filterMap_cons_some (h a List.mem_cons_self), fm_some fun k hk => h k (List.mem_cons_of_mem _ hk), List.map_cons]
theorem pick_back (xs : Array Value) : ((List.range xs.size).filterMap fun (k : Nat) => xs[((xs.size : Int) - 1 + (k : Int) * -1).toNat]?).toArray = xs.toList.reverse.toArray := by
  congr 1
  rw [fm_some (g := fun k => xs.toList.getD (xs.size - 1 - k) Value.none) fun k hk => by
    have hk' := List.mem_range.mp hk
    rw [show ((xs.size : Int) - 1 + (k : Int) * -1).toNat = xs.size - 1 - k by omega, ← Array.getElem?_toList, List.getD_eq_getElem?_getD, List.getElem?_eq_getElem (by rw [Array.length_toList]; omega)]
    rfl]
  refine List.ext_getElem (by simp) fun i h1 h2 => ?_
  rw [List.getElem_map, List.getElem_range, List.getElem_reverse, List.getD_eq_getElem?_getD, List.getElem?_eq_getElem (by rw [Array.length_toList]; simp at h1; omega)]
  simp
section
variable {prog : Program} {w : World} {A : Around} {E : Value → Shared → Prop} {s : Shared}
/-- t[::-1] -/
theorem item_tuple_back {t sl : Addr} {items : Array Value} {vl vu vs : Value} {Q : Value → Shared → Prop} (ht : IsTup s.heap t items) (hs : s.heap.IsSliceOf sl vl vu vs) (pl : IsPart vl none) (pu : IsPart vu none) (ps : IsPart vs (some (-1)))
    (h : Q (.ref s.heap.objs.size) { s with heap := s.heap.push { cls := .type "tuple", data := .seq items.toList.reverse.toArray } }) (hsz : items.size ≤ sizeLine) : wpAny (model prog w) A (getItem (.ref t) (.ref sl)) Q E s := by
  have fit : sizeOk (.seq items.toList.reverse.toArray) := by
    show items.toList.reverse.toArray.size ≤ sizeLine
    rw [List.size_toArray, List.length_reverse, Array.length_toList]; exact hsz
  obtain ⟨os, hos, hcs, hds⟩ := id hs
  have ty : s.TypeIs (.ref sl) "slice" := ⟨os, hos, hcs⟩
  unfold getItem
  try with_reducible refine wpAny_holding ?_
  first | refine wpAny_bind (wpAny_pure ?_) | skip
  refine wpAny_bind (wpAny_sequenceKey ht.typeIs (by decide) ?_)
  refine wpAny_bind (wpAny_callSpecial?_slot (name := Str.ofString "__getitem__") ht.typeIs slot_tuple_getitem (wpAny_call_entry slot_tuple_getitem ht.typeIs entry_tuple_getitem ?_ (args_tuple_getitem _ _)))
  show wpAny _ _ (Builtin.Tuple.tupleItemsOf (.ref t) >>= _) _ _ s
  refine wpAny_bind (tupleItemsOf_ ht (wpAny_bind (wpAny_typeOf ty ?_)))
  rw [if_pos (by decide)]
  have cut : ∀ {A' : Around} {E' : Value → Shared → Prop} {Q' : Int × Int × Nat → Shared → Prop}, Q' ((items.size : Int) - 1, -1, items.size) s → wpAny (model prog w) A' (Builtin.Slice.sliceApplied (.ref sl) (pure (items.size : Int))) Q' E' s := fun {A' E' Q'} q => by
    unfold Builtin.Slice.sliceApplied Builtin.Slice.sliceFields
    refine wpAny_bind (wpAny_bind (wpAny_field hos hds (x := vl) rfl (wpAny_bind (wpAny_field hos hds (x := vu) rfl (wpAny_bind (wpAny_field hos hds (x := vs) rfl (wpAny_pure ?_)))))))
    refine wpAny_bind (HT.slicePart_ ps ?_)
    show wpAny _ _ (if ((-1 : Int) == 0) = true then _ else _) _ _ s
    rw [if_neg (by decide)]
    refine wpAny_bind (HT.slicePart_ pl (wpAny_bind (HT.slicePart_ pu (wpAny_bind (wpAny_pure ?_)))))
    have e : Builtin.Slice.slicePlaces ((items.size : Int) - 1) (-1) (-1) = items.size := by
      unfold Builtin.Slice.slicePlaces
      rw [if_neg (by decide)]
      by_cases hz : items.size = 0
      · rw [hz]; rfl
      · rw [if_pos (by omega)]
        show (((items.size : Int) - 1 - -1 - 1) / 1 + 1).toNat = _
        rw [Int.ediv_one]; omega
    show wpAny _ _ (pure ((items.size : Int) - 1, (-1 : Int), Builtin.Slice.slicePlaces ((items.size : Int) - 1) (-1) (-1))) _ _ s
    rw [e]
    exact wpAny_pure q
  refine wpAny_bind (cut ?_)
  show wpAny _ _ (if (((items.size : Int) - 1 == 0) && (-1 : Int) == 1 && items.size == items.size) = true then _ else _) _ _ s
  rw [if_neg (by rw [show ((-1 : Int) == 1) = false from rfl, Bool.and_false, Bool.false_and]; exact Bool.false_ne_true), pick_back]
  first
    | exact wpAny_bind (m := Builtin.Tuple.tupleExact _) (wpAny_newObj_type (wpAny_pure ⟨_, rfl, wpAny_pure h⟩) fit)
    | exact wpAny_bind (m := Builtin.Tuple.tupleExact _) (wpAny_newObj_type (wpAny_bind (wpAny_pure (wpAny_pure ⟨_, rfl, wpAny_pure h⟩))) fit)
    | exact wpAny_bind (wpAny_bind (m := Builtin.Tuple.tupleExact _) (wpAny_newObj_type (wpAny_pure (wpAny_pure ⟨_, rfl, wpAny_pure h⟩)) fit))
    | exact wpAny_bind (wpAny_bind (m := Builtin.Tuple.tupleExact _) (wpAny_newObj_type (wpAny_pure ⟨_, rfl, wpAny_pure h⟩) fit))
end
section
variable {X : Cx}
theorem repL_cut {K : PySem.W.Frag} {F H : Hp} {xs : List D} {vs : List V} (h : RepL K F H xs vs No) (lo hi : Option Int) : RepL K F H (cutL xs lo hi) (cutV vs lo hi) No := by
  have l := repL_len h
  unfold cutL cutV
  rw [l]
  exact repL_take (repL_drop h _) _
theorem cutL_whole {α : Type} {xs : List α} {lo hi : Option Int} (h : HT.sIx xs.length 0 lo = 0 ∧ HT.sIx xs.length xs.length hi = xs.length) : cutL xs lo hi = xs := by
  unfold cutL
  rw [h.1, h.2]
  simp
def rSlD (X : Cx) : V → Option Int → Option Int → Hp → VK → Prop := fun x lo hi H Q => ∃ F a d, Sub F H ∧ RC X.K F H a x ∧ slop a lo hi = some d ∧ OP X.K F H d Q
theorem slop_ok : SlR X (rSlD X) := by
  intro pins s σ H x v vl vu lo hi sl Q I rx hs pl pu ⟨F, a, d, sb, ra, e, q⟩
  have listCase : ∀ (xs : List D), d = .lst true (cutL xs lo hi) → (∃ p vs, x = .ref p ∧ SqL X.K H p vs ∧ RepL X.K F H xs vs No) → ∃ T id, typeLookup (.type T) "__getitem__" = pure (some (.builtin id)) ∧ s.TypeIs v T ∧ wpAny (model X.prog X.w) X.A (getItem v (.ref sl)) (EP X pins σ Q) X.xe s := by
    intro xs ed ⟨p, vs, ex, h1, h2⟩
    subst ed
    exact sl_list pins s σ H x v vl vu lo hi sl Q I rx hs pl pu ⟨p, vs, ex, h1, q.lst sb (repL_cut h2 lo hi)⟩
  cases a with
  | tup xs =>
    simp only [slop] at e
    cases e
    obtain ⟨p, vs, rfl, h1, h2⟩ := rc_tup ra
    have l := repL_len h2
    by_cases hw : HT.sIx vs.length 0 lo = 0 ∧ HT.sIx vs.length vs.length hi = vs.length
    · cases rx
      obtain ⟨its, r, ht, hz⟩ := I.tuple (sb.seqT h1.seqT)
      have hlen : its.toArray.size = vs.length := by rw [List.size_toArray]; exact r.length.symm
      refine ⟨"tuple", _, slot_tuple_getitem.lookup, ht.typeIs, item_tuple_whole ht hs pl pu (by rw [hlen]; exact hw) ⟨.ref p, H, I, rfl, ?_⟩⟩
      rw [cutL_whole (by rw [l]; exact hw)] at q
      exact q.scalar sb ⟨p, vs, rfl, h1, h2⟩
    · exact sl_tupF pins s σ H _ v vl vu lo hi sl Q I rx hs pl pu ⟨p, vs, rfl, sb.seqT h1.seqT, hw, q.tup sb (repL_cut h2 lo hi)⟩
  | lst o xs =>
    simp only [slop] at e
    cases e
    obtain ⟨p, vs, ex, h1, h2⟩ := rc_lst sb ra
    exact listCase xs rfl ⟨p, vs, ex, SqL.of h1, h2⟩
  | ext xs =>
    simp only [slop] at e
    cases e
    obtain ⟨p, vs, ex, h1, h2⟩ := rc_ext sb ra
    exact listCase xs rfl ⟨p, vs, ex, h1, h2⟩
  | _ => simp [slop] at e
theorem strOk_at {z : Str} {i : Int} {c : Nat} (h : PyData.strOk z = true) (e : atI z.cps.toList i = some c) : PyData.strOk ⟨#[c]⟩ = true := by
  unfold PyData.strOk at *
  obtain ⟨j, _, h2, _⟩ := atI_get e
  have hm : c ∈ z.cps := by
    have := List.mem_of_getElem? h2
    simpa using this
  have := (Array.all_eq_true'.mp h) c hm
  simp at this ⊢
  exact this
theorem repL_atI {K : PySem.W.Frag} {F H : Hp} {xs : List D} {vs : List V} (h : RepL K F H xs vs No) {i : Int} {d : D} (e : atI xs i = some d) : ∃ v, atI vs i = some v ∧ Rep K F H d v No := by
  unfold atI at e ⊢
  rw [← repL_len h]
  cases q : ixN xs.length i with
  | none => rw [q] at e; cases e
  | some j =>
    rw [q] at e
    exact repL_get h e
def rIxD (X : Cx) : R2 := rD X ixop
theorem ixop_rd {x y : V} {H : Hp} {Q : VK} (h : rIxD X x y H Q) : rIx X.K x y H Q := by
  obtain ⟨F, a, b, d, sb, ra, rb, e, q⟩ := h
  cases a <;> cases b <;> simp only [ixop] at e <;> first | (cases e; done) | skip
  · -- text
    split at e
    · rename_i hl
      obtain ⟨c, ec, rfl⟩ := Option.map_eq_some_iff.mp e
      exact .inr (.inr ⟨_, _, c, rc_str ra, rc_int rb, by rw [lim_eq]; exact hl, ec, q.scalar sb ⟨rfl, strOk_at (rc_strOk ra) ec⟩⟩)
    · cases e
  · obtain ⟨p, vs, ex, h1, h2⟩ := rc_tup ra
    obtain ⟨w, e1, e2⟩ := repL_atI h2 e
    exact .inr (.inl ⟨p, vs, _, w, ex, rc_int rb, sb.seqT h1.seqT, e1, q.scalar sb e2⟩)
  · obtain ⟨p, vs, ex, h1, h2⟩ := rc_lst sb ra
    obtain ⟨w, e1, e2⟩ := repL_atI h2 e
    exact .inl ⟨p, vs, _, w, ex, rc_int rb, SqL.of h1, e1, q.scalar sb e2⟩
  · obtain ⟨p, vs, ex, h1, h2⟩ := rc_ext sb ra
    obtain ⟨w, e1, e2⟩ := repL_atI h2 e
    exact .inl ⟨p, vs, _, w, ex, rc_int rb, h1, e1, q.scalar sb e2⟩
theorem isEmpty_repL {K : PySem.W.Frag} {F H : Hp} {xs : List D} {vs : List V} (h : RepL K F H xs vs No) : vs.isEmpty = xs.isEmpty := by
  have := repL_len h
  cases xs <;> cases vs <;> simp at this ⊢
theorem truth_rd {F H : Hp} {d : D} {v : V} {k : Bool} (sb : Sub F H) (r : RC X.K F H d v) (e : truth d = some k) : TruV X.K v H k := by
  cases d with
  | non => cases rc_non r; cases e; rfl
  | bl b => cases rc_bl r; cases e; rfl
  | int i => cases rc_int r; cases e; rfl
  | str z =>
    simp only [truth] at e
    split at e
    · rename_i hl
      cases e
      cases rc_str r
      refine ⟨by rw [lim_eq]; exact hl, ?_⟩
      cases z.length <;> rfl
    · cases e
  | tup xs =>
    cases e
    obtain ⟨p, vs, rfl, h1, h2⟩ := rc_tup r
    exact .inr (.inl ⟨vs, sb.seqT h1.seqT, by rw [isEmpty_repL h2]⟩)
  | lst o xs =>
    cases e
    obtain ⟨p, vs, rfl, h1, h2⟩ := rc_lst sb r
    exact .inl ⟨vs, SqL.of h1, by rw [isEmpty_repL h2]⟩
  | ext xs =>
    cases e
    obtain ⟨p, vs, rfl, h1, h2⟩ := rc_ext sb r
    exact .inl ⟨vs, h1, by rw [isEmpty_repL h2]⟩
  | _ => cases e
end
end DD

set_option Elab.async false
set_option linter.all false
set_option maxRecDepth 100000
set_option maxHeartbeats 1000000
namespace DD
open PySem PySem.Spec PyProof.Rows L2
theorem asI_eq : ∀ {xs : List D} {ns : List Int}, asI xs = some ns → xs = ns.map .int
  | [], ns, e => by cases e; rfl
  | x :: xs, ns, e => by
    cases x <;> simp only [asI] at e <;> first | (cases e; done) | skip
    obtain ⟨ms, e1, rfl⟩ := Option.map_eq_some_iff.mp e
    rw [asI_eq e1]; rfl
theorem asB_eq : ∀ {xs : List D} {ns : List Bool}, asB xs = some ns → xs = ns.map .bl
  | [], ns, e => by cases e; rfl
  | x :: xs, ns, e => by
    cases x <;> simp only [asB] at e <;> first | (cases e; done) | skip
    obtain ⟨ms, e1, rfl⟩ := Option.map_eq_some_iff.mp e
    rw [asB_eq e1]; rfl
theorem foldmin_le : ∀ (r : List Int) (x : Int), r.foldl (fun a b => if b < a then b else a) x ≤ x ∧ ∀ y ∈ r, r.foldl (fun a b => if b < a then b else a) x ≤ y
  | [], x => ⟨Int.le_refl _, fun _ h => by cases h⟩
  | b :: r, x => by
    have ih := foldmin_le r (if b < x then b else x)
    rw [List.foldl_cons]
    refine ⟨Int.le_trans ih.1 (by split <;> omega), fun y hy => ?_⟩
    rcases List.mem_cons.mp hy with rfl | hy
    · exact Int.le_trans ih.1 (by split <;> omega)
    · exact ih.2 y hy
theorem foldmin_mem : ∀ (r : List Int) (x : Int), r.foldl (fun a b => if b < a then b else a) x ∈ x :: r
  | [], x => by simp
  | b :: r, x => by
    rw [List.foldl_cons]
    have ih := foldmin_mem r (if b < x then b else x)
    rcases List.mem_cons.mp ih with e | h
    · rw [e]; split <;> simp
    · exact List.mem_cons_of_mem _ (List.mem_cons_of_mem _ h)
theorem foldmax_le : ∀ (r : List Int) (x : Int), x ≤ r.foldl (fun a b => if b > a then b else a) x ∧ ∀ y ∈ r, y ≤ r.foldl (fun a b => if b > a then b else a) x
  | [], x => ⟨Int.le_refl _, fun _ h => by cases h⟩
  | b :: r, x => by
    have ih := foldmax_le r (if b > x then b else x)
    rw [List.foldl_cons]
    refine ⟨Int.le_trans (by split <;> omega) ih.1, fun y hy => ?_⟩
    rcases List.mem_cons.mp hy with rfl | hy
    · exact Int.le_trans (by split <;> omega) ih.1
    · exact ih.2 y hy
theorem foldmax_mem : ∀ (r : List Int) (x : Int), r.foldl (fun a b => if b > a then b else a) x ∈ x :: r
  | [], x => by simp
  | b :: r, x => by
    rw [List.foldl_cons]
    have ih := foldmax_mem r (if b > x then b else x)
    rcases List.mem_cons.mp ih with e | h
    · rw [e]; split <;> simp
    · exact List.mem_cons_of_mem _ (List.mem_cons_of_mem _ h)
theorem minI_spec {ns : List Int} {m : Int} (h : minI ns = some m) : m ∈ ns ∧ ∀ y ∈ ns, m ≤ y := by
  cases ns with
  | nil => cases h
  | cons x r =>
    cases h
    exact ⟨foldmin_mem r x, fun y hy => (List.mem_cons.mp hy).elim (fun e => e ▸ (foldmin_le r x).1) ((foldmin_le r x).2 y)⟩
theorem maxI_spec {ns : List Int} {m : Int} (h : maxI ns = some m) : m ∈ ns ∧ ∀ y ∈ ns, y ≤ m := by
  cases ns with
  | nil => cases h
  | cons x r =>
    cases h
    exact ⟨foldmax_mem r x, fun y hy => (List.mem_cons.mp hy).elim (fun e => e ▸ (foldmax_le r x).1) ((foldmax_le r x).2 y)⟩
section
variable {K : PySem.W.Frag} {F H : Hp}
theorem repL_ints : ∀ {ns : List Int} {vs : List V} {S : AS}, RepL K F H (ns.map D.int) vs S → vs = ns.map V.int
  | [], _, _, h => h
  | n :: ns, _, _, ⟨v, r, S1, S2, e, _, _, _, h1, h2⟩ => by
    have h1' : v = V.int n := h1
    rw [e, h1', repL_ints h2]; rfl
theorem repL_bls : ∀ {ns : List Bool} {vs : List V} {S : AS}, RepL K F H (ns.map D.bl) vs S → vs = ns.map V.bl
  | [], _, _, h => h
  | n :: ns, _, _, ⟨v, r, S1, S2, e, _, _, _, h1, h2⟩ => by
    have h1' : v = V.bl n := h1
    rw [e, h1', repL_bls h2]; rfl
theorem rcl1 {d : D} {vs : List V} (h : RCL K F H [d] vs) : ∃ v, vs = [v] ∧ RC K F H d v := by
  obtain ⟨v, r, e, h1, h2⟩ := h
  have : r = [] := h2
  subst this
  exact ⟨v, e, h1⟩
theorem rcl2 {d d' : D} {vs : List V} (h : RCL K F H [d, d'] vs) : ∃ v v', vs = [v, v'] ∧ RC K F H d v ∧ RC K F H d' v' := by
  obtain ⟨v, r, e, h1, h2⟩ := h
  obtain ⟨v', rfl, h3⟩ := rcl1 h2
  exact ⟨v, v', e, h1, h3⟩
theorem rcl3 {d d' d'' : D} {vs : List V} (h : RCL K F H [d, d', d''] vs) : ∃ v v' v'', vs = [v, v', v''] ∧ RC K F H d v ∧ RC K F H d' v' ∧ RC K F H d'' v'' := by
  obtain ⟨v, r, e, h1, h2⟩ := h
  obtain ⟨v', v'', rfl, h3, h4⟩ := rcl2 h2
  exact ⟨v, v', v'', e, h1, h3, h4⟩
end
section
variable {X : Cx}
def rCD (X : Cx) (g : List D → Option D) : List V → Hp → VK → Prop := fun vs H Q => ∃ F ds d, Sub F H ∧ RCL X.K F H ds vs ∧ g ds = some d ∧ OP X.K F H d Q
/-- the contents of a list or a tuple -/
theorem seq_rc {F H : Hp} {d : D} {v : V} {xs : List D} (sb : Sub F H) (r : RC X.K F H d v) (e : seq? d = some xs) : ∃ p vs, v = .ref p ∧ (SqL X.K H p vs ∨ SqT X.K H p vs) ∧ RepL X.K F H xs vs No := by
  cases d <;> simp only [seq?] at e <;> first | (cases e; done) | skip
  · cases e; obtain ⟨p, vs, ex, h1, h2⟩ := rc_tup r; exact ⟨p, vs, ex, .inr (sb.seqT h1.seqT), h2⟩
  · cases e; obtain ⟨p, vs, ex, h1, h2⟩ := rc_lst sb r; exact ⟨p, vs, ex, .inl (SqL.of h1), h2⟩
  · cases e; obtain ⟨p, vs, ex, h1, h2⟩ := rc_ext sb r; exact ⟨p, vs, ex, .inl h1, h2⟩
theorem bltop_cases {f : Blt} {ds : List D} {d : D} (e : bltop f ds = some d) : (∃ a, ds = [a] ∧ blt1 f a = some d) ∨ ∃ a b, ds = [a, b] ∧ blt2 f a b = some d := by
  unfold bltop at e
  split at e
  · exact .inl ⟨_, rfl, e⟩
  · exact .inr ⟨_, _, rfl, e⟩
  · cases e
/-- a built-in of one argument -/
theorem blt_one {f : Value} {b : Blt} (h2 : ∀ x y d, blt2 b x y = some d → False) (h1 : ∀ (pins : List (Addr × Obj)) (s : Shared) (σ : L2.St) (H F : Hp) (a d : D) (v : V) (us : List Value) (Q : VK), Inv X pins σ H s → Vals [v] us → Sub F H → RC X.K F H a v → blt1 b a = some d → OP X.K F H d Q →
    wpAny (model X.prog X.w) X.A (call f us) (EP X pins σ Q) X.xe s) : CallR X f (rCD X (bltop b)) := by
  intro pins s σ H xs us Q I r ⟨F, ds, d, sb, rl, e, q⟩
  rcases bltop_cases e with ⟨a, rfl, e⟩ | ⟨a, c, rfl, e⟩
  · obtain ⟨v, rfl, ra⟩ := rcl1 rl
    exact h1 pins s σ H F a d v us Q I r sb ra e q
  · exact (h2 _ _ _ e).elim
theorem b_len : CallR X (.builtin "len") (rCD X (bltop .len)) := blt_one (fun x y d e => by simp [blt2] at e) fun pins s σ H F a d v us Q I r sb ra e q => by
  by_cases hs : ∃ z, a = .str z
  · obtain ⟨z, rfl⟩ := hs
    simp only [blt1, lenD] at e
    split at e
    · rename_i hl
      cases e
      refine call_len pins s σ H _ us Q I r ⟨v, z.length, rfl, ?_, q.scalar sb rfl⟩
      rw [rc_str ra]
      exact ⟨by rw [lim_eq]; exact hl, rfl⟩
    · cases e
  · have e' : (seq? a).map (fun xs => D.int xs.length) = some d := by
      cases a <;> first | exact e | exact (hs ⟨_, rfl⟩).elim
    obtain ⟨xs, e1, rfl⟩ := Option.map_eq_some_iff.mp e'
    obtain ⟨p, vs, rfl, h1, h2⟩ := seq_rc sb ra e1
    refine call_len_seq pins s σ H _ us Q I r ⟨p, vs, rfl, h1, ?_⟩
    rw [← repL_len h2]
    exact q.scalar sb rfl
theorem b_abs : CallR X (.builtin "abs") (rCD X (bltop .abs)) := blt_one (fun x y d e => by simp [blt2] at e) fun pins s σ H F a d v us Q I r sb ra e q => by
  cases a <;> simp only [blt1] at e <;> first | (cases e; done) | skip
  cases e
  exact call_abs pins s σ H _ us Q I r ⟨_, by rw [rc_int ra], q.scalar sb rfl⟩
theorem b_sum (hc : X.calm = true) : CallR X (.builtin "sum") (rCD X (bltop .sum)) := blt_one (fun x y d e => by simp [blt2] at e) fun pins s σ H F a d v us Q I r sb ra e q => by
  cases a <;> simp only [blt1] at e <;> first | (cases e; done) | skip
  obtain ⟨ns, e1, rfl⟩ := Option.map_eq_some_iff.mp e
  have := asI_eq e1
  subst this
  obtain ⟨p, vs, rfl, h1, h2⟩ := rc_lst sb ra
  exact cr_sum hc pins s σ H _ us Q I r ⟨p, ns, rfl, by rw [← repL_ints h2]; exact SqL.of h1, q.scalar sb rfl⟩
theorem b_all (hc : X.calm = true) : CallR X (.builtin "all") (rCD X (bltop .all)) := blt_one (fun x y d e => by simp [blt2] at e) fun pins s σ H F a d v us Q I r sb ra e q => by
  cases a <;> simp only [blt1] at e <;> first | (cases e; done) | skip
  obtain ⟨ns, e1, rfl⟩ := Option.map_eq_some_iff.mp e
  have := asB_eq e1
  subst this
  obtain ⟨p, vs, rfl, h1, h2⟩ := rc_lst sb ra
  exact cr_all hc pins s σ H _ us Q I r ⟨p, ns, rfl, by rw [← repL_bls h2]; exact SqL.of h1, q.scalar sb rfl⟩
theorem b_any (hc : X.calm = true) : CallR X (.builtin "any") (rCD X (bltop .any)) := blt_one (fun x y d e => by simp [blt2] at e) fun pins s σ H F a d v us Q I r sb ra e q => by
  cases a <;> simp only [blt1] at e <;> first | (cases e; done) | skip
  obtain ⟨ns, e1, rfl⟩ := Option.map_eq_some_iff.mp e
  have := asB_eq e1
  subst this
  obtain ⟨p, vs, rfl, h1, h2⟩ := rc_lst sb ra
  exact cr_any hc pins s σ H _ us Q I r ⟨p, ns, rfl, by rw [← repL_bls h2]; exact SqL.of h1, q.scalar sb rfl⟩
theorem bind_map_some {α β γ : Type} {o : Option α} {f : α → Option β} {g : β → γ} {c : γ} (h : (o.bind f).map g = some c) : ∃ a b, o = some a ∧ f a = some b ∧ g b = c := by
  cases o with
  | none => cases h
  | some a =>
    have h' : (f a).map g = some c := h
    obtain ⟨b, e1, e2⟩ := Option.map_eq_some_iff.mp h'
    exact ⟨a, b, rfl, e1, e2⟩
theorem len_pos {ns : List Int} {m : Int} (h : m ∈ ns) : 0 < ns.length := by
  cases ns with
  | nil => cases h
  | cons a r => exact Nat.succ_pos _
theorem b_min (hc : X.calm = true) : CallR X (.builtin "min") (rCD X (bltop .min)) := by
  intro pins s σ H xs us Q I r ⟨F, ds, d, sb, rl, e0, q⟩
  rcases bltop_cases e0 with ⟨a, rfl, e⟩ | ⟨a, c, rfl, e⟩
  · obtain ⟨v, rfl, ra⟩ := rcl1 rl
    cases a <;> simp only [blt1] at e <;> first | (cases e; done) | skip
    obtain ⟨ns, m, e1, e2, ed⟩ := bind_map_some e
    subst ed
    have := asI_eq e1
    subst this
    obtain ⟨p, vs, rfl, h1, h2⟩ := rc_lst sb ra
    obtain ⟨m1, m2⟩ := minI_spec e2
    refine cr_min hc pins s σ H _ us Q I r ⟨p, ns, rfl, by rw [← repL_ints h2]; exact SqL.of h1, len_pos m1, fun k k1 k2 => ?_⟩
    rw [show k = m from Int.le_antisymm (k2 m m1) (m2 k k1)]
    exact q.scalar sb rfl
  · obtain ⟨v, w, rfl, ra, rb⟩ := rcl2 rl
    cases a <;> cases c <;> simp only [blt2] at e <;> first | (cases e; done) | skip
    cases e
    exact call_min2 hc pins s σ H _ us Q I r ⟨_, _, by rw [rc_int ra, rc_int rb], q.scalar sb rfl⟩
theorem b_max (hc : X.calm = true) : CallR X (.builtin "max") (rCD X (bltop .max)) := by
  intro pins s σ H xs us Q I r ⟨F, ds, d, sb, rl, e0, q⟩
  rcases bltop_cases e0 with ⟨a, rfl, e⟩ | ⟨a, c, rfl, e⟩
  · obtain ⟨v, rfl, ra⟩ := rcl1 rl
    cases a <;> simp only [blt1] at e <;> first | (cases e; done) | skip
    obtain ⟨ns, m, e1, e2, ed⟩ := bind_map_some e
    subst ed
    have := asI_eq e1
    subst this
    obtain ⟨p, vs, rfl, h1, h2⟩ := rc_lst sb ra
    obtain ⟨m1, m2⟩ := maxI_spec e2
    refine cr_max hc pins s σ H _ us Q I r ⟨p, ns, rfl, by rw [← repL_ints h2]; exact SqL.of h1, len_pos m1, fun k k1 k2 => ?_⟩
    rw [show k = m from Int.le_antisymm (m2 k k1) (k2 m m1)]
    exact q.scalar sb rfl
  · obtain ⟨v, w, rfl, ra, rb⟩ := rcl2 rl
    cases a <;> cases c <;> simp only [blt2] at e <;> first | (cases e; done) | skip
    cases e
    exact call_max2 hc pins s σ H _ us Q I r ⟨_, _, by rw [rc_int ra, rc_int rb], q.scalar sb rfl⟩
theorem b_int : CallR X (.type "int") (rCD X (bltop .int)) := blt_one (fun x y d e => by simp [blt2] at e) fun pins s σ H F a d v us Q I r sb ra e q => by
  cases a <;> simp only [blt1] at e <;> first | (cases e; done) | skip
  · cases e
    exact call_int1 pins s σ H _ us Q I r (.inr ⟨_, by rw [rc_bl ra], q.scalar sb rfl⟩)
  · cases e
    exact call_int1 pins s σ H _ us Q I r (.inl ⟨_, by rw [rc_int ra], q.scalar sb rfl⟩)
theorem b_bool : CallR X (.type "bool") (rCD X (bltop .bool)) := blt_one (fun x y d e => by simp [blt2] at e) fun pins s σ H F a d v us Q I r sb ra e q => by
  cases a <;> simp only [blt1] at e <;> first | (cases e; done) | skip
  · cases e
    exact call_bool1 pins s σ H _ us Q I r (.inr ⟨_, by rw [rc_bl ra], q.scalar sb rfl⟩)
  · cases e
    exact call_bool1 pins s σ H _ us Q I r (.inl ⟨_, by rw [rc_int ra], q.scalar sb rfl⟩)
theorem b_list : CallR X (.type "list") (rCD X (bltop .list)) := blt_one (fun x y d e => by simp [blt2] at e) fun pins s σ H F a d v us Q I r sb ra e q => by
  obtain ⟨xs, e1, rfl⟩ := Option.map_eq_some_iff.mp (show (seq? a).map (D.lst true ·) = some d from e)
  obtain ⟨p, vs, rfl, h1, h2⟩ := seq_rc sb ra e1
  exact call_list_of pins s σ H _ us Q I r ⟨p, vs, rfl, h1, q.lst sb h2⟩
theorem b_repr (gd : X.A.guards = some []) (hu : X.A.units + 70 < cLine) : CallR X (.builtin "repr") (rCD X (bltop .repr)) := blt_one (fun x y d e => by simp [blt2] at e) fun pins s σ H F a d v us Q I r sb ra e q => by
  have main : okR a = true → d = .str a.py.shown → (∃ p, v = .ref p) → wpAny (model X.prog X.w) X.A (call (.builtin "repr") us) (EP X pins σ Q) X.xe s := by
    intro ok ed ⟨p, ev⟩
    subst ed ev
    unfold okR at ok
    simp only [Bool.and_eq_true, decide_eq_true_eq] at ok
    obtain ⟨o1, o2, o3, o4⟩ := ok
    obtain ⟨a1, a2, a3⟩ := rc_py sb ra o1
    obtain ⟨u, rfl, ru⟩ := vals1 r
    cases ru
    obtain ⟨as, r1⟩ := Dp.reads I _ (.ref p) (.ref p) a1 rfl
    exact repr_of_reads' r1 o2 (fun z => by rw [PyData.hasDict_of_canLay _ a2] at z; cases z) gd (by omega) (fun _ _ z => z) (fun h' t tk hk => ⟨.str _, H, I.kept (t' := tk) hk, ⟨t, rfl⟩, q.scalar sb ⟨rfl, o4⟩⟩) (by rw [lim_eq]; exact o3)
  cases a <;> simp only [blt1] at e <;> first | (cases e; done) | skip
  · split at e
    · rename_i ok
      cases e
      obtain ⟨p, vs, ev, _, _⟩ := rc_tup ra
      exact main ok rfl ⟨p, ev⟩
    · cases e
  · split at e
    · rename_i ok
      cases e
      obtain ⟨p, vs, ev, _, _⟩ := rc_lst sb ra
      exact main ok rfl ⟨p, ev⟩
    · cases e
theorem b_tuple : CallR X (.type "tuple") (rCD X (bltop .tuple)) := blt_one (fun x y d e => by simp [blt2] at e) fun pins s σ H F a d v us Q I r sb ra e q => by
  obtain ⟨xs, e1, rfl⟩ := Option.map_eq_some_iff.mp (show (seq? a).map D.tup = some d from e)
  cases a <;> simp only [seq?] at e1 <;> first | (cases e1; done) | skip
  · cases e1
    obtain ⟨p, vs, rfl, h1, h2⟩ := rc_tup ra
    exact call_tuple_of pins s σ H _ us Q I r ⟨p, vs, rfl, .inr ⟨sb.seqT h1.seqT, q.scalar sb ⟨p, vs, rfl, h1, h2⟩⟩⟩
  · cases e1
    obtain ⟨p, vs, rfl, h1, h2⟩ := rc_lst sb ra
    exact call_tuple_ofF pins s σ H _ us Q I r ⟨p, vs, rfl, SqL.of h1, q.tup sb h2⟩
  · cases e1
    obtain ⟨p, vs, rfl, h1, h2⟩ := rc_ext sb ra
    exact call_tuple_ofF pins s σ H _ us Q I r ⟨p, vs, rfl, h1, q.tup sb h2⟩
end
end DD

set_option Elab.async false
set_option linter.all false
set_option maxRecDepth 100000
set_option maxHeartbeats 1000000
namespace DD
open PySem PySem.Spec PyProof.Rows L2
/-! ### from one part to the next -/
/-- a wish about an outcome -/
structure Pst (X : Cx) (G : Glb) (P : List (Nat × V)) (W : WX) (σ : L2.St) {β : Type} (post : Hp → Hp → AS → R β → Prop) : Prop where
  bad : ∀ F H S, post F H S .bad → False
  exc : ∀ F H S x env, post F H S (.exc x env) → PostX X G P W σ F H S x env
/-- in the middle: from where post is wanted to here, ds held (the latest first) -/
def Mid (X : Cx) (P : List (Nat × V)) (σ : L2.St) (env : Env) (ds : List D) (vs : List V) (H : Hp) (post : Hp → Hp → AS → Prop) : Prop :=
  ∃ F0 H0 S0 F S T, post F0 H0 S0 ∧ Step F0 H0 S0 F H (Un2 S T) ∧ Ok F H (Un2 S T) ∧ Dj S T ∧ EnvR X.K F H P env σ S ∧ RVL X.K σ F H ds vs T
section
variable {X : Cx} {G : Glb} {P : List (Nat × V)} {W : WX} {σ : L2.St} {env env1 : Env} {ds : List D} {vs : List V} {H H1 : Hp} {β : Type} {post : Hp → Hp → AS → R β → Prop} {Q Q' : VK} {m : Env → R D} {k : D → Env → R β}
theorem pstE : Pst X G P W σ (fun F H S r => PostE X G P W σ F H S r Q) := ⟨fun _ _ _ h => h, fun _ _ _ _ _ h => h⟩
theorem pstT {Q : Bool → Hp → Prop} : Pst X G P W σ (fun F H S r => PostT X G P W σ F H S r Q) := ⟨fun _ _ _ h => h, fun _ _ _ _ _ h => h⟩
theorem pstL {Q : List V → Hp → Prop} : Pst X G P W σ (fun F H S r => PostL X G P W σ F H S r Q) := ⟨fun _ _ _ h => h, fun _ _ _ _ _ h => h⟩
theorem tE_mono (h : tE X G P W env m σ H Q) (q : ∀ v H', Q v H' → Q' v H') : tE X G P W env m σ H Q' := by
  obtain ⟨F, S, ok, er, h⟩ := h
  refine ⟨F, S, ok, er, ?_⟩
  cases e : m env with
  | ok d e2 => rw [e] at h; exact fun v F' H' S' T a b c d e => q _ _ (h v F' H' S' T a b c d e)
  | exc x e2 => rw [e] at h; exact h
  | bad => rw [e] at h; exact h
theorem tT_mono {m : Env → R Bool} {Q Q' : Bool → Hp → Prop} (h : tT X G P W env m σ H Q) (q : ∀ v H', Q v H' → Q' v H') : tT X G P W env m σ H Q' := by
  obtain ⟨F, S, ok, er, h⟩ := h
  refine ⟨F, S, ok, er, ?_⟩
  cases e : m env with
  | ok d e2 => rw [e] at h; exact fun F' H' S' a b c => q _ _ (h F' H' S' a b c)
  | exc x e2 => rw [e] at h; exact h
  | bad => rw [e] at h; exact h
theorem tL_mono {m : Env → R (List D)} {Q Q' : List V → Hp → Prop} (h : tL X G P W env m σ H Q) (q : ∀ v H', Q v H' → Q' v H') : tL X G P W env m σ H Q' := by
  obtain ⟨F, S, ok, er, h⟩ := h
  refine ⟨F, S, ok, er, ?_⟩
  cases e : m env with
  | ok d e2 => rw [e] at h; exact fun v F' H' S' T a b c d e => q _ _ (h v F' H' S' T a b c d e)
  | exc x e2 => rw [e] at h; exact h
  | bad => rw [e] at h; exact h
theorem Mid.imp {p p' : Hp → Hp → AS → Prop} (h : Mid X P σ env ds vs H p) (q : ∀ F H S, p F H S → p' F H S) : Mid X P σ env ds vs H p' := by
  obtain ⟨F0, H0, S0, F, S, T, a, b⟩ := h
  exact ⟨F0, H0, S0, F, S, T, q _ _ _ a, b⟩
theorem Mid.start {p : Hp → Hp → AS → Prop} {F : Hp} {S : AS} (ok : Ok F H S) (er : EnvR X.K F H P env σ S) (h : p F H S) : Mid X P σ env [] [] H p :=
  ⟨F, H, S, F, S, No, h, Step.refl.weak fun a z => z.elim id False.elim, ok.mono fun a z => z.elim id False.elim, fun _ _ z => z, er, rfl⟩
theorem Mid.ofE (h : tE X G P W env m σ H Q) : Mid X P σ env [] [] H (fun F0 H0 S0 => PostE X G P W σ F0 H0 S0 (m env) Q) := by
  obtain ⟨F, S, ok, er, h⟩ := h
  exact Mid.start ok er h
theorem Mid.ofT {m : Env → R Bool} {Q : Bool → Hp → Prop} (h : tT X G P W env m σ H Q) : Mid X P σ env [] [] H (fun F0 H0 S0 => PostT X G P W σ F0 H0 S0 (m env) Q) := by
  obtain ⟨F, S, ok, er, h⟩ := h
  exact Mid.start ok er h
theorem Mid.ofL {m : Env → R (List D)} {Q : List V → Hp → Prop} (h : tL X G P W env m σ H Q) : Mid X P σ env [] [] H (fun F0 H0 S0 => PostL X G P W σ F0 H0 S0 (m env) Q) := by
  obtain ⟨F, S, ok, er, h⟩ := h
  exact Mid.start ok er h
/-- what is held stays held through a further part that ends with S', T' -/
theorem held_on {F0 H0 F F' H' : Hp} {S0 S T S' T' : AS} (st : Step F0 H0 S0 F H1 (Un2 S T)) (ok : Ok F H1 (Un2 S T)) (dj : Dj S T) (ok' : Ok F' H' (Un2 S' T')) (dj' : Dj S' T') (st' : Step F H1 S F' H' (Un2 S' T')) :
    Step F0 H0 S0 F' H' (Un2 S' (Un2 T' T)) ∧ Ok F' H' (Un2 S' (Un2 T' T)) ∧ Dj S' (Un2 T' T) ∧ Dj T' T ∧ ∀ a o, T a → H1 a = some o → H' a = some o := by
  have no : ∀ a, T a → ¬ (S' a ∨ T' a) := fun a z y => by
    rcases st'.snew a y with q | q
    · exact dj a q z
    · exact ok.al a (.inr z) q
  refine ⟨(st.trans st').weak fun a z => ?_, ⟨ok'.sub, fun a z => ?_, fun a z => ?_⟩, fun a x y => ?_, fun a x y => no a y (.inr x), fun a o z e => st'.keep a o (fun y => dj a y z) e⟩
  · rcases z with z | z | z
    · exact .inl (.inl z)
    · exact .inl (.inr z)
    · exact .inr z
  · rcases z with z | z | z
    · exact ok'.off a (.inl z)
    · exact ok'.off a (.inr z)
    · cases q : F' a with
      | none => rfl
      | some u =>
        rcases st'.fnew a (by rw [q]; simp) with y | y | y
        · exact (y (ok.off a (.inr z))).elim
        · exact (dj a y z).elim
        · exact (ok.al a (.inr z) y).elim
  · rcases z with z | z | z
    · exact ok'.al a (.inl z)
    · exact ok'.al a (.inr z)
    · exact st'.all a (ok.al a (.inr z))
  · rcases y with y | y
    · exact dj' a x y
    · exact no a y (.inl x)
theorem Mid.next (hp : Pst X G P W σ post) (h : Mid X P σ env1 ds vs H1 (fun F0 H0 S0 => post F0 H0 S0 ((m env1).bind k))) :
    tE X G P W env1 m σ H1 (fun v H2 => ∃ d env2, m env1 = .ok d env2 ∧ Mid X P σ env2 (d :: ds) (v :: vs) H2 (fun F0 H0 S0 => post F0 H0 S0 (k d env2))) := by
  obtain ⟨F0, H0, S0, F, S, T, hpost, st, ok, dj, er, rv⟩ := h
  refine ⟨F, S, ok.left, er, ?_⟩
  cases e : m env1 with
  | ok d env2 =>
    rw [e] at hpost
    intro v F' H' S' T' ok' dj' st' er' rv'
    obtain ⟨a1, a2, a3, a4, a5⟩ := held_on st ok dj ok' dj' st'
    exact ⟨d, env2, rfl, F0, H0, S0, F', S', Un2 T' T, hpost, a1, a2, a3, er', v, vs, T', T, rfl, fun _ z => .inl z, fun _ z => .inr z, a4, rv', RVL.keep st'.fle (fun _ z => z) a5 rv⟩
  | exc x env2 =>
    rw [e] at hpost
    exact (hp.exc _ _ _ _ _ hpost).step st
  | bad =>
    rw [e] at hpost
    exact hp.bad _ _ _ hpost
/-- a test next -/
theorem Mid.nextT {m : Env → R Bool} {k : Bool → Env → R β} (hp : Pst X G P W σ post) (h : Mid X P σ env1 ds vs H1 (fun F0 H0 S0 => post F0 H0 S0 ((m env1).bind k))) :
    tT X G P W env1 m σ H1 (fun b H2 => ∃ env2, m env1 = .ok b env2 ∧ Mid X P σ env2 ds vs H2 (fun F0 H0 S0 => post F0 H0 S0 (k b env2))) := by
  obtain ⟨F0, H0, S0, F, S, T, hpost, st, ok, dj, er, rv⟩ := h
  refine ⟨F, S, ok.left, er, ?_⟩
  cases e : m env1 with
  | ok d env2 =>
    rw [e] at hpost
    intro F' H' S' ok' st' er'
    have st2 : Step F H1 S F' H' (Un2 S' No) := st'.weak fun a z => z.elim id False.elim
    have ok2 : Ok F' H' (Un2 S' No) := ok'.mono fun a z => z.elim id False.elim
    obtain ⟨a1, a2, a3, a4, a5⟩ := held_on st ok dj ok2 (fun _ _ z => z) st2
    exact ⟨env2, rfl, F0, H0, S0, F', S', T, hpost, a1.weak fun a z => z.imp id .inr, a2.mono fun a z => z.imp id .inr, fun a x y => a3 a x (.inr y), er', RVL.keep st'.fle (fun _ z => z) a5 rv⟩
  | exc x env2 =>
    rw [e] at hpost
    exact (hp.exc _ _ _ _ _ hpost).step st
  | bad =>
    rw [e] at hpost
    exact hp.bad _ _ _ hpost
theorem rvl_app {K : PySem.W.Frag} {F H : Hp} : ∀ {ds es : List D} {vs ws : List V} {T1 T2 : AS}, Dj T1 T2 → RVL K σ F H ds vs T1 → RVL K σ F H es ws T2 → RVL K σ F H (ds ++ es) (vs ++ ws) (Un2 T1 T2)
  | [], es, vs, ws, T1, T2, dj, h, h' => by
    have : vs = [] := h
    subst this
    exact RVL.keep .refl (fun a z => .inr z) (fun _ _ _ z => z) h'
  | d :: ds, es, vs, ws, T1, T2, dj, ⟨v, r, U1, U2, e, m1, m2, dj2, h1, h2⟩, h' => by
    subst e
    exact ⟨v, r ++ ws, U1, Un2 U2 T2, rfl, fun a z => .inl (m1 a z), fun a z => z.imp (m2 a) id, fun a x y => y.elim (dj2 a x) fun y => dj a (m1 a x) y, h1, rvl_app (fun a x y => dj a (m2 a x) y) h2 h'⟩
/-- a list of things next -/
theorem Mid.nextL {m : Env → R (List D)} {k : List D → Env → R β} (hp : Pst X G P W σ post) (h : Mid X P σ env1 ds vs H1 (fun F0 H0 S0 => post F0 H0 S0 ((m env1).bind k))) :
    tL X G P W env1 m σ H1 (fun ws H2 => ∃ es env2, m env1 = .ok es env2 ∧ Mid X P σ env2 (es ++ ds) (ws ++ vs) H2 (fun F0 H0 S0 => post F0 H0 S0 (k es env2))) := by
  obtain ⟨F0, H0, S0, F, S, T, hpost, st, ok, dj, er, rv⟩ := h
  refine ⟨F, S, ok.left, er, ?_⟩
  cases e : m env1 with
  | ok d env2 =>
    rw [e] at hpost
    intro v F' H' S' T' ok' dj' st' er' rv'
    obtain ⟨a1, a2, a3, a4, a5⟩ := held_on st ok dj ok' dj' st'
    exact ⟨d, env2, rfl, F0, H0, S0, F', S', Un2 T' T, hpost, a1, a2, a3, er', rvl_app a4 rv' (RVL.keep st'.fle (fun _ z => z) a5 rv)⟩
  | exc x env2 =>
    rw [e] at hpost
    exact (hp.exc _ _ _ _ _ hpost).step st
  | bad =>
    rw [e] at hpost
    exact hp.bad _ _ _ hpost
/-- the operands read -/
theorem Mid.res {p : Hp → Hp → AS → Prop} {ds' : List D} (h : Mid X P σ env ds vs H p) (e : resL env ds = some ds') :
    ∃ F0 H0 S0 F S, p F0 H0 S0 ∧ Step F0 H0 S0 F H S ∧ Ok F H S ∧ EnvR X.K F H P env σ S ∧ RCL X.K F H ds' vs := by
  obtain ⟨F0, H0, S0, F, S, T, hpost, st, ok, dj, er, rv⟩ := h
  obtain ⟨F', a1, a2, a3, a4⟩ := resolve ok dj er rv e
  exact ⟨F0, H0, S0, F', S, hpost, st.trans0 a2, a1, a3, a4⟩
/-- .. then an operation that makes d -/
theorem Mid.op {env2 : Env} {ds' : List D} {d : D} (h : Mid X P σ env2 ds vs H (fun F0 H0 S0 => PostE X G P W σ F0 H0 S0 (.ok d env2) Q)) (e : resL env2 ds = some ds') :
    ∃ F, Sub F H ∧ RCL X.K F H ds' vs ∧ OP X.K F H d Q := by
  obtain ⟨F0, H0, S0, F, S, a, b, c, d', e'⟩ := h.res e
  exact ⟨F, c.sub, e', op_of a b c d'⟩
/-- what is moved on, as it is -/
theorem Mid.give {env2 : Env} {d : D} {v : V} {vs : List V} (h : Mid X P σ env2 (d :: ds) (v :: vs) H (fun F0 H0 S0 => PostE X G P W σ F0 H0 S0 (.ok d env2) Q)) : Q v H := by
  obtain ⟨F0, H0, S0, F, S, T, hpost, st, ok, dj, er, w, r, T1, T2, e, m1, m2, dj2, h1, h2⟩ := h
  cases e
  exact hpost v F H S T1 (ok.mono fun a z => z.imp id (m1 a)) (fun a x y => dj a x (m1 a y)) (st.weak fun a z => z.imp id (m1 a)) er h1
end
end DD

set_option Elab.async false
set_option linter.all false
set_option maxRecDepth 100000
set_option maxHeartbeats 1000000
namespace DD
open PySem PySem.Spec PyProof.Rows L2
/-! ### a def that is called -/
/-- the values of the in-and-out parameters -/
def pick {α : Type} (io : List Nat) : Nat → List α → List α
  | _, [] => []
  | k, x :: xs => if io.contains k then x :: pick io (k + 1) xs else pick io (k + 1) xs
def PostF (K : PySem.W.Frag) (mg : Str → Option Value) (G : Glb) (F H : Hp) (S : AS) (io : List Nat) (vs : List V) (r : FR) (Q : VK) (E : XK) : Prop := match r with
  | .ret d outs => ∀ v F' H' S' T, Ok F' H' (Un2 S' T) → Dj S' T → Step F H S F' H' (Un2 S' T) → RepL K F' H' outs (pick io 0 vs) S' → Rep K F' H' d v T → Q v H'
  | .exc x outs => ∀ F' H' S' cls, Ok F' H' S' → Step F H S F' H' S' → RepL K F' H' outs (pick io 0 vs) S' → mg (G.nm x) = some cls → E cls none H'
  | .bad => False
/-- a def that keeps a promise wherever no repr is under way -/
structure FnG (P : Program) (w : World) (K : PySem.W.Frag) (mg : Str → Option Value) (base : Heap) (k : Nat) (f : Addr) (fd : FuncData) (ps : List Str) (sp : Sp) : Prop where
  len : ∀ vs H Q E, sp vs H Q E → vs.length = ps.length
  run : ∀ (A : Around) (outer : List PySem.Env) (s : Shared) (H : Hp) (args : Args) (us : List Value) (vs : List V) (Q : VK) (E : XK), Room k A → A.guards = some [] → Env0 P w K mg base A outer s H → BindsTo s fd args (ps.zip us) → Vals vs us → sp vs H Q E →
    codeAny (model P w) A (.call (.ref f) args) (CR (L2N.CX P w) outer P w H s Q E) s
/-- a def's promise: it does to data what g does -/
def spF (K : PySem.W.Frag) (mg : Str → Option Value) (G : Glb) (io : List Nat) (n : Nat) (g : List D → FR) : Sp := fun vs H Q E =>
  ∃ F S ds, Ok F H S ∧ RepL K F H ds vs S ∧ ds.length = n ∧ PostF K mg G F H S io vs (g ds) Q E
structure FnX (X : Cx) (G : Glb) (f : Nat) (g : List D → FR) : Prop where
  ex : ∃ (a : Addr) (fd : FuncData) (ps : List Str) (k : Nat), X.mg (G.nm f) = some (.ref a) ∧ PySem.W.keepIn X.K (.ref a) = true ∧ Room k X.A ∧ Binds X.K fd ps [] ∧
    FnG X.prog X.w X.K X.mg X.base k a fd ps (spF X.K X.mg G (G.io f) ps.length g) ∧ ∀ ds, g ds ≠ .bad → ds.length = ps.length
/-- a class of errors -/
structure ExX (X : Cx) (G : Glb) (x : Nat) : Prop where
  ex : ∃ (C : Addr) (bmB : List Value) (B newId initId : String), ExcBaseFacts B newId initId bmB ∧ PySem.W.excIn X.K C bmB newId = true ∧ X.mg (G.nm x) = some (.ref C) ∧ PySem.W.keepIn X.K (.ref C) = true ∧ Raises X (.ref C)
/-- the def of the law's word, called on an error of the class D0 -/
structure FnE (P : Program) (w : World) (K : PySem.W.Frag) (mg : Str → Option Value) (base : Heap) (k : Nat) (f : Addr) (fd : FuncData) (D0 : Addr) (z : Str) : Prop where
  run : ∀ (A : Around) (outer : List PySem.Env) (s : Shared) (H F : Hp) (args : Args) (us : List Value) (p : Addr × Obj) (Q : VK) (E : XK), L2H.RoomH k A → A.guards = some [] → L2H.Hot1 A p → L2H.PinOk outer H s p → Zc (.ref D0) none p.2 → (∃ vs, p.2.data = .fields vs) → Env0 P w K mg base A outer s H →
    BindsTo s fd args ([("e" : Str)].zip us) → Vals [.ref p.1] us → Sub F H → (∀ F' H', Sub F F' → Sub F' H' → Sub H H' → (∀ a, F' a ≠ none → F a ≠ none ∨ H a = none) → Q (.str z) H') →
    codeAny (model P w) A (.call (.ref f) args) (CR (L2N.CX P w) outer P w H s Q E) s
/-- except x as e: return the law's word, for an error k -/
structure LeF (X : Cx) (G : Glb) (x k : Nat) (d : D) : Prop where
  ex : ∃ (Cx Dc f : Addr) (z : Str) (fd : FuncData) (kk : Nat), d = .str z ∧ PyData.strOk z = true ∧ X.mg (G.nm x) = some (.ref Cx) ∧ X.mg (G.nm k) = some (.ref Dc) ∧ PySem.W.exmOne X.K (.ref Dc) (.ref Cx) = some true ∧ X.mg "_law_error" = some (.ref f) ∧ PySem.W.keepIn X.K (.ref f) = true ∧
    Binds X.K fd ["e"] [] ∧ Room kk X.A ∧ FnE X.prog X.w X.K X.mg X.base kk f fd Dc z
def bltNames : List Str := ["len", "abs", "min", "max", "sum", "all", "any", "int", "list", "tuple", "str", "bool", "range", "enumerate", "zip", "sorted", "set", "isinstance", "repr", "dict", "reversed", "divmod"]
/-- what a body's context must have -/
structure Ctx (X : Cx) (G : Glb) (io : List Nat) (P : List (Nat × V)) (W : WX) : Prop where
  nd : X.N.Nodup
  un : X.A.units + 200 < cLine
  takes : L2N.Takes X W
  blt : ∀ x ∈ bltNames, X.mg x = none
  cst : ∀ c d, G.cst c = some d → noPlc d = true ∧ ∃ v u, X.mg (G.nm c) = some u ∧ RelV v u ∧ ∀ F H, Rep X.K F H d v No
  sub : ∀ k x b, G.sub k x = some b → ∃ Ck Cx : Addr, X.mg (G.nm k) = some (.ref Ck) ∧ X.mg (G.nm x) = some (.ref Cx) ∧ PySem.W.exmOne X.K (.ref Ck) (.ref Cx) = some b
  pins : ∀ p ∈ P, p.1 ∈ io
  gd : X.A.guards = some []
/-- what the checker knows of a scope -/
structure CC where
  N : List Str
  sc : Scope
  fn : Str → Bool
  nm : Nat → Str
  df : Nat → Bool
  ex : Nat → Bool
  calm : Bool := true
  leOn : Bool := false
structure CCok (X : Cx) (G : Glb) (c : CC) : Prop where
  N : X.N = c.N
  sc : X.env.scope = c.sc
  fn : X.fn = c.fn
  nm : G.nm = c.nm
  fns : ∀ f, c.df f = true → ∃ g, G.fn f = some g ∧ FnX X G f g
  exs : ∀ x, c.ex x = true → ExX X G x
  calm : c.calm = true → X.calm = true
  hot : c.calm = false → L2H.HotC X
  les : c.leOn = true → ∀ x k d, G.le x k = some d → LeF X G x k d
def visB (sc : Scope) (x : Str) : Bool := match sc.names.lookup x with
  | some .local => true | some .cell => true | some .free => true | _ => false
def locB (sc : Scope) (x : Str) : Bool := match sc.names.lookup x with
  | some .local => true | some .cell => true | _ => false
def glB (sc : Scope) (x : Str) : Bool := match sc.names.lookup x with
  | some .globalImplicit => true | _ => false
def nameB (c : CC) (i : Nat) (x : Str) : Bool := decide (c.N[i]? = some x) && visB c.sc x && !(x == ("__debug__" : Str)) && !(x == ("__classdict__" : Str))
def storeB (c : CC) (i : Nat) (x : Str) : Bool := decide (c.N[i]? = some x) && locB c.sc x && (c.fn x || decide (c.sc.names.lookup x = some .local))
def gloB (c : CC) (x : Str) : Bool := glB c.sc x && !(x == ("__debug__" : Str)) && !(x == ("__name__" : Str))
theorem vis_of {sc : Scope} {x : Str} (h : visB sc x = true) : Vis sc x := by
  unfold visB at h
  split at h <;> first | exact .inl (by assumption) | exact .inr (.inl (by assumption)) | exact .inr (.inr (by assumption)) | cases h
theorem loc_of {sc : Scope} {x : Str} (h : locB sc x = true) : Loc sc x := by
  unfold locB at h
  split at h <;> first | exact .inl (by assumption) | exact .inr (by assumption) | cases h
theorem gl_of {sc : Scope} {x : Str} (h : glB sc x = true) : sc.names.lookup x = some .globalImplicit := by
  unfold glB at h
  split at h <;> first | assumption | cases h
section
variable {X : Cx} {G : Glb} {io : List Nat} {P : List (Nat × V)} {W : WX} {c : CC}
abbrev SE (X : Cx) (G : Glb) (io : List Nat) (P : List (Nat × V)) (W : WX) (e : Ex) (ast : Expr) : Prop := ∀ env, PE X ast (tE X G P W env (evE G io e))
abbrev ST (X : Cx) (G : Glb) (io : List Nat) (P : List (Nat × V)) (W : WX) (e : Ex) (ast : Expr) : Prop := ∀ env, PT X ast (tT X G P W env (evT G io e))
abbrev SL (X : Cx) (G : Glb) (io : List Nat) (P : List (Nat × V)) (W : WX) (es : Exs) (asts : List Expr) : Prop := ∀ env, PA X asts (tL X G P W env (evL G io es))
abbrev SA (X : Cx) (G : Glb) (io : List Nat) (P : List (Nat × V)) (W : WX) (es : Exs) (asts : List Expr) : Prop := ∀ env, PA X asts (tL X G P W env (evA G io es))
theorem pe_imp {e : Expr} {t t' : TE} (h : PE X e t) (q : ∀ σ H Q, t' σ H Q → t σ H Q) : PE X e t' := ⟨fun pins s σ H Q I w => h.run pins s σ H Q I (q σ H Q w)⟩
theorem pt_imp {e : Expr} {t t' : TT} (h : PT X e t) (q : ∀ σ H Q, t' σ H Q → t σ H Q) : PT X e t' := ⟨fun pins s σ H Q I w => h.run pins s σ H Q I (q σ H Q w)⟩
theorem pw_imp {e : Expr} {t t' : TT} (h : PW X e t) (q : ∀ σ H Q, t' σ H Q → t σ H Q) : PW X e t' := ⟨fun wh pins s σ H Q I w => h.run wh pins s σ H Q I (q σ H Q w)⟩
theorem pa_imp {e : List Expr} {t t' : TA} (h : PA X e t) (q : ∀ σ H Q, t' σ H Q → t σ H Q) : PA X e t' := ⟨fun pos pins s σ H Q I w => h.run pos pins s σ H Q I (q σ H Q w)⟩
theorem ps_imp {st : Stmt} {t t' : TS} (h : PS X st t) (q : ∀ D σ H, t' D σ H → t D σ H) : PS X st t' := ⟨fun pins s σ H D I w => h.run pins s σ H D I (q D σ H w)⟩
theorem pss_imp {st : List Stmt} {t t' : TS} (h : PSs X st t) (q : ∀ D σ H, t' D σ H → t D σ H) : PSs X st t' := ⟨fun pins s σ H D I w => h.run pins s σ H D I (q D σ H w)⟩
theorem pe_never {e : Expr} : PE X e fun _ _ _ => False := ⟨fun _ _ _ _ _ _ h => h.elim⟩
theorem pt_never {e : Expr} : PT X e fun _ _ _ => False := ⟨fun _ _ _ _ _ _ h => h.elim⟩

/-! ### names, constants -/
theorem name_pe (k : CCok X G c) {i : Nat} {x : Str} {pos : Pos} (h : nameB c i x = true) : PE X (.Name x pos) (tVar i) := by
  simp only [nameB, Bool.and_eq_true, decide_eq_true_eq, Bool.not_eq_true'] at h
  exact pe_var (by rw [k.N]; exact h.1.1.1) (by rw [k.sc]; exact vis_of h.1.1.2) h.1.2 h.2
theorem s_var (k : CCok X G c) {i : Nat} {x : Str} {pos : Pos} (h : nameB c i x = true) : SE X G io P W (.var i) (.Name x pos) := fun env => pe_imp (name_pe k h) fun σ H Q ⟨F, S, ok, er, q⟩ => by
  simp only [evE, evT, ev, Ev.of, get1] at q
  cases e : get env i with
  | none => rw [e] at q; exact q.elim
  | some d =>
    rw [e] at q
    obtain ⟨v, F', S', e1, ok', st, er', r⟩ := er.fz ok e
    refine ⟨v, e1, q v F' H S' No (ok'.mono fun a z => z.elim id False.elim) (fun _ _ z => z) (st.weak fun a z => z.elim id False.elim) er' (RV.to r)⟩
theorem s_mv (k : CCok X G c) {i : Nat} {x : Str} {pos : Pos} (h : nameB c i x = true) : SE X G io P W (.mv i) (.Name x pos) := fun env => pe_imp (name_pe k h) fun σ H Q ⟨F, S, ok, er, q⟩ => by
  simp only [evE, evT, ev, Ev.of, get1] at q
  cases e : get env i with
  | none => rw [e] at q; exact q.elim
  | some d =>
    rw [e] at q
    obtain ⟨v, S', T, e1, m1, m2, dj, er', r⟩ := er.take e
    exact ⟨v, e1, q v F H S' T (ok.mono fun a z => z.elim (m1 a) (m2 a)) dj (Step.refl.weak fun a z => z.elim (m1 a) (m2 a)) er' (RV.to r)⟩
theorem s_plc (k : CCok X G c) {i : Nat} {x : Str} {pos : Pos} (h : nameB c i x = true) : SE X G io P W (.plc i) (.Name x pos) := fun env => pe_imp (name_pe k h) fun σ H Q ⟨F, S, ok, er, q⟩ => by
  simp only [evE, evT, ev, Ev.of, get1] at q
  cases e : get env i with
  | none => rw [e] at q; exact q.elim
  | some d =>
    rw [e] at q
    obtain ⟨v, e1, r⟩ := er.at e
    exact ⟨v, e1, q v F H S No (ok.mono fun a z => z.elim id False.elim) (fun _ _ z => z) (Step.refl.weak fun a z => z.elim id False.elim) er e1⟩
/-- what makes a frozen thing and changes nothing -/
theorem give_fz {env : Env} {σ : L2.St} {F H : Hp} {S : AS} {Q : VK} {d : D} {v : V} (ok : Ok F H S) (er : EnvR X.K F H P env σ S) (q : PostE X G P W σ F H S (.ok d env) Q) (r : Rep X.K F H d v No) : Q v H :=
  q v F H S No (ok.mono fun a z => z.elim id False.elim) (fun _ _ z => z) (Step.refl.weak fun a z => z.elim id False.elim) er (RV.to r)
def cstB (d : D) (k : Const) : Bool := match d, k with
  | .non, .none => true
  | .bl b, .bool b' => b == b'
  | .int i, .int j => i == j
  | .str s, .str z => s == z && PyData.strOk s
  | _, _ => false
theorem s_cst {d : D} {k : Const} {j : Nat} {pos : Pos} (h : cstB d k = true) : SE X G io P W (.cst d) (.Constant k j pos) := fun env => by
  unfold cstB at h
  split at h
  · exact pe_imp pe_non fun σ H Q ⟨F, S, ok, er, q⟩ => (by simp only [evE, evT, ev, Ev.of] at q; exact give_fz ok er q rfl)
  · rw [beq_iff_eq] at h; subst h
    exact pe_imp pe_bl fun σ H Q ⟨F, S, ok, er, q⟩ => (by simp only [evE, evT, ev, Ev.of] at q; exact give_fz ok er q rfl)
  · rw [beq_iff_eq] at h; subst h
    exact pe_imp pe_int fun σ H Q ⟨F, S, ok, er, q⟩ => (by simp only [evE, evT, ev, Ev.of] at q; exact give_fz ok er q rfl)
  · rw [Bool.and_eq_true, beq_iff_eq] at h
    obtain ⟨rfl, ho⟩ := h
    exact pe_imp pe_str fun σ H Q ⟨F, S, ok, er, q⟩ => (by simp only [evE, evT, ev, Ev.of] at q; exact give_fz ok er q ⟨rfl, ho⟩)
  · cases h
theorem glo_of (k : CCok X G c) {x : Str} (h : gloB c x = true) : L2.Gl X x ∧ (x == ("__debug__" : Str)) = false ∧ x ≠ "__name__" := by
  simp only [gloB, Bool.and_eq_true, Bool.not_eq_true'] at h
  refine ⟨?_, h.1.2, fun e => ?_⟩
  · unfold L2.Gl Env.kindOf
    rw [k.sc]; exact gl_of h.1.1
  · have h' := h.2
    rw [e] at h'
    simp at h'
theorem s_glo (C : Ctx X G io P W) (k : CCok X G c) {g : Nat} {x : Str} {pos : Pos} (hx : c.nm g = x) (h : gloB c x = true) : SE X G io P W (.glo g) (.Name x pos) := fun env => by
  obtain ⟨h1, h2, h3⟩ := glo_of k h
  cases e : G.cst g with
  | none => exact pe_imp pe_never fun σ H Q ⟨F, S, ok, er, q⟩ => by simp only [evE, evT, ev, Ev.of, get1, liftO, e] at q; exact q
  | some d =>
    obtain ⟨np, v, u, hm, r, hr⟩ := C.cst g d e
    rw [k.nm, hx] at hm
    exact pe_imp (pe_glob h1 hm r h2) fun σ H Q ⟨F, S, ok, er, q⟩ => by
      simp only [evE, evT, ev, Ev.of, get1, liftO, e] at q
      exact give_fz ok er q (hr F H)

/-! ### operators, comparisons -/
theorem env_ok {α : Type} {a : α} {e e' : Env} : R.env (.ok a e) e' = e := rfl
theorem mono_eq {σ : L2.St} {env1 : Env} {m m1 : Env → R D} {H : Hp} {Q Q' : VK} {d : D} {env0 : Env} (e : m env0 = .ok d env1) (h : tE X G P W env1 m1 σ H Q) (q : ∀ v H', Q v H' → Q' v H') : tE X G P W (R.env (m env0) env0) m1 σ H Q' := by
  rw [e]; exact tE_mono h q
theorem resL2 {env : Env} {x y x' y' : D} (hx : res env x = some x') (hy : res env y = some y') : resL env [y, x] = some [y', x'] := by
  simp only [resL, hx, hy]
theorem resL1 {env : Env} {x x' : D} (hx : res env x = some x') : resL env [x] = some [x'] := by
  simp only [resL, hx]
theorem bop_np {o : Bo} {a b d : D} (h : bop o a b = some d) : noPlc d = true := by
  unfold bop at h
  split at h <;> first | (cases h; rfl) | (split at h <;> first | (cases h; rfl) | cases h) | cases h
theorem Mid.no {env : Env} {ds : List D} {vs : List V} {σ : L2.St} {H : Hp} {p : Hp → Hp → AS → Prop} (h : Mid X P σ env ds vs H p) (q : ∀ F H S, p F H S → False) : False := by
  obtain ⟨F0, H0, S0, F, S, T, hp, _⟩ := h
  exact q _ _ _ hp
/-- what comes behind operands that are read -/
abbrev Fin1 (X : Cx) (P : List (Nat × V)) (σ : L2.St) (p : Hp → Hp → AS → Prop) (env : Env) (H : Hp) (q : Hp → Prop) : Prop :=
  ∃ F0 H0 S0 F S, p F0 H0 S0 ∧ Step F0 H0 S0 F H S ∧ Ok F H S ∧ EnvR X.K F H P env σ S ∧ q F
theorem Fin1.e {σ : L2.St} {env : Env} {H : Hp} {q : Hp → Prop} {d : D} {Q : VK} (h : Fin1 X P σ (fun F0 H0 S0 => PostE X G P W σ F0 H0 S0 (.ok d env) Q) env H q) : ∃ F, Sub F H ∧ OP X.K F H d Q ∧ q F := by
  obtain ⟨F0, H0, S0, F, S, a, b, c, d', e'⟩ := h
  exact ⟨F, c.sub, op_of a b c d', e'⟩
theorem Fin1.t {σ : L2.St} {env : Env} {H : Hp} {q : Hp → Prop} {b : Bool} {Q : Bool → Hp → Prop} (h : Fin1 X P σ (fun F0 H0 S0 => PostT X G P W σ F0 H0 S0 (.ok b env) Q) env H q) : Q b H := by
  obtain ⟨F0, H0, S0, F, S, a, b, c, d', e'⟩ := h
  exact a F H S c b d'
theorem two_gen {β : Type} {ma mb : Env → R D} {k : D → D → Env → R β} {σ : L2.St} {H : Hp} {env : Env} {post : Hp → Hp → AS → R β → Prop} (hp : Pst X G P W σ post) {R0 : V → V → Hp → Prop}
    (h : Mid X P σ env [] [] H fun F0 H0 S0 => post F0 H0 S0 (two ma mb k env))
    (hR : ∀ x y env2 v w H2, Fin1 X P σ (fun F0 H0 S0 => post F0 H0 S0 (k x y env2)) env2 H2 (fun F => RC X.K F H2 x v ∧ RC X.K F H2 y w) → R0 v w H2) :
    tE X G P W env ma σ H fun v H1 => tE X G P W (R.env (ma env) env) mb σ H1 fun w H2 => R0 v w H2 := by
  refine tE_mono (Mid.next hp h) fun v H1 ⟨x, env1, e1, M1⟩ => ?_
  refine mono_eq e1 (Mid.next hp M1) fun w H2 ⟨y, env2, e2, M2⟩ => ?_
  cases q1 : res env2 x with
  | none => simp only [q1] at M2; exact (M2.no fun F H S z => hp.bad _ _ _ z).elim
  | some x' =>
    cases q2 : res env2 y with
    | none => simp only [q1, q2] at M2; exact (M2.no fun F H S z => hp.bad _ _ _ z).elim
    | some y' =>
      simp only [q1, q2] at M2
      obtain ⟨F0, H0, S0, F, S, a, b, c, d, rc⟩ := M2.res (resL2 q1 q2)
      obtain ⟨w', v', e, r1, r2⟩ := rcl2 rc
      cases e
      exact hR x' y' env2 v w H2 ⟨F0, H0, S0, F, S, a, b, c, d, r2, r1⟩
theorem fin_no {β : Type} {σ : L2.St} {env : Env} {H : Hp} {q : Hp → Prop} {post : Hp → Hp → AS → R β → Prop} (hp : Pst X G P W σ post) (h : Fin1 X P σ (fun F0 H0 S0 => post F0 H0 S0 .bad) env H q) : False := by
  obtain ⟨F0, H0, S0, F, S, a, _⟩ := h
  exact hp.bad _ _ _ a
theorem two_ops {ma mb : Env → R D} {k : D → D → Option D} {σ : L2.St} {H : Hp} {Q : VK} {env : Env}
    (h : Mid X P σ env [] [] H fun F0 H0 S0 => PostE X G P W σ F0 H0 S0 (two ma mb (fun x y env => liftO (k x y) env) env) Q) :
    tE X G P W env ma σ H fun v H1 => tE X G P W (R.env (ma env) env) mb σ H1 fun w H2 => rD X k v w H2 Q :=
  two_gen pstE h fun x y env2 v w H2 h => by
    cases q3 : k x y with
    | none => simp only [liftO, q3] at h; exact (fin_no pstE h).elim
    | some d =>
      simp only [liftO, q3] at h
      obtain ⟨F, sb, op, r⟩ := Fin1.e h
      exact ⟨F, x, y, d, sb, r.1, r.2, q3, op⟩
theorem s_bin {o : Bo} {a b : Ex} {ea eb : Expr} {pos : Pos} (ha : SE X G io P W a ea) (hb : SE X G io P W b eb) : SE X G io P W (.bin o a b) (.BinOp ea (boOp o) eb pos) := fun env =>
  pe_imp (pe_op (bop_ok o) (ha env) (hb (R.env (evE G io a env) env))) fun σ H Q h => two_ops (k := bop o) (Mid.ofE h)
theorem s_cmp (C : Ctx X G io P W) {o : Cm} {a b : Ex} {ea eb : Expr} {pos : Pos} (ha : SE X G io P W a ea) (hb : SE X G io P W b eb) (hm : behindInMarks (cmOp o) eb = false) : SE X G io P W (.cmp o a b) (.Compare ea [cmOp o] [eb] pos) := fun env =>
  pe_imp (pe_cmpR (cop_ok (by have := C.un; omega) o) (ha env) (hb (R.env (evE G io a env) env)) hm) fun σ H Q h => by
    refine two_gen (k := fun x y env => liftO ((cop o x y).map D.bl) env) (post := fun F0 H0 S0 r => PostE X G P W σ F0 H0 S0 r Q) pstE (Mid.ofE h) fun x y env2 v w H2 h => ?_
    cases q3 : cop o x y with
    | none => simp only [q3] at h; exact (fin_no pstE h).elim
    | some d =>
      simp only [q3] at h
      obtain ⟨F, sb, op, r⟩ := Fin1.e h
      exact ⟨F, x, y, d, sb, r.1, r.2, q3, op.scalar sb rfl⟩
theorem s_cmpT (C : Ctx X G io P W) {o : Cm} {a b : Ex} {ea eb : Expr} {pos : Pos} (ha : SE X G io P W a ea) (hb : SE X G io P W b eb) (hm : behindInMarks (cmOp o) eb = false) : ST X G io P W (.cmp o a b) (.Compare ea [cmOp o] [eb] pos) := fun env =>
  pt_imp (pt_cmpR (cop_ok (by have := C.un; omega) o) (ha env) (hb (R.env (evE G io a env) env)) hm) fun σ H Q h => by
    refine two_gen (k := fun x y env => liftO (cop o x y) env) pstT (Mid.ofT h) fun x y env2 v w H2 h => ?_
    cases q3 : cop o x y with
    | none => simp only [q3] at h; exact (fin_no pstT h).elim
    | some d =>
      simp only [q3] at h
      obtain ⟨F0, H0, S0, F, S, a', b', c', d', r⟩ := id h
      exact ⟨F, x, y, d, c'.sub, r.1, r.2, q3, d, rfl, Fin1.t h⟩
theorem s_neg {a : Ex} {ea : Expr} {pos : Pos} (ha : SE X G io P W a ea) : SE X G io P W (.neg a) (.UnaryOp .USub ea pos) := fun env =>
  pe_imp (pe_un un_neg (ha env)) fun σ H Q h => by
    refine tE_mono (Mid.next (m := evE G io a) pstE (Mid.ofE h)) fun v H1 ⟨x, env1, e1, M1⟩ => ?_
    cases q1 : res env1 x with
    | none => simp only [q1] at M1; exact (M1.no fun F H S z => z).elim
    | some x' =>
      simp only [q1] at M1
      cases x' <;> first | exact (M1.no fun F H S z => z).elim | skip
      obtain ⟨F, sb, rc, op⟩ := M1.op (resL1 q1)
      obtain ⟨v', e, r⟩ := rcl1 rc
      cases e
      exact ⟨_, rc_int r, op.scalar sb rfl⟩
/-- what is frozen at once -/
theorem s_fz {a : Ex} {ea : Expr} (ha : SE X G io P W a ea) : SE X G io P W (.fz a) ea := fun env =>
  pe_imp (ha env) fun σ H Q h => by
    refine tE_mono (Mid.next (m := evE G io a) (post := fun F0 H0 S0 r => PostE X G P W σ F0 H0 S0 r Q) pstE (Mid.ofE h)) fun v H1 ⟨d, env1, e1, M1⟩ => ?_
    cases np : noPlc d with
    | false => simp only [np] at M1; exact (M1.no fun F H S z => z).elim
    | true =>
      simp only [np, if_true] at M1
      have e : res env1 d = some d.fz := by cases d <;> first | rfl | simp [noPlc] at np
      obtain ⟨F0, H0, S0, F, S, a0, st, ok, er, rc⟩ := M1.res (resL1 e)
      obtain ⟨v', e', r⟩ := rcl1 rc
      cases e'
      have r' : Rep X.K F H1 d.fz v No := Rep.fzd _ (fz_isFz d) r.2.choose_spec
      exact a0 v F H1 S No (ok.mono fun a z => z.elim id False.elim) (fun _ _ z => z) (st.weak fun a z => z.elim id False.elim) er (RV.to r')
theorem s_not {a : Ex} {ea : Expr} {pos : Pos} (ha : ST X G io P W a ea) : ST X G io P W (.not a) (.UnaryOp .Not ea pos) := fun env =>
  pt_imp (pt_not (ha env)) fun σ H Q h => by
    refine tT_mono (Mid.nextT (m := evT G io a) pstT (Mid.ofT h)) fun b H1 ⟨env1, e1, M1⟩ => ?_
    exact Fin1.t (by
      obtain ⟨F0, H0, S0, F, S, a, b, c, d, rc⟩ := M1.res (ds' := []) rfl
      exact ⟨F0, H0, S0, F, S, a, b, c, d, trivial⟩ : Fin1 X P σ _ env1 H1 fun _ => True)

/-- an operand's truth, the operand still held -/
theorem Mid.truth {env : Env} {d x : D} {v : V} {σ : L2.St} {H : Hp} {p : Hp → Hp → AS → Prop} {b : Bool} (h : Mid X P σ env [d] [v] H p) (e : DD.res env d = some x) (t : DD.truth x = some b) : TruV X.K v H b := by
  obtain ⟨F0, H0, S0, F, S, _, _, ok, _, rc⟩ := h.res (resL1 e)
  obtain ⟨v', e', r⟩ := rcl1 rc
  cases e'
  exact truth_rd ok.sub r t
theorem Mid.drop {env : Env} {ds : List D} {vs : List V} {σ : L2.St} {H : Hp} {p : Hp → Hp → AS → Prop} (h : Mid X P σ env ds vs H p) : Mid X P σ env [] [] H p := by
  obtain ⟨F0, H0, S0, F, S, T, a, b, c, d, e, f⟩ := h
  exact ⟨F0, H0, S0, F, S, No, a, b.weak fun a z => z.imp id False.elim, c.mono fun a z => z.imp id False.elim, fun _ _ z => z, e, rfl⟩
theorem Mid.toE {env : Env} {σ : L2.St} {H : Hp} {m : Env → R D} {Q : VK} (h : Mid X P σ env [] [] H fun F0 H0 S0 => PostE X G P W σ F0 H0 S0 (m env) Q) : tE X G P W env m σ H Q := by
  have h' : Mid X P σ env [] [] H fun F0 H0 S0 => PostE X G P W σ F0 H0 S0 ((m env).bind fun d env => .ok d env) Q := h.imp fun F H S z => by
    cases e : m env with
    | ok d e2 => rw [e] at z; exact z
    | exc x e2 => rw [e] at z; exact z
    | bad => rw [e] at z; exact z
  exact tE_mono (Mid.next pstE h') fun v H1 ⟨d, env2, e, M⟩ => M.give
theorem Mid.toT {env : Env} {σ : L2.St} {H : Hp} {m : Env → R Bool} {Q : Bool → Hp → Prop} (h : Mid X P σ env [] [] H fun F0 H0 S0 => PostT X G P W σ F0 H0 S0 (m env) Q) : tT X G P W env m σ H Q := by
  have h' : Mid X P σ env [] [] H fun F0 H0 S0 => PostT X G P W σ F0 H0 S0 ((m env).bind fun d env => .ok d env) Q := h.imp fun F H S z => by
    cases e : m env with
    | ok d e2 => rw [e] at z; exact z
    | exc x e2 => rw [e] at z; exact z
    | bad => rw [e] at z; exact z
  refine tT_mono (Mid.nextT pstT h') fun b H1 ⟨env2, e, M⟩ => ?_
  obtain ⟨F0, H0, S0, F, S, T, a, b, c, d, er, f⟩ := M
  exact a F H1 S c.left (b.weak fun a z => .inl z) er
/-- a part's truth, the part still held -/
theorem Mid.truthNext {β : Type} {m : Env → R D} {k : D → Bool → Env → R β} {σ : L2.St} {H : Hp} {env : Env} {post : Hp → Hp → AS → R β → Prop} (hp : Pst X G P W σ post)
    (h : Mid X P σ env [] [] H fun F0 H0 S0 => post F0 H0 S0 (thT m k env)) :
    tE X G P W env m σ H fun v H1 => ∃ d x b env1, m env = .ok d env1 ∧ DD.res env1 d = some x ∧ TruV X.K v H1 b ∧ Mid X P σ env1 [d] [v] H1 fun F0 H0 S0 => post F0 H0 S0 (k d b env1) := by
  refine tE_mono (Mid.next hp h) fun v H1 ⟨x, env1, e1, M1⟩ => ?_
  cases q1 : DD.res env1 x with
  | none => simp only [q1] at M1; exact (M1.no fun F H S z => hp.bad _ _ _ z).elim
  | some x' =>
    cases q2 : DD.truth x' with
    | none => simp only [q1, q2] at M1; exact (M1.no fun F H S z => hp.bad _ _ _ z).elim
    | some b =>
      simp only [q1, q2] at M1
      exact ⟨x, x', b, env1, e1, q1, M1.truth q1 q2, M1⟩
theorem s_notV {a : Ex} {ea : Expr} {pos : Pos} (ha : SE X G io P W a ea) : SE X G io P W (.not a) (.UnaryOp .Not ea pos) := fun env =>
  pe_imp (pe_notT (ha env)) fun σ H Q h => by
    refine tE_mono (Mid.truthNext (m := evE G io a) (k := fun _ b env => R.ok (D.bl (!b)) env) (post := fun F0 H0 S0 r => PostE X G P W σ F0 H0 S0 r Q) pstE (Mid.ofE h)) fun v H1 ⟨d, x, b, env1, e1, q1, tv, M1⟩ => ?_
    refine ⟨b, tv, ?_⟩
    obtain ⟨F, sb, rc, op⟩ := M1.op (resL1 q1)
    exact op.scalar sb rfl
abbrev SBA (X : Cx) (G : Glb) (io : List Nat) (P : List (Nat × V)) (W : WX) (es : Exs) (vs : List Expr) (pos : Pos) : Prop := ∀ env, PE X (.BoolOp .And vs pos) (tE X G P W env (evAnd G io es))
abbrev SBO (X : Cx) (G : Glb) (io : List Nat) (P : List (Nat × V)) (W : WX) (es : Exs) (vs : List Expr) (pos : Pos) : Prop := ∀ env, PE X (.BoolOp .Or vs pos) (tE X G P W env (evOr G io es))
theorem s_and1 {a : Ex} {ea : Expr} {pos : Pos} (ha : SE X G io P W a ea) : SBA X G io P W (.cons a .nil) [ea] pos := fun env => pe_one (ha env)
theorem s_or1 {a : Ex} {ea : Expr} {pos : Pos} (ha : SE X G io P W a ea) : SBO X G io P W (.cons a .nil) [ea] pos := fun env => pe_one (ha env)
theorem s_andC {a b : Ex} {r : Exs} {ea eb : Expr} {er : List Expr} {pos : Pos} (ha : SE X G io P W a ea) (hr : SBA X G io P W (.cons b r) (eb :: er) pos) : SBA X G io P W (.cons a (.cons b r)) (ea :: eb :: er) pos := fun env =>
  pe_imp (pe_andT (ha env) (hr (R.env (evE G io a env) env))) fun σ H Q h => by
    refine tE_mono (Mid.truthNext (m := evE G io a) (k := fun d b0 env => if b0 then evAnd G io (.cons b r) env else .ok d env) (post := fun F0 H0 S0 r => PostE X G P W σ F0 H0 S0 r Q) pstE (Mid.ofE h)) fun v H1 ⟨d, x, b0, env1, e1, q1, tv, M1⟩ => ?_
    refine ⟨b0, tv, ?_⟩
    cases b0 with
    | true => rw [if_pos rfl, e1]; exact Mid.toE M1.drop
    | false => rw [if_neg Bool.false_ne_true]; exact M1.give
theorem s_orC {a b : Ex} {r : Exs} {ea eb : Expr} {er : List Expr} {pos : Pos} (ha : SE X G io P W a ea) (hr : SBO X G io P W (.cons b r) (eb :: er) pos) : SBO X G io P W (.cons a (.cons b r)) (ea :: eb :: er) pos := fun env =>
  pe_imp (pe_orT (ha env) (hr (R.env (evE G io a env) env))) fun σ H Q h => by
    refine tE_mono (Mid.truthNext (m := evE G io a) (k := fun d b0 env => if b0 then .ok d env else evOr G io (.cons b r) env) (post := fun F0 H0 S0 r => PostE X G P W σ F0 H0 S0 r Q) pstE (Mid.ofE h)) fun v H1 ⟨d, x, b0, env1, e1, q1, tv, M1⟩ => ?_
    refine ⟨b0, tv, ?_⟩
    cases b0 with
    | true => rw [if_pos rfl]; exact M1.give
    | false => rw [if_neg Bool.false_ne_true, e1]; exact Mid.toE M1.drop
abbrev SBAT (X : Cx) (G : Glb) (io : List Nat) (P : List (Nat × V)) (W : WX) (es : Exs) (vs : List Expr) (pos : Pos) : Prop := ∀ env, PW X (.BoolOp .And vs pos) (tT X G P W env (evAndT G io es))
abbrev SBOT (X : Cx) (G : Glb) (io : List Nat) (P : List (Nat × V)) (W : WX) (es : Exs) (vs : List Expr) (pos : Pos) : Prop := ∀ env, PW X (.BoolOp .Or vs pos) (tT X G P W env (evOrT G io es))
theorem s_andT1 {a : Ex} {ea : Expr} {pos : Pos} (ha : ST X G io P W a ea) : SBAT X G io P W (.cons a .nil) [ea] pos := fun env => pw_and1 (ha env)
theorem s_orT1 {a : Ex} {ea : Expr} {pos : Pos} (ha : ST X G io P W a ea) : SBOT X G io P W (.cons a .nil) [ea] pos := fun env => pw_or1 (ha env)
theorem Mid.bl {σ : L2.St} {env : Env} {H : Hp} {ds : List D} {vs : List V} {b : Bool} {Q : Bool → Hp → Prop} (h : Mid X P σ env ds vs H fun F0 H0 S0 => PostT X G P W σ F0 H0 S0 (.ok b env) Q) : Q b H := by
  obtain ⟨F0, H0, S0, F, S, T, a, b, c, d, er, f⟩ := h
  exact a F H S c.left (b.weak fun a z => .inl z) er
theorem s_andTC {a b : Ex} {r : Exs} {ea eb : Expr} {er : List Expr} {pos : Pos} (ha : ST X G io P W a ea) (hr : SBAT X G io P W (.cons b r) (eb :: er) pos) : SBAT X G io P W (.cons a (.cons b r)) (ea :: eb :: er) pos := fun env =>
  pw_imp (pw_and (ha env) (hr (R.env (evT G io a env) env))) fun σ H Q h => by
    refine tT_mono (Mid.nextT (m := evT G io a) (k := fun b0 env => if b0 then evAndT G io (.cons b r) env else .ok false env) pstT (Mid.ofT h)) fun b H1 ⟨env1, e1, M1⟩ => ?_
    cases b with
    | true => rw [if_pos rfl, e1]; exact Mid.toT M1
    | false => rw [if_neg Bool.false_ne_true]; exact M1.bl
theorem s_orTC {a b : Ex} {r : Exs} {ea eb : Expr} {er : List Expr} {pos : Pos} (ha : ST X G io P W a ea) (hr : SBOT X G io P W (.cons b r) (eb :: er) pos) : SBOT X G io P W (.cons a (.cons b r)) (ea :: eb :: er) pos := fun env =>
  pw_imp (pw_or (ha env) (hr (R.env (evT G io a env) env))) fun σ H Q h => by
    refine tT_mono (Mid.nextT (m := evT G io a) (k := fun b0 env => if b0 then .ok true env else evOrT G io (.cons b r) env) pstT (Mid.ofT h)) fun b H1 ⟨env1, e1, M1⟩ => ?_
    cases b with
    | false => rw [if_neg Bool.false_ne_true, e1]; exact Mid.toT M1
    | true => rw [if_pos rfl]; exact M1.bl
theorem s_ife {t a b : Ex} {et ea eb : Expr} {pos : Pos} (ht : ST X G io P W t et) (ha : SE X G io P W a ea) (hb : SE X G io P W b eb) : SE X G io P W (.ife t a b) (.IfExp et ea eb pos) := fun env =>
  pe_imp (pe_ifExp (ht env) (ha (R.env (evT G io t env) env)) (hb (R.env (evT G io t env) env))) fun σ H Q h => by
    refine tT_mono (Mid.nextT (m := evT G io t) (k := fun k env => if k then evE G io a env else evE G io b env) pstE (Mid.ofE h)) fun b H1 ⟨env1, e1, M1⟩ => ?_
    cases b with
    | true => rw [if_pos rfl, e1]; exact Mid.toE M1
    | false => rw [if_neg Bool.false_ne_true, e1]; exact Mid.toE M1
/-- any expression as a test -/
theorem s_truth {a : Ex} {ea : Expr} (ha : SE X G io P W a ea) (he : ∀ whole, isTrue ea X.env whole = (do let v ← whole; standAt ea.pos; holding [v] (truthy v)))
    (hv : evT G io a = truthOf (evE G io a)) : ST X G io P W a ea := fun env =>
  pt_imp (pt_truth (ha env) he) fun σ H Q h => by
    have M := Mid.ofT h
    rw [hv] at M
    refine tE_mono (Mid.truthNext (k := fun d b env => .ok b env) pstT M) fun v H1 ⟨d, x, b, env1, e1, q1, tv, M1⟩ => ?_
    exact ⟨b, tv, M1.bl⟩
end
end DD

set_option Elab.async false
set_option linter.all false
set_option maxRecDepth 100000
set_option maxHeartbeats 1000000
namespace DD
open PySem PySem.Spec PyProof.Rows L2
section
variable {X : Cx} {G : Glb} {io : List Nat} {P : List (Nat × V)} {W : WX} {c : CC}
theorem Mid.forget {env : Env} {d d' : D} {v v' : V} {ds : List D} {vs : List V} {σ : L2.St} {H : Hp} {p : Hp → Hp → AS → Prop} (h : Mid X P σ env (d :: d' :: ds) (v :: v' :: vs) H p) : Mid X P σ env [d] [v] H p := by
  obtain ⟨F0, H0, S0, F, S, T, a, b, c, e, f, w, r, T1, T2, ev, m1, m2, dj, h1, h2⟩ := h
  cases ev
  exact ⟨F0, H0, S0, F, S, T1, a, b.weak fun a z => z.imp id (m1 a), c.mono fun a z => z.imp id (m1 a), fun a x y => e a x (m1 a y), f, _, [], T1, No, rfl, fun _ z => z, fun _ z => z.elim, fun _ _ z => z, h1, rfl⟩
theorem s_chn (C : Ctx X G io P W) {o o' : Cm} {a b d : Ex} {ea eb ed : Expr} {pos : Pos} (ha : SE X G io P W a ea) (hb : SE X G io P W b eb) (hd : SE X G io P W d ed) (hm : lastMarks [cmOp o, cmOp o'] [eb, ed] = false) :
    SE X G io P W (.chn o o' a b d) (.Compare ea [cmOp o, cmOp o'] [eb, ed] pos) := fun env =>
  pe_imp (pe_chain (cop_ok (by have := C.un; omega) o) (cop_ok (by have := C.un; omega) o') (ha env) (hb (R.env (evE G io a env) env)) (hd (R.env (evE G io b (R.env (evE G io a env) env)) env)) hm) fun σ H Q h => by
    refine tE_mono (Mid.next (m := evE G io a) (post := fun F0 H0 S0 r => PostE X G P W σ F0 H0 S0 r Q) pstE (Mid.ofE h)) fun v H1 ⟨x, env1, e1, M1⟩ => ?_
    simp only [show evE G io a env = _ from e1, env_ok]
    refine tE_mono (Mid.next (m := evE G io b) pstE M1) fun w H2 ⟨y, env2, e2, M2⟩ => ?_
    cases q1 : res env2 x with
    | none => simp only [q1] at M2; exact (M2.no fun F H S z => z).elim
    | some x' =>
      cases q2 : res env2 y with
      | none => simp only [q1, q2] at M2; exact (M2.no fun F H S z => z).elim
      | some y' =>
        cases q3 : cop o x' y' with
        | none => simp only [q1, q2, q3] at M2; exact (M2.no fun F H S z => z).elim
        | some k =>
          simp only [q1, q2, q3] at M2
          obtain ⟨F0, H0, S0, F, S, _, _, ok, _, rc⟩ := M2.res (resL2 q1 q2)
          obtain ⟨w', v', e, r1, r2⟩ := rcl2 rc
          cases e
          refine ⟨F, x', y', k, ok.sub, r2, r1, q3, k, rfl, ?_⟩
          cases k with
          | false =>
            rw [if_neg Bool.false_ne_true]
            obtain ⟨F, sb, rc, op⟩ := M2.op (resL2 q1 q2)
            exact op.scalar sb rfl
          | true =>
            rw [if_pos rfl]
            simp only [show evE G io b env1 = _ from e2, env_ok]
            refine tE_mono (Mid.next (m := evE G io d) pstE M2.forget) fun u H3 ⟨z, env3, e3, M3⟩ => ?_
            cases p1 : res env3 y with
            | none => simp only [p1] at M3; exact (M3.no fun F H S z => z).elim
            | some y2 =>
              cases p2 : res env3 z with
              | none => simp only [p1, p2] at M3; exact (M3.no fun F H S z => z).elim
              | some z2 =>
                cases p3 : cop o' y2 z2 with
                | none => simp only [p1, p2, p3] at M3; exact (M3.no fun F H S z => z).elim
                | some k2 =>
                  simp only [p1, p2, p3] at M3
                  obtain ⟨F, sb, rc, op⟩ := M3.op (resL2 p1 p2)
                  obtain ⟨w', v', e, r1, r2⟩ := rcl2 rc
                  cases e
                  exact ⟨F, y2, z2, k2, sb, r2, r1, p3, op.scalar sb rfl⟩
theorem s_chnT (C : Ctx X G io P W) {o o' : Cm} {a b d : Ex} {ea eb ed : Expr} {pos : Pos} (ha : SE X G io P W a ea) (hb : SE X G io P W b eb) (hd : SE X G io P W d ed) (hm : lastMarks [cmOp o, cmOp o'] [eb, ed] = false) :
    ST X G io P W (.chn o o' a b d) (.Compare ea [cmOp o, cmOp o'] [eb, ed] pos) := fun env =>
  pt_imp (pt_chain (cop_ok (by have := C.un; omega) o) (cop_ok (by have := C.un; omega) o') (ha env) (hb (R.env (evE G io a env) env)) (hd (R.env (evE G io b (R.env (evE G io a env) env)) env)) hm) fun σ H Q h => by
    refine tE_mono (Mid.next (m := evE G io a) (post := fun F0 H0 S0 r => PostT X G P W σ F0 H0 S0 r Q) pstT (Mid.ofT h)) fun v H1 ⟨x, env1, e1, M1⟩ => ?_
    simp only [show evE G io a env = _ from e1, env_ok]
    refine tE_mono (Mid.next (m := evE G io b) pstT M1) fun w H2 ⟨y, env2, e2, M2⟩ => ?_
    cases q1 : res env2 x with
    | none => simp only [q1] at M2; exact (M2.no fun F H S z => z).elim
    | some x' =>
      cases q2 : res env2 y with
      | none => simp only [q1, q2] at M2; exact (M2.no fun F H S z => z).elim
      | some y' =>
        cases q3 : cop o x' y' with
        | none => simp only [q1, q2, q3] at M2; exact (M2.no fun F H S z => z).elim
        | some k =>
          simp only [q1, q2, q3] at M2
          obtain ⟨F0, H0, S0, F, S, p0, st0, ok, er0, rc⟩ := M2.res (resL2 q1 q2)
          obtain ⟨w', v', e, r1, r2⟩ := rcl2 rc
          cases e
          refine ⟨F, x', y', k, ok.sub, r2, r1, q3, k, rfl, ?_⟩
          cases k with
          | false =>
            rw [if_neg Bool.false_ne_true]
            exact ⟨false, rfl, p0 F H2 S ok st0 er0⟩
          | true =>
            rw [if_pos rfl]
            simp only [show evE G io b env1 = _ from e2, env_ok]
            refine tE_mono (Mid.next (m := evE G io d) pstT M2.forget) fun u H3 ⟨z, env3, e3, M3⟩ => ?_
            cases p1 : res env3 y with
            | none => simp only [p1] at M3; exact (M3.no fun F H S z => z).elim
            | some y2 =>
              cases p2 : res env3 z with
              | none => simp only [p1, p2] at M3; exact (M3.no fun F H S z => z).elim
              | some z2 =>
                cases p3 : cop o' y2 z2 with
                | none => simp only [p1, p2, p3] at M3; exact (M3.no fun F H S z => z).elim
                | some k2 =>
                  simp only [p1, p2, p3] at M3
                  obtain ⟨F0, H0, S0, F, S, p0, st0, ok, er0, rc⟩ := M3.res (resL2 p1 p2)
                  obtain ⟨w', v', e, r1, r2⟩ := rcl2 rc
                  cases e
                  exact ⟨F, y2, z2, k2, ok.sub, r2, r1, p3, k2, rfl, p0 F H3 S ok st0 er0⟩
theorem s_ix {a i : Ex} {ea ei : Expr} {pos : Pos} (ha : SE X G io P W a ea) (hi : SE X G io P W i ei) (hs : PlainIx ei) : SE X G io P W (.ix a i) (.Subscript ea ei pos) := fun env =>
  pe_imp (pe_ix ix_seq (ha env) (hi (R.env (evE G io a env) env)) hs) fun σ H Q h => by
    exact tE_mono (two_ops (k := ixop) (Mid.ofE h)) fun v H1 h => tE_mono h fun w H2 r => ixop_rd r
/-- a slice's bound: what it is, the rest held -/
theorem s_po {p : Ex} {op : Option Expr} {env : Env} (h : match op with | none => p = .nop | some e => p.isNop = false ∧ PE X e (tE X G P W env (evE G io p))) :
    ∃ t, PO X op t ∧ (∀ σ H (Q Q' : Option Int → Hp → Prop), t σ H Q → (∀ o H, Q o H → Q' o H) → t σ H Q') ∧ ∀ {β : Type} {σ : L2.St} {H : Hp} {ds : List D} {vs : List V} {post : Hp → Hp → AS → R β → Prop} {k : Option Int → Env → R β}, Pst X G P W σ post → Mid X P σ env ds vs H (fun F0 H0 S0 => post F0 H0 S0 ((partOf p.isNop (evE G io p) env).bind k)) →
      t σ H fun o H2 => ∃ env2, partOf p.isNop (evE G io p) env = .ok o env2 ∧ Mid X P σ env2 ds vs H2 fun F0 H0 S0 => post F0 H0 S0 (k o env2) := by
  cases op with
  | none =>
    have h' : p = .nop := h
    subst h'
    exact ⟨_, po_none, fun σ H Q Q' z q => q _ _ z, fun hp M => ⟨env, rfl, M⟩⟩
  | some e =>
    obtain ⟨hn, he⟩ := h
    refine ⟨_, po_some he, fun σ H Q Q' z q => tE_mono z fun v H1 ⟨i, e, z⟩ => ⟨i, e, q _ _ z⟩, fun {β σ H ds vs post k} hp M => ?_⟩
    have ev : partOf p.isNop (evE G io p) env = (evE G io p env).bind fun d env => match res env d with | some (.int i) => .ok (some i) env | _ => .bad := by rw [hn]; rfl
    have eb : ∀ (m : R D), (m.bind fun d env => match res env d with | some (.int i) => R.ok (some i) env | _ => R.bad).bind k = m.bind fun d env => match res env d with | some (.int i) => k (some i) env | _ => .bad := fun m => by
      cases m with
      | ok d e =>
        simp only [R.bind]
        cases q : res e d with
        | none => rfl
        | some x => cases x <;> rfl
      | exc => rfl
      | bad => rfl
    rw [ev, eb] at M
    refine tE_mono (Mid.next hp M) fun v H2 ⟨x, env2, e2, M2⟩ => ?_
    cases q1 : res env2 x with
    | none => simp only [q1] at M2; exact (M2.no fun F H S z => hp.bad _ _ _ z).elim
    | some x' =>
      simp only [q1] at M2
      cases x' <;> first | exact (M2.no fun F H S z => hp.bad _ _ _ z).elim | skip
      rename_i i
      have hv : v = .int i := by
        obtain ⟨F0, H0, S0, F, S, T, a, b, cc, d, er, rv⟩ := M2
        obtain ⟨w, r, T1, T2, e, m1, m2, dj, h1, h2⟩ := rv
        cases e
        obtain ⟨F', g1, g2, g3, g4⟩ := resolve (ds := [x]) (vs := [v]) (T := T1) (cc.mono fun a z => z.imp id (m1 a)) (fun a x y => d a x (m1 a y)) er ⟨v, [], T1, No, rfl, fun _ z => z, fun _ z => z.elim, fun _ _ z => z, h1, rfl⟩ (resL1 q1)
        obtain ⟨v', e', r'⟩ := rcl1 g4
        cases e'
        exact rc_int r'
      refine ⟨i, hv, env2, by rw [ev, e2]; simp only [R.bind, q1], ?_⟩
      obtain ⟨F0, H0, S0, F, S, T, a, b, cc, d, er, w, r, T1, T2, e, m1, m2, dj, h1, h2⟩ := M2
      cases e
      exact ⟨F0, H0, S0, F, S, T2, a, b.weak fun a z => z.imp id (m2 a), cc.mono fun a z => z.imp id (m2 a), fun a x y => d a x (m2 a y), er, h2⟩
theorem s_sl {a lo hi : Ex} {ea : Expr} {elo ehi : Option Expr} {p2 pos : Pos} (ha : SE X G io P W a ea)
    (hlo : match elo with | none => lo = .nop | some e => lo.isNop = false ∧ SE X G io P W lo e) (hhi : match ehi with | none => hi = .nop | some e => hi.isNop = false ∧ SE X G io P W hi e) :
    SE X G io P W (.sl a lo hi) (.Subscript ea (.Slice elo ehi none p2) pos) := fun env => by
  obtain ⟨tl, hl, ml, pl⟩ := s_po (X := X) (G := G) (io := io) (P := P) (W := W) (p := lo) (op := elo) (env := R.env (evE G io a env) env) (by cases elo <;> first | exact hlo | exact ⟨hlo.1, hlo.2 _⟩)
  obtain ⟨th, hh, mh, ph⟩ := s_po (X := X) (G := G) (io := io) (P := P) (W := W) (p := hi) (op := ehi) (env := R.env (partOf lo.isNop (evE G io lo) (R.env (evE G io a env) env)) (R.env (evE G io a env) env)) (by cases ehi <;> first | exact hhi | exact ⟨hhi.1, hhi.2 _⟩)
  refine pe_imp (pe_slice slop_ok (ha env) hl hh) fun σ H Q h => ?_
  refine tE_mono (Mid.next (m := evE G io a) (post := fun F0 H0 S0 r => PostE X G P W σ F0 H0 S0 r Q) pstE (Mid.ofE h)) fun v H1 ⟨x, env1, e1, M1⟩ => ?_
  have g1 : R.env (evE G io a env) env = env1 := by rw [show evE G io a env = _ from e1]; rfl
  rw [g1] at ph
  rw [g1] at pl
  refine ml _ _ _ _ (pl (post := fun F0 H0 S0 r => PostE X G P W σ F0 H0 S0 r Q) pstE M1) fun l H2 ⟨env2, e2, M2⟩ => ?_
  rw [show R.env (partOf lo.isNop (evE G io lo) env1) env1 = env2 by rw [e2]; rfl] at ph
  refine mh _ _ _ _ (ph (post := fun F0 H0 S0 r => PostE X G P W σ F0 H0 S0 r Q) pstE M2) fun u H3 ⟨env3, e3, M3⟩ => ?_
  cases q1 : res env3 x with
  | none => simp only [q1] at M3; exact (M3.no fun F H S z => z).elim
  | some x' =>
    cases q2 : slop x' l u with
    | none => simp only [q1, q2, liftO] at M3; exact (M3.no fun F H S z => z).elim
    | some d =>
      simp only [q1, q2, liftO] at M3
      obtain ⟨F, sb, rc, op⟩ := M3.op (resL1 q1)
      obtain ⟨v', e, r⟩ := rcl1 rc
      cases e
      exact ⟨F, x', d, sb, r, q2, op⟩
end
end DD

set_option Elab.async false
set_option linter.all false
set_option maxRecDepth 100000
set_option maxHeartbeats 1000000
namespace DD
open PySem PySem.Spec PyProof.Rows L2
section
variable {K : PySem.W.Frag} {σ : L2.St} {F H : Hp} {T : AS}
theorem rvl_len : ∀ {ds : List D} {vs : List V} {T : AS}, RVL K σ F H ds vs T → vs.length = ds.length
  | [], vs, T, h => by
    have : vs = [] := h
    rw [this]; rfl
  | d :: ds, vs, T, ⟨v, r, T1, T2, e, m1, m2, dj, h1, h2⟩ => by rw [e, List.length_cons, List.length_cons, rvl_len h2]
theorem rvl_split : ∀ {as bs : List D} {vs : List V} {T : AS}, RVL K σ F H (as ++ bs) vs T →
    ∃ v1 v2 T1 T2, vs = v1 ++ v2 ∧ v1.length = as.length ∧ (∀ a, T1 a → T a) ∧ (∀ a, T2 a → T a) ∧ Dj T1 T2 ∧ RVL K σ F H as v1 T1 ∧ RVL K σ F H bs v2 T2
  | [], bs, vs, T, h => ⟨[], vs, No, T, rfl, rfl, fun _ z => z.elim, fun _ z => z, fun _ z => z.elim, rfl, h⟩
  | d :: as, bs, vs, T, ⟨v, r, U1, U2, e, m1, m2, dj, h1, h2⟩ => by
    obtain ⟨v1, v2, T1, T2, e2, l, n1, n2, dj2, g1, g2⟩ := rvl_split h2
    subst e e2
    refine ⟨v :: v1, v2, Un2 U1 T1, T2, rfl, by rw [List.length_cons, l, List.length_cons], fun a z => z.elim (m1 a) fun z => m2 a (n1 a z), fun a z => m2 a (n2 a z), fun a x y => x.elim (fun x => dj a x (n2 a y)) fun x => dj2 a x y, ⟨v, v1, U1, T1, rfl, fun _ z => .inl z, fun _ z => .inr z, fun a x y => dj a x (n1 a y), h1, g1⟩, g2⟩
theorem rvl_rep : ∀ {ds : List D} {vs : List V} {T : AS}, ds.all noPlc = true → RVL K σ F H ds vs T → RepL K F H ds vs T
  | [], _, _, _, h => h
  | d :: ds, _, _, q, ⟨v, r, T1, T2, e, m1, m2, dj, h1, h2⟩ => by
    rw [List.all_cons, Bool.and_eq_true] at q
    exact ⟨v, r, T1, T2, e, m1, m2, dj, h1.of q.1, rvl_rep q.2 h2⟩
theorem rep_rvl : ∀ {ds : List D} {vs : List V} {T : AS}, RepL K F H ds vs T → RVL K σ F H ds vs T
  | [], _, _, h => h
  | d :: ds, _, _, ⟨v, r, T1, T2, e, m1, m2, dj, h1, h2⟩ => ⟨v, r, T1, T2, e, m1, m2, dj, RV.to h1, rep_rvl h2⟩
end
section
variable {X : Cx} {G : Glb} {io : List Nat} {P : List (Nat × V)} {W : WX} {c : CC}
theorem mono_eqL {σ : L2.St} {env1 : Env} {m : Env → R D} {m1 : Env → R (List D)} {H : Hp} {Q Q' : List V → Hp → Prop} {d : D} {env0 : Env} (e : m env0 = .ok d env1) (h : tL X G P W env1 m1 σ H Q) (q : ∀ v H', Q v H' → Q' v H') : tL X G P W (R.env (m env0) env0) m1 σ H Q' := by
  rw [e]; exact tL_mono h q
theorem Mid.giveL {σ : L2.St} {env : Env} {H : Hp} {ds es : List D} {vs ws : List V} {Q : List V → Hp → Prop} (hl : vs.length = ds.length)
    (h : Mid X P σ env (es ++ ds) (ws ++ vs) H fun F0 H0 S0 => PostL X G P W σ F0 H0 S0 (.ok (ds ++ es) env) Q) : Q (vs ++ ws) H := by
  obtain ⟨F0, H0, S0, F, S, T, a, b, c, d, er, f⟩ := h
  obtain ⟨v1, v2, T1, T2, e, l, n1, n2, dj, g1, g2⟩ := rvl_split f
  have hl2 : ws.length = es.length := by
    have := rvl_len f
    rw [List.length_append, List.length_append] at this
    omega
  obtain ⟨e1, e2⟩ := List.append_inj e (by rw [hl2, l])
  subst e1 e2
  exact a _ F H S T c d b er (RVL.keep .refl (fun a z => z.elim (n2 a) (n1 a)) (fun _ _ _ z => z) (rvl_app (fun a x y => dj a y x) g2 g1))
theorem s_Lnil : SL X G io P W .nil [] := fun env => pa_imp pa_nil fun σ H Q ⟨F, S, ok, er, q⟩ => q [] F H S No (ok.mono fun a z => z.elim id False.elim) (fun _ _ z => z) (Step.refl.weak fun a z => z.elim id False.elim) er rfl
theorem s_Anil : SA X G io P W .nil [] := fun env => pa_imp pa_nil fun σ H Q ⟨F, S, ok, er, q⟩ => q [] F H S No (ok.mono fun a z => z.elim id False.elim) (fun _ _ z => z) (Step.refl.weak fun a z => z.elim id False.elim) er rfl
theorem s_Acons {a : Ex} {r : Exs} {ea : Expr} {er : List Expr} (ha : SE X G io P W a ea) (hr : SA X G io P W r er) (hs : starEach (ea :: er) X.env = (false, eval ea X.env) :: starEach er X.env) : SA X G io P W (.cons a r) (ea :: er) := fun env =>
  pa_imp (pa_cons (ha env) (hr (R.env (evE G io a env) env)) hs) fun σ H Q h => by
    refine tE_mono (Mid.next (m := evE G io a) (post := fun F0 H0 S0 r => PostL X G P W σ F0 H0 S0 r Q) pstL (Mid.ofL h)) fun v H1 ⟨d, env1, e1, M1⟩ => ?_
    refine mono_eqL e1 (Mid.nextL (m := evA G io r) pstL M1) fun ws H2 ⟨es, env2, e2, M2⟩ => ?_
    exact Mid.giveL (ds := [d]) (vs := [v]) rfl M2
theorem s_Lcons {a : Ex} {r : Exs} {ea : Expr} {er : List Expr} (ha : SE X G io P W a ea) (hr : SL X G io P W r er) (hs : starEach (ea :: er) X.env = (false, eval ea X.env) :: starEach er X.env) : SL X G io P W (.cons a r) (ea :: er) := fun env =>
  pa_imp (pa_cons (ha env) (hr (R.env (evE G io a env) env)) hs) fun σ H Q h => by
    refine tE_mono (Mid.next (m := evE G io a) (post := fun F0 H0 S0 r => PostL X G P W σ F0 H0 S0 r Q) pstL (Mid.ofL h)) fun v H1 ⟨d, env1, e1, M1⟩ => ?_
    refine mono_eqL e1 (Mid.nextL (m := evL G io r) pstL M1) fun ws H2 ⟨es, env2, e2, M2⟩ => ?_
    cases hp : noPlc d with
    | false => simp only [hp] at M2; exact (M2.no fun F H S z => z).elim
    | true =>
      simp only [hp, if_true] at M2
      exact Mid.giveL (ds := [d]) (vs := [v]) rfl M2
/-- what is read becomes its items, frozen -/
theorem Mid.star {σ : L2.St} {env : Env} {H : Hp} {d d' : D} {v : V} {xs : List D} {p : Hp → Hp → AS → Prop} (h : Mid X P σ env [d] [v] H p) (e : DD.res env d = some d') (e2 : seq? d' = some xs) :
    ∃ a vs, v = .ref a ∧ (SqT X.K H a vs ∨ SqL X.K H a vs) ∧ vs.length = xs.length ∧ Mid X P σ env xs vs H p := by
  obtain ⟨F0, H0, S0, F, S, a, b, c, er, rc⟩ := h.res (resL1 e)
  obtain ⟨v', e', r⟩ := rcl1 rc
  cases e'
  obtain ⟨q, vs, ev, hs, rl⟩ := seq_rc c.sub r e2
  refine ⟨q, vs, ev, hs.symm, rvl_len (σ := σ) (rep_rvl rl), F0, H0, S0, F, S, No, a, b.weak fun a z => z.elim id False.elim, c.mono fun a z => z.elim id False.elim, fun _ _ z => z, er, rep_rvl rl⟩
theorem s_Lstar {a : Ex} {r : Exs} {ea : Expr} {p : Pos} {er : List Expr} (ha : SE X G io P W a ea) (hr : SL X G io P W r er) : SL X G io P W (.star a r) (.Starred ea p :: er) := fun env =>
  pa_imp (StX.pa_star (ha env) (hr (R.env (evE G io a env) env))) fun σ H Q h => by
    refine tE_mono (Mid.next (m := evE G io a) (post := fun F0 H0 S0 r => PostL X G P W σ F0 H0 S0 r Q) pstL (Mid.ofL h)) fun v H1 ⟨d, env1, e1, M1⟩ => ?_
    cases q1 : res env1 d with
    | none => simp only [q1] at M1; exact (M1.no fun F H S z => z).elim
    | some d' =>
      cases q2 : seq? d' with
      | none => simp only [q1, q2] at M1; exact (M1.no fun F H S z => z).elim
      | some xs =>
        cases q3 : xs.all noPlc with
        | false => simp only [q1, q2, q3] at M1; exact (M1.no fun F H S z => z).elim
        | true =>
          simp only [q1, q2, q3, if_true] at M1
          obtain ⟨a', vs, ev, hs, hl, M2⟩ := M1.star q1 q2
          refine ⟨a', vs, ev, hs, mono_eqL e1 (Mid.nextL (m := evL G io r) pstL M2) fun ws H2 ⟨es, env2, e2, M3⟩ => ?_⟩
          exact Mid.giveL hl M3
theorem evL_np : ∀ (es : Exs) {env env' : Env} {ds : List D}, evL G io es env = .ok ds env' → ds.all noPlc = true
  | .nil, env, env', ds, h => by cases h; rfl
  | .cons e r, env, env', ds, h => by
    have h' : ((evE G io e env).bind fun d env => (evL G io r env).bind fun ds env => if noPlc d then .ok (d :: ds) env else .bad) = .ok ds env' := h
    cases q : evE G io e env with
    | ok d e1 =>
      rw [q] at h'
      simp only [R.bind] at h'
      cases q2 : evL G io r e1 with
      | ok xs e2 =>
        rw [q2] at h'
        simp only [R.bind] at h'
        split at h'
        · rename_i hp
          cases h'
          rw [List.all_cons, hp, evL_np r q2]; rfl
        · cases h'
      | exc => rw [q2] at h'; cases h'
      | bad => rw [q2] at h'; cases h'
    | exc => rw [q] at h'; cases h'
    | bad => rw [q] at h'; cases h'
  | .star e r, env, env', ds, h => by
    have h' : ((evE G io e env).bind fun d env => match res env d with
      | some d => (match seq? d with | some xs => if xs.all noPlc then (evL G io r env).bind fun ds env => .ok (xs ++ ds) env else .bad | none => .bad)
      | none => .bad) = .ok ds env' := h
    cases q : evE G io e env with
    | ok d e1 =>
      rw [q] at h'
      simp only [R.bind] at h'
      cases q3 : res e1 d with
      | none => rw [q3] at h'; cases h'
      | some d' =>
        cases q4 : seq? d' with
        | none => rw [q3] at h'; simp only [q4] at h'; cases h'
        | some xs =>
          rw [q3] at h'
          simp only [q4] at h'
          split at h'
          · rename_i hp
            cases q2 : evL G io r e1 with
            | ok ys e2 =>
              rw [q2] at h'
              simp only [] at h'
              cases h'
              rw [List.all_append, hp, evL_np r q2]; rfl
            | exc => rw [q2] at h'; cases h'
            | bad => rw [q2] at h'; cases h'
          · cases h'
    | exc => rw [q] at h'; cases h'
    | bad => rw [q] at h'; cases h'
def tTupF (t : TA) : TE := fun σ H Q => t σ H fun xs H1 => xs.length ≤ sizeLine ∧ ∀ p (ob : Obj), ob.dict = none → H1 p = none → Q (.ref p) (upd H1 p (.frz ob (.tup xs)))
theorem pe_tupF {es : List Expr} {t : TA} {x1 : Nat} {pos : Pos} (h : PA X es t) : PE X (.Tuple es x1 pos) (tTupF t) := by
  refine ⟨fun pins s σ H Q I hq => ?_⟩
  refine wpAny_Tuple_spliced (thn (h.run pos pins s σ H _ I hq) fun us s1 ⟨xs, H1, I1, r, z, q⟩ => ⟨by rw [← r.length]; exact z, ?_⟩)
  exact laidT I1 r z q
/-- what is held goes into a new tuple -/
theorem Mid.newTup {σ : L2.St} {env : Env} {H : Hp} {ds : List D} {vs : List V} {Q : VK} (np : ds.all noPlc = true) (h : Mid X P σ env ds vs H fun F0 H0 S0 => PostE X G P W σ F0 H0 S0 (.ok (.tup ds) env) Q) : ∀ p (ob : Obj), ob.dict = none → H p = none → Q (.ref p) (upd H p (.frz ob (.tup vs))) := fun p ob hd n => by
  obtain ⟨F0, H0, S0, F, S, T, a, b, c, d, er, f⟩ := h
  have n1 := none_sub c.sub n
  have hk : ∀ b o, H b = some o → upd H p (.frz ob (.tup vs)) b = some o := fun b o e => by rw [upd_ne (ne_of_none e n)]; exact e
  have npS : ∀ b, (S b ∨ T b) → b ≠ p := fun b z e => c.al b z (by rw [e]; exact n)
  refine a (.ref p) (upd F p (.frz ob (.tup vs))) (upd H p (.frz ob (.tup vs))) S T ⟨sub_of_upd c.sub n1 n, fun b z => by rw [upd_ne (npS b z)]; exact c.off b z, fun b z => by rw [upd_ne (npS b z)]; exact c.al b z⟩ d ⟨b.fle.trans (.upd n1), fun q o m e => hk _ _ (b.keep q o m e), fun q z => ?_, fun q z => ?_, fun q z => b.snew q z⟩ (er.keep (.upd n1) (fun _ z => z) fun _ _ _ e => hk _ _ e) ?_
  · have := b.all q z
    cases e : H q with
    | none => exact (this e).elim
    | some o => rw [hk _ _ e]; simp
  · by_cases hq : q = p
    · subst hq
      refine .inr (.inr ?_)
      cases e : H0 q with
      | none => rfl
      | some o => exact (b.all q (by rw [e]; simp) n).elim
    · rw [upd_ne hq] at z; exact b.fnew q z
  · exact RV.to ⟨p, vs, rfl, ⟨ob, upd_same, hd⟩, RepL.keep (.upd n1) _ (fun _ z => z) (fun _ _ _ e => hk _ _ e) (rvl_rep np f)⟩
theorem Mid.newLst {σ : L2.St} {env : Env} {H : Hp} {ds : List D} {vs : List V} {Q : VK} (np : ds.all noPlc = true) (h : Mid X P σ env ds vs H fun F0 H0 S0 => PostE X G P W σ F0 H0 S0 (.ok (.lst true ds) env) Q) : ∀ p, H p = none → Q (.ref p) (upd H p (.lst vs)) := fun p n => by
  obtain ⟨F0, H0, S0, F, S, T, a, b, c, d, er, f⟩ := h
  have n1 := none_sub c.sub n
  have hk : ∀ b o, H b = some o → upd H p (.lst vs) b = some o := fun b o e => by rw [upd_ne (ne_of_none e n)]; exact e
  have npS : ∀ b, (S b ∨ T b) → b ≠ p := fun b z e => c.al b z (by rw [e]; exact n)
  refine a (.ref p) F (upd H p (.lst vs)) S (fun q => q = p ∨ T q) ⟨fun b o e => hk _ _ (c.sub b o e), fun b z => ?_, fun b z => ?_⟩ (fun q x y => ?_) ⟨b.fle, fun q o m e => hk _ _ (b.keep q o m e), fun q z => ?_, b.fnew, fun q z => ?_⟩ (er.keep .refl (fun _ z => z) fun _ _ _ e => hk _ _ e) ?_
  · rcases z with z | rfl | z
    · exact c.off b (.inl z)
    · exact n1
    · exact c.off b (.inr z)
  · rcases z with z | rfl | z
    · rw [upd_ne (npS b (.inl z))]; exact c.al b (.inl z)
    · rw [upd_same]; simp
    · rw [upd_ne (npS b (.inr z))]; exact c.al b (.inr z)
  · rcases y with rfl | y
    · exact npS _ (.inl x) rfl
    · exact d q x y
  · have := b.all q z
    cases e : H q with
    | none => exact (this e).elim
    | some o => rw [hk _ _ e]; simp
  · rcases z with z | rfl | z
    · exact b.snew q (.inl z)
    · refine .inr ?_
      cases e : H0 q with
      | none => rfl
      | some o => exact (b.all q (by rw [e]; simp) n).elim
    · exact b.snew q (.inr z)
  · exact RV.to ⟨p, vs, rfl, upd_same, .inl rfl, RepL.keep .refl _ (fun q z => ⟨.inr z, npS q (.inr z)⟩) (fun _ _ _ e => hk _ _ e) (rvl_rep np f)⟩
theorem s_tup {es : Exs} {as : List Expr} {k : Nat} {pos : Pos} (h : SL X G io P W es as) : SE X G io P W (.tup es) (.Tuple as k pos) := fun env =>
  pe_imp (pe_tupF (h env)) fun σ H Q h => by
    refine tL_mono (Mid.nextL (m := evL G io es) (post := fun F0 H0 S0 r => PostE X G P W σ F0 H0 S0 r Q) pstE (Mid.ofE h)) fun vs H1 ⟨ds, env1, e1, M1⟩ => ?_
    rw [List.append_nil] at M1
    rw [List.append_nil] at M1
    by_cases hl : ds.length ≤ lim
    · simp only [hl, if_true] at M1
      refine ⟨?_, M1.newTup (evL_np es e1)⟩
      obtain ⟨F0, H0, S0, F, S, T, a, b, c, d, er, f⟩ := M1
      rw [rvl_len f]; exact hl
    · simp only [hl, if_false] at M1
      exact (M1.no fun F H S z => z).elim
theorem s_lst {es : Exs} {as : List Expr} {pos : Pos} (h : SL X G io P W es as) : SE X G io P W (.lst es) (.List as pos) := fun env =>
  pe_imp (pe_lst (h env)) fun σ H Q h => by
    refine tL_mono (Mid.nextL (m := evL G io es) (post := fun F0 H0 S0 r => PostE X G P W σ F0 H0 S0 r Q) pstE (Mid.ofE h)) fun vs H1 ⟨ds, env1, e1, M1⟩ => ?_
    rw [List.append_nil] at M1
    rw [List.append_nil] at M1
    by_cases hl : ds.length ≤ lim
    · simp only [hl, if_true] at M1
      refine ⟨?_, M1.newLst (evL_np es e1)⟩
      obtain ⟨F0, H0, S0, F, S, T, a, b, c, d, er, f⟩ := M1
      rw [rvl_len f]; exact hl
    · simp only [hl, if_false] at M1
      exact (M1.no fun F H S z => z).elim
/-- arguments that are read, then an operation -/
theorem args_read {es : Exs} {g : List D → Option D} {σ : L2.St} {H : Hp} {Q : VK} {env : Env} (h : tE X G P W env (withL (evA G io es) fun xs env => liftO (g xs) env) σ H Q) :
    tL X G P W env (evA G io es) σ H fun vs H1 => rCD X g vs H1 Q := by
  refine tL_mono (Mid.nextL (m := evA G io es) (post := fun F0 H0 S0 r => PostE X G P W σ F0 H0 S0 r Q) pstE (Mid.ofE h)) fun vs H1 ⟨ds, env1, e1, M1⟩ => ?_
  rw [List.append_nil] at M1
  rw [List.append_nil] at M1
  cases q1 : resL env1 ds with
  | none => simp only [q1] at M1; exact (M1.no fun F H S z => z).elim
  | some ds' =>
    cases q2 : g ds' with
    | none => simp only [q1, q2, liftO] at M1; exact (M1.no fun F H S z => z).elim
    | some d =>
      simp only [q1, q2, liftO] at M1
      obtain ⟨F, sb, rc, op⟩ := M1.op q1
      exact ⟨F, ds', d, sb, rc, q2, op⟩
theorem s_bltB {f : Blt} {id : String} {x : Str} {es : Exs} {a : Expr} {as : List Expr} {p pos : Pos} (hc : CallR X (.builtin id) (rCD X (bltop f))) (hg : L2.Gl X x) (hm : X.mg x = none) (hv : bootBuiltins x = some (.builtin id)) (ha : SA X G io P W es (a :: as)) (hn : x ≠ "__name__") (hdb : (x == ("__debug__" : Str)) = false)
    (he : starEach (a :: as) X.env = (false, eval a X.env) :: starEach as X.env) (hpl : (backTo pos (starEach as X.env)).any (·.1) = false) : SE X G io P W (.blt f es) (.Call (.Name x p) (a :: as) [] pos) := fun env =>
  pe_imp (pe_callB hc hg hm hv (ha env) hn hdb he hpl) fun σ H Q h => args_read h
theorem s_bltT {f : Blt} {T : String} {x : Str} {es : Exs} {a : Expr} {as : List Expr} {p pos : Pos} (hc : CallR X (.type T) (rCD X (bltop f))) (hg : L2.Gl X x) (hm : X.mg x = none) (hv : bootBuiltins x = some (.type T)) (ha : SA X G io P W es (a :: as)) (hn : x ≠ "__name__") (hdb : (x == ("__debug__" : Str)) = false)
    (he : starEach (a :: as) X.env = (false, eval a X.env) :: starEach as X.env) (hpl : (backTo pos (starEach as X.env)).any (·.1) = false) : SE X G io P W (.blt f es) (.Call (.Name x p) (a :: as) [] pos) := fun env =>
  pe_imp (pe_callTy hc hg hm hv (ha env) hn hdb he hpl) fun σ H Q h => args_read h
/-! ### list(range(..)) -/
theorem withL_one {α : Type} {a : Ex} {f : List D → Env → R α} {env : Env} : withL (evA G io (.cons a .nil)) f env = (evE G io a env).bind fun d env => match res env d with | some x => f [x] env | none => .bad := by
  show ((evE G io a env).bind fun d env => (R.ok [] env).bind fun ds env => .ok (d :: ds) env).bind _ = _
  cases evE G io a env with
  | ok d e =>
    simp only [R.bind, resL]
    cases res e d <;> rfl
  | exc => rfl
  | bad => rfl
theorem withL_two {α : Type} {a b : Ex} {f : List D → Env → R α} {env : Env} : withL (evA G io (.cons a (.cons b .nil))) f env = two (evE G io a) (evE G io b) (fun x y env => f [x, y] env) env := by
  show ((evE G io a env).bind fun d env => ((evE G io b env).bind fun d env => (R.ok [] env).bind fun ds env => .ok (d :: ds) env).bind fun ds env => .ok (d :: ds) env).bind _ = (evE G io a env).bind _
  cases evE G io a env with
  | ok d e =>
    show (((evE G io b e).bind fun d env => (R.ok [] env).bind fun ds env => .ok (d :: ds) env).bind _).bind _ = (evE G io b e).bind _
    cases evE G io b e with
    | ok d2 e2 =>
      simp only [R.bind, resL]
      cases res e2 d with
      | none => rfl
      | some x => cases res e2 d2 <;> rfl
    | exc => rfl
    | bad => rfl
  | exc => rfl
  | bad => rfl
theorem rngL_rep {K : PySem.W.Frag} {F H : Hp} (a b : Int) : RepL K F H (rngL a b) (rgV a b) No := by
  unfold rngL rgV
  generalize List.range (b - a).toNat = ks
  induction ks with
  | nil => rfl
  | cons k ks ih => exact ⟨_, _, No, No, rfl, fun _ z => z, fun _ z => z, fun _ z => z.elim, rfl, ih⟩
theorem rng_one {d : D} {xs : List D} (h : rng? [d] = some xs) : ∃ j, d = .int j ∧ -(2 ^ 62) ≤ j ∧ j < 2 ^ 62 ∧ xs = rngL 0 j := by
  cases d <;> simp only [rng?] at h <;> first | cases h; done | skip
  rename_i j
  split at h
  · rename_i hj
    cases h
    have := idx_ok hj
    exact ⟨j, rfl, by omega, by omega, rfl⟩
  · cases h
theorem rng_two {d e : D} {xs : List D} (h : rng? [d, e] = some xs) : ∃ i j, d = .int i ∧ e = .int j ∧ -(2 ^ 62) ≤ i ∧ i < 2 ^ 62 ∧ -(2 ^ 62) ≤ j ∧ j < 2 ^ 62 ∧ xs = rngL i j := by
  cases d <;> cases e <;> simp only [rng?] at h <;> first | cases h; done | skip
  rename_i i j
  split at h
  · rename_i hj
    cases h
    rw [Bool.and_eq_true] at hj
    have := idx_ok hj.1
    have := idx_ok hj.2
    exact ⟨i, j, rfl, rfl, by omega, by omega, by omega, by omega, rfl⟩
  · cases h
theorem rng_three {d e f : D} {xs : List D} (h : rng? [d, e, f] = some xs) : ∃ i j, d = .int i ∧ e = .int j ∧ f = .int (-1) ∧ -(2 ^ 62) ≤ i ∧ i < 2 ^ 62 ∧ -(2 ^ 62) ≤ j ∧ j < 2 ^ 62 ∧ xs = dnL i j := by
  cases d <;> cases e <;> cases f <;> simp only [rng?] at h <;> first | cases h; done | skip
  rename_i i j c
  split at h
  · rename_i hj
    cases h
    obtain ⟨rfl, hj⟩ := hj
    rw [Bool.and_eq_true] at hj
    have := idx_ok hj.1
    have := idx_ok hj.2
    exact ⟨i, j, rfl, rfl, rfl, by omega, by omega, by omega, by omega, rfl⟩
  · cases h
theorem dnL_len (a b : Int) : (dnL a b).length = (a - b).toNat := by unfold dnL; rw [List.length_map, List.length_range]
theorem rngL_len (a b : Int) : (rngL a b).length = (b - a).toNat := by unfold rngL; rw [List.length_map, List.length_range]
def lrngK (xs : List D) (env : Env) : R D := match rng? xs with | some d => if d.length ≤ lim then .ok (.lst true d) env else .bad | none => .bad
theorem s_lrng1 (hc : X.calm = true) {a : Ex} {ea : Expr} {p p2 pos pos2 : Pos} (hg : L2.Gl X "list") (hm : X.mg "list" = none) (hg2 : L2.Gl X "range") (hm2 : X.mg "range" = none) (ha : SE X G io P W a ea) (hs : starEach [ea] X.env = (false, eval ea X.env) :: starEach [] X.env) :
    SE X G io P W (.lrng (.cons a .nil)) (.Call (.Name "list" p) [.Call (.Name "range" p2) [ea] [] pos2] [] pos) := fun env =>
  pe_imp (pe_listRg hc hg hm (prg_1 hg2 hm2 (ha env) hs)) fun σ H Q h => by
    have M : Mid X P σ env [] [] H fun F0 H0 S0 => PostE X G P W σ F0 H0 S0 (withL (evA G io (.cons a .nil)) lrngK env) Q := Mid.ofE h
    rw [withL_one] at M
    refine tE_mono (Mid.next (m := evE G io a) (post := fun F0 H0 S0 r => PostE X G P W σ F0 H0 S0 r Q) pstE M) fun v H1 ⟨x, env1, e1, M1⟩ => ?_
    cases q1 : res env1 x with
    | none => simp only [q1] at M1; exact (M1.no fun F H S z => z).elim
    | some x' =>
      cases q2 : rng? [x'] with
      | none => simp only [q1, q2, lrngK] at M1; exact (M1.no fun F H S z => z).elim
      | some ds =>
        by_cases hl : ds.length ≤ lim
        · simp only [q1, q2, lrngK, hl, if_true] at M1
          obtain ⟨j, rfl, b1, b2, rfl⟩ := rng_one q2
          obtain ⟨F, sb, rc, op⟩ := M1.op (resL1 q1)
          obtain ⟨v', e, r⟩ := rcl1 rc
          cases e
          rw [rngL_len] at hl
          refine ⟨j, rc_int r, ⟨by omega, by omega, b1, b2, hl⟩, op.lst sb (rngL_rep 0 j)⟩
        · simp only [q1, q2, lrngK, hl, if_false] at M1; exact (M1.no fun F H S z => z).elim
theorem s_lrng2 (hc : X.calm = true) {a b : Ex} {ea eb : Expr} {p p2 pos pos2 : Pos} (hg : L2.Gl X "list") (hm : X.mg "list" = none) (hg2 : L2.Gl X "range") (hm2 : X.mg "range" = none) (ha : SE X G io P W a ea) (hb : SE X G io P W b eb) (hs : starEach [ea, eb] X.env = (false, eval ea X.env) :: starEach [eb] X.env) (hs2 : starEach [eb] X.env = (false, eval eb X.env) :: starEach [] X.env) (hp : (backTo pos2 (starEach [eb] X.env)).any (·.1) = false) :
    SE X G io P W (.lrng (.cons a (.cons b .nil))) (.Call (.Name "list" p) [.Call (.Name "range" p2) [ea, eb] [] pos2] [] pos) := fun env =>
  pe_imp (pe_listRg hc hg hm (prg_2 hg2 hm2 (ha env) (hb (R.env (evE G io a env) env)) hs hs2 hp)) fun σ H Q h => by
    have M : Mid X P σ env [] [] H fun F0 H0 S0 => PostE X G P W σ F0 H0 S0 (withL (evA G io (.cons a (.cons b .nil))) lrngK env) Q := Mid.ofE h
    rw [withL_two] at M
    refine two_gen (k := fun x y env => lrngK [x, y] env) (post := fun F0 H0 S0 r => PostE X G P W σ F0 H0 S0 r Q) pstE M fun x y env2 v w H2 h => ?_
    cases q2 : rng? [x, y] with
    | none => simp only [q2, lrngK] at h; exact (fin_no pstE h).elim
    | some ds =>
      by_cases hl : ds.length ≤ lim
      · simp only [q2, lrngK, hl, if_true] at h
        obtain ⟨i, j, rfl, rfl, b1, b2, b3, b4, rfl⟩ := rng_two q2
        obtain ⟨F, sb, op, r⟩ := Fin1.e h
        rw [rngL_len] at hl
        exact ⟨i, j, rc_int r.1, rc_int r.2, ⟨b1, b2, b3, b4, hl⟩, op.lst sb (rngL_rep i j)⟩
      · simp only [q2, lrngK, hl, if_false] at h; exact (fin_no pstE h).elim
end
end DD

set_option Elab.async false
set_option linter.all false
set_option maxRecDepth 100000
set_option maxHeartbeats 1000000
namespace DD
open PySem PySem.Spec PyProof.Rows L2
/-- where the in-and-out values came from -/
def BackR (σ : L2.St) : List (Option Nat) → List V → Prop
  | [], vs => vs = []
  | b :: bs, vs => ∃ v r, vs = v :: r ∧ (∀ i, b = some i → σ[i]? = some (some v)) ∧ BackR σ bs r
section
variable {K : PySem.W.Frag} {σ : L2.St} {F H : Hp} {P : List (Nat × V)}
theorem lend_ok (io : List Nat) : ∀ {ds ds' : List D} {k : Nat} {env env' : Env} {vs : List V} {S T : AS} {back : List (Option Nat)}, Dj S T → EnvR K F H P env σ S → RVL K σ F H ds vs T → lend io k env ds = some (ds', env', back) →
    ∃ S' T', (∀ a, S' a → S a) ∧ (∀ a, T' a → S a ∨ T a) ∧ Dj S' T' ∧ EnvR K F H P env' σ S' ∧ RepL K F H ds' vs T' ∧ BackR σ back (pick io k vs)
  | [], ds', k, env, env', vs, S, T, back, dj, er, r, e => by
    cases e
    have r' : vs = [] := r
    subst r'
    exact ⟨S, No, fun _ z => z, fun _ z => z.elim, fun _ _ z => z, er, rfl, rfl⟩
  | d :: ds, ds', k, env, env', vs, S, T, back, dj, er, ⟨v, r, T1, T2, ev, m1, m2, dj2, h1, h2⟩, e => by
    subst ev
    have moved : noPlc d = true → ∀ {xs : List D} {e2 : Env} {bk : List (Option Nat)} {b : Option (Option Nat)}, lend io (k + 1) env ds = some (xs, e2, bk) → (match b with | none => io.contains k = false | some b => io.contains k = true ∧ b = none) → ds' = d :: xs → env' = e2 → back = (match b with | none => bk | some b => b :: bk) →
        ∃ S' T', (∀ a, S' a → S a) ∧ (∀ a, T' a → S a ∨ T a) ∧ Dj S' T' ∧ EnvR K F H P env' σ S' ∧ RepL K F H ds' (v :: r) T' ∧ BackR σ back (pick io k (v :: r)) := by
      intro np xs e2 bk b q hb e3 e4 e5
      obtain ⟨S', T', a1, a2, a3, a4, a5, a6⟩ := lend_ok io (fun a x y => dj a x (m2 a y)) er h2 q
      subst e3 e4
      refine ⟨S', Un2 T1 T', a1, fun a z => z.elim (fun z => .inr (m1 a z)) fun z => (a2 a z).imp id (m2 a), fun a x y => y.elim (fun y => dj a (a1 a x) (m1 a y)) (a3 a x), a4, ⟨v, r, T1, T', rfl, fun _ z => .inl z, fun _ z => .inr z, fun a x y => (a2 a y).elim (fun y => dj a y (m1 a x)) (dj2 a x), h1.of np, a5⟩, ?_⟩
      cases b with
      | none =>
        simp only [] at hb e5
        subst e5
        unfold pick
        rw [hb]
        simpa using a6
      | some b =>
        simp only [] at hb e5
        subst e5
        unfold pick
        rw [hb.1, if_pos rfl]
        exact ⟨v, _, rfl, (fun i z => by rw [hb.2] at z; cases z), a6⟩
    by_cases hk : io.contains k = true
    · unfold lend at e
      rw [if_pos hk] at e
      by_cases hp : ∃ i, d = .plc i
      · obtain ⟨i, rfl⟩ := hp
        simp only [] at e
        cases q : get env i with
        | none => rw [q] at e; cases e
        | some x =>
          rw [q] at e
          simp only [Option.map_eq_some_iff] at e
          obtain ⟨⟨xs, e2, bk⟩, q2, q3⟩ := e
          cases q3
          obtain ⟨w, S1, U, e1, n1, n2, dj3, er1, r1⟩ := er.take q
          have h1' : σ[i]? = some (some v) := h1
          rw [h1'] at e1; cases e1
          obtain ⟨S', T', a1, a2, a3, a4, a5, a6⟩ := lend_ok io (fun a x y => dj a (n1 a x) (m2 a y)) er1 h2 q2
          refine ⟨S', Un2 U T', fun a z => n1 a (a1 a z), fun a z => z.elim (fun z => .inl (n2 a z)) fun z => (a2 a z).imp (n1 a) (m2 a), fun a x y => y.elim (fun y => dj3 a (a1 a x) y) (a3 a x), a4, ⟨v, r, U, T', rfl, fun _ z => .inl z, fun _ z => .inr z, fun a x y => (a2 a y).elim (fun y => dj3 a y x) (fun y => dj a (n2 a x) (m2 a y)), r1, a5⟩, ?_⟩
          unfold pick
          rw [if_pos hk]
          exact ⟨v, _, rfl, fun j z => by cases z; exact h1', a6⟩
      · have np : noPlc d = true := by cases d <;> first | rfl | exact (hp ⟨_, rfl⟩).elim
        have e' : ((lend io (k + 1) env ds).map fun q => (d :: q.1, q.2.1, none :: q.2.2)) = some (ds', env', back) := by
          cases d <;> first | exact e | exact (hp ⟨_, rfl⟩).elim
        simp only [Option.map_eq_some_iff] at e'
        obtain ⟨⟨xs, e2, bk⟩, q2, q3⟩ := e'
        cases q3
        exact moved np (b := some none) q2 ⟨hk, rfl⟩ rfl rfl rfl
    · have hk' : io.contains k = false := by simpa using hk
      unfold lend at e
      rw [if_neg hk] at e
      by_cases hp : ∃ i, d = .plc i
      · obtain ⟨i, rfl⟩ := hp
        cases e
      · have np : noPlc d = true := by cases d <;> first | rfl | exact (hp ⟨_, rfl⟩).elim
        have e' : ((lend io (k + 1) env ds).map fun q => (d :: q.1, q.2)) = some (ds', env', back) := by
          cases d <;> first | exact e | exact (hp ⟨_, rfl⟩).elim
        simp only [Option.map_eq_some_iff] at e'
        obtain ⟨⟨xs, e2, bk⟩, q2, q3⟩ := e'
        cases q3
        exact moved np (b := none) q2 hk' rfl rfl rfl
theorem putBack_ok : ∀ {outs : List D} {back : List (Option Nat)} {env env' : Env} {vs : List V} {S T : AS}, Dj S T → EnvR K F H P env σ S → RepL K F H outs vs T → BackR σ back vs → putBack env back outs = some env' → EnvR K F H P env' σ (Un2 S T)
  | [], [], env, env', vs, S, T, dj, er, r, b, e => by
    cases e
    exact er.keep .refl (fun _ z => .inl z) fun _ _ _ z => z
  | [], some _ :: _, env, env', vs, S, T, dj, er, r, b, e => by cases e
  | [], none :: _, env, env', vs, S, T, dj, er, r, b, e => by cases e
  | _ :: _, [], env, env', vs, S, T, dj, er, r, b, e => by cases e
  | d :: ds, some i :: back, env, env', vs, S, T, dj, er, ⟨v, r, T1, T2, ev, m1, m2, dj2, h1, h2⟩, ⟨v', r', ev', hb, b⟩, e => by
    subst ev
    cases ev'
    have e' : putBack (env.set i (some d)) back ds = some env' := e
    have er1 := er.back (hb i rfl) h1 fun a x y => dj a x (m1 a y)
    exact (putBack_ok (fun a x y => x.elim (fun x => dj a x (m2 a y)) fun x => dj2 a x y) er1 h2 b e').keep .refl (fun a z => z.elim (Or.imp id (m1 a)) fun z => .inr (m2 a z)) fun _ _ _ z => z
  | d :: ds, none :: back, env, env', vs, S, T, dj, er, ⟨v, r, T1, T2, ev, m1, m2, dj2, h1, h2⟩, ⟨v', r', ev', hb, b⟩, e => by
    subst ev
    cases ev'
    have e' : putBack env back ds = some env' := e
    exact (putBack_ok (fun a x y => dj a x (m2 a y)) er h2 b e').keep .refl (fun a z => z.imp id (m2 a)) fun _ _ _ z => z
end
section
variable {X : Cx} {G : Glb} {io : List Nat} {P : List (Nat × V)} {W : WX} {c : CC}
/-- a def called with what is held -/
theorem Mid.callTo {σ : L2.St} {env : Env} {H : Hp} {ds : List D} {vs : List V} {Q : VK} {f n : Nat} {g : List D → FR} (hg : G.fn f = some g) (hn : ∀ ds, g ds ≠ .bad → ds.length = n)
    (h : Mid X P σ env ds vs H fun F0 H0 S0 => PostE X G P W σ F0 H0 S0 (DD.callTo G f ds env) Q) : spF X.K X.mg G (G.io f) n g vs H Q (L2.WE W σ) := by
  obtain ⟨F0, H0, S0, F, S, T, a, b, c, dj, er, rv⟩ := h
  unfold DD.callTo at a
  rw [hg] at a
  cases q : lend (G.io f) 0 env ds with
  | none => rw [q] at a; exact a.elim
  | some r =>
    obtain ⟨ds', env', back⟩ := r
    rw [q] at a
    simp only [] at a
    obtain ⟨S', T', a1, a2, a3, a4, a5, a6⟩ := lend_ok (G.io f) dj er rv q
    have all : ∀ z, (S' z ∨ T' z) → S z ∨ T z := fun z x => x.elim (fun x => .inl (a1 z x)) (a2 z)
    have hgd : g ds' ≠ .bad := fun z => by rw [z] at a; exact a
    refine ⟨F, T', ds', c.mono fun z x => all z (.inr x), a5, hn _ hgd, ?_⟩
    have st0 : Step F0 H0 S0 F H (Un2 S' T') := b.weak all
    have goOn : ∀ {F' H' : Hp} {U : AS}, Step F H T' F' H' U → Step F H (Un2 S' T') F' H' (Un2 U S') ∧ (∀ z o, S' z → H z = some o → H' z = some o) ∧ (∀ z, U z → ¬ S' z) := fun {F' H' U} st =>
      ⟨⟨st.fle, fun z o m e => st.keep z o (fun y => m (.inr y)) e, st.all, fun z y => (st.fnew z y).imp id (Or.imp .inr id), fun z y => y.elim (fun y => (st.snew z y).imp .inr id) fun y => .inl (.inl y)⟩, fun z o y e => st.keep z o (fun w => a3 z y w) e, fun z y w => (st.snew z y).elim (fun t => a3 z w t) fun t => c.al z (all z (.inl w)) t⟩
    have offS : ∀ {F' H' : Hp} {U : AS}, Step F H T' F' H' U → ∀ z, S' z → F' z = none ∧ H' z ≠ none := fun {F' H' U} st z y => ⟨by
      cases e : F' z with
      | none => rfl
      | some u =>
        rcases st.fnew z (by rw [e]; simp) with t | t | t
        · exact (t (c.off z (all z (.inl y)))).elim
        · exact (a3 z y t).elim
        · exact (c.al z (all z (.inl y)) t).elim, st.all z (c.al z (all z (.inl y)))⟩
    cases er' : g ds' with
    | ret d outs =>
      rw [er'] at a
      unfold DD.afterCall at a
      cases q2 : putBack env' back outs with
      | none => simp only [q2] at a; exact a.elim
      | some e2 =>
        simp only [q2] at a
        intro v F' H' So T2 ok' dj' st' ro rd
        obtain ⟨g1, g2, g3⟩ := goOn st'
        have er1 : EnvR X.K F' H' P env' σ S' := a4.keep st'.fle (fun _ z => z) g2
        have djS : Dj S' So := fun z x y => g3 z (.inl y) x
        have er2 := putBack_ok djS er1 ro a6 q2
        refine a v F' H' (Un2 S' So) T2 ⟨ok'.sub, fun z y => ?_, fun z y => ?_⟩ (fun z x y => ?_) ((st0.trans0 g1).weak fun z y => ?_) er2 (RV.to rd)
        · rcases y with (y | y) | y
          · exact (offS st' z y).1
          · exact ok'.off z (.inl y)
          · exact ok'.off z (.inr y)
        · rcases y with (y | y) | y
          · exact (offS st' z y).2
          · exact ok'.al z (.inl y)
          · exact ok'.al z (.inr y)
        · rcases x with x | x
          · exact g3 z (.inr y) x
          · exact dj' z x y
        · rcases y with (y | y) | y
          · exact .inr y
          · exact .inl (.inl y)
          · exact .inl (.inr y)
    | exc x outs =>
      rw [er'] at a
      unfold DD.afterCall at a
      cases q2 : putBack env' back outs with
      | none => simp only [q2] at a; exact a.elim
      | some e2 =>
        simp only [q2] at a
        intro F' H' So cls ok' st' ro hm
        obtain ⟨g1, g2, g3⟩ := goOn st'
        have er1 : EnvR X.K F' H' P env' σ S' := a4.keep st'.fle (fun _ z => z) g2
        have djS : Dj S' So := fun z x y => g3 z y x
        have er2 := putBack_ok djS er1 ro a6 q2
        refine a F' H' (Un2 S' So) cls ⟨ok'.sub, fun z y => ?_, fun z y => ?_⟩ ((st0.trans0 g1).weak fun z y => ?_) er2 hm
        · rcases y with y | y
          · exact (offS st' z y).1
          · exact ok'.off z y
        · rcases y with y | y
          · exact (offS st' z y).2
          · exact ok'.al z y
        · exact y.symm
    | bad => exact (hgd er').elim
/-- the callee runs -/
theorem run_G {CX' : CXT} {kk : Nat} {f : Addr} {fd : FuncData} {ps : List Str} {sp : Sp} {pins : List (Addr × Obj)} {σ : L2.St} {H : Hp} {s : Shared} {Q : VK} {us : List Value} {vs : List V} {E : XK} (F : FnG X.prog X.w X.K X.mg X.base kk f fd ps sp) (hr : Room kk X.A) (gd : X.A.guards = some []) (hb : Binds X.K fd ps []) (hx : PassesAt (L2N.CX X.prog X.w) X σ E)
    (I : Inv X pins σ H s) (r : Vals vs us) (h : sp vs H Q E) : wpAny (model X.prog X.w) X.A (PySem.call (.ref f) us) (EP X pins σ Q) X.xe s := by
  have b := hb s us I.kIn (by rw [List.append_nil, ← r.length]; exact F.len _ _ _ _ h)
  rw [List.append_nil] at b
  refine wpAny_call (codeAny_mono (F.run X.A X.stack s H ⟨us, []⟩ us vs Q E hr gd I.env0 b r h) fun r s' q => ?_)
  cases r with
  | error e => exact hx pins H s e s' I q
  | ok fl => cases fl <;> first | exact I.after q | exact False.elim q
theorem pe_callG {kk : Nat} {f : Addr} {fd : FuncData} {ps : List Str} {sp : Sp} {E : L2.St → XK} {x : Str} {p pos : Pos} {e : Expr} {es : List Expr} {t : TA} (F : FnG X.prog X.w X.K X.mg X.base kk f fd ps sp) (hr : Room kk X.A) (gd : X.A.guards = some []) (hg : Gl X x) (hm : X.mg x = some (.ref f)) (hk : PySem.W.keepIn X.K (.ref f) = true) (hb : Binds X.K fd ps []) (hx : ∀ σ, PassesAt (L2N.CX X.prog X.w) X σ (E σ))
    (ha : PA X (e :: es) t) (hdb : (x == ("__debug__" : Str)) = false) (he : starEach (e :: es) X.env = (false, eval e X.env) :: starEach es X.env) (hpl : (backTo pos (starEach es X.env)).any (·.1) = false) :
    PE X (.Call (.Name x p) (e :: es) [] pos) (tCallS sp E t) :=
  ⟨fun pins s σ H Q I h => wpAny_Call_Name_kw (ld_glob I hg hm (PySem.W.callWith_K (h₀ := X.base) I.ok.mod.kin hk (thn (ha.run pos pins s σ H _ I h) fun us s1 ⟨vs, H1, I1, r, q⟩ => ⟨I1.kIn, run_G (CX' := CX0) F hr gd hb (hx σ) I1 r q⟩) he hpl) hdb)⟩
theorem s_call (C : Ctx X G io P W) (k : CCok X G c) {f : Nat} {x : Str} {es : Exs} {a : Expr} {as : List Expr} {p pos : Pos} (hx : c.nm f = x) (hd : c.df f = true) (h : gloB c x = true) (ha : SA X G io P W es (a :: as)) (he : starEach (a :: as) X.env = (false, eval a X.env) :: starEach as X.env) (hpl : (backTo pos (starEach as X.env)).any (·.1) = false) :
    SE X G io P W (.call f es) (.Call (.Name x p) (a :: as) [] pos) := fun env => by
  obtain ⟨h1, h2, h3⟩ := glo_of k h
  obtain ⟨g, e, FX⟩ := k.fns f hd
  obtain ⟨ad, fd, ps, kk, hm, hk, hr, hb, F, hn⟩ := FX.ex
  rw [k.nm, hx] at hm
  refine pe_imp (pe_callG F hr C.gd h1 hm hk hb (fun σ => L2N.passAt C.takes σ) (ha env) h2 he hpl) fun σ H Q h => ?_
  refine tL_mono (Mid.nextL (m := evA G io es) (post := fun F0 H0 S0 r => PostE X G P W σ F0 H0 S0 r Q) pstE (Mid.ofE h)) fun vs H1 ⟨ds, env1, e1, M1⟩ => ?_
  rw [List.append_nil] at M1
  rw [List.append_nil] at M1
  exact M1.callTo e hn
end
end DD

set_option Elab.async false
set_option linter.all false
set_option maxRecDepth 100000
set_option maxHeartbeats 1000000
namespace DD
open PySem PySem.Spec PyProof.Rows L2
section
variable {X : Cx} {G : Glb} {io : List Nat} {P : List (Nat × V)} {W : WX} {c : CC}
/-- an operation on one operand -/
theorem one_op {f : D → Option D} {m : Env → R D} {σ : L2.St} {H : Hp} {env : Env} {Q : VK} (h : tE X G P W env (fun env => (m env).bind fun x env => match res env x with | some x => liftO (f x) env | none => .bad) σ H Q) :
    tE X G P W env m σ H fun v H1 => ∃ F a d, Sub F H1 ∧ RC X.K F H1 a v ∧ f a = some d ∧ OP X.K F H1 d Q := by
  refine tE_mono (Mid.next (m := m) (post := fun F0 H0 S0 r => PostE X G P W σ F0 H0 S0 r Q) pstE (Mid.ofE h)) fun v H1 ⟨x, env1, e1, M1⟩ => ?_
  cases q1 : res env1 x with
  | none => simp only [q1] at M1; exact (M1.no fun F H S z => z).elim
  | some x' =>
    cases q2 : f x' with
    | none => simp only [q1, q2, liftO] at M1; exact (M1.no fun F H S z => z).elim
    | some d =>
      simp only [q1, q2, liftO] at M1
      obtain ⟨F, sb, rc, op⟩ := M1.op (resL1 q1)
      obtain ⟨v', e, r⟩ := rcl1 rc
      cases e
      exact ⟨F, x', d, sb, r, q2, op⟩
theorem repL_rev {K : PySem.W.Frag} {F H : Hp} {xs : List D} {vs : List V} (h : RepL K F H xs vs No) : RepL K F H xs.reverse vs.reverse No := by
  have l := repL_len h
  refine repL_of (by simp [l]) fun i x v e e' => ?_
  have hi : i < xs.length := by have := (List.getElem?_eq_some_iff.mp e).1; simpa using this
  rw [List.getElem?_reverse hi] at e
  rw [List.getElem?_reverse (by omega), ← l] at e'
  exact repL_at h e e'
/-! ### [::-1] -/
def tBack (X : Cx) (te : TE) : TE := fun σ H Q => te σ H fun x H1 => ∃ F a d, Sub F H1 ∧ RC X.K F H1 a x ∧ op1? .rev a = some d ∧ OP X.K F H1 d Q
theorem pe_back {e : Expr} {te : TE} {k : Nat} {p1 p2 p3 pos : Pos} (he : PE X e te) : PE X (.Subscript e (.Slice none none (some (.UnaryOp .USub (.Constant (.int 1) k p1) p2)) p3) pos) (tBack X te) := by
  refine ⟨fun pins s σ H Q I h => ?_⟩
  refine Subscript_ (thn (he.run pins s σ H _ I h) fun v s1 ⟨x, H1, I1, r1, F, a, d, sb, ra, eo, q⟩ => ?_)
  have minus : PO X (some (.UnaryOp .USub (.Constant (.int 1) k p1) p2)) (tPart (tUn (rU fun i => .int (-i)) (tC (.int 1)))) := po_some (pe_un un_neg pe_int)
  refine wpAny_Slice (thn (po_none.run pins s1 σ H1 (fun o H2 => o = none ∧ H2 = H1) I1 ⟨rfl, rfl⟩) fun vl s2 ⟨l, H2, I2, pl, el, e2⟩ => ?_)
  subst el e2
  refine thn (po_none.run pins s2 σ H2 (fun o H3 => o = none ∧ H3 = H2) I2 ⟨rfl, rfl⟩) fun vu s3 ⟨u, H3, I3, pu, eu, e3⟩ => ?_
  subst eu e3
  refine thn (minus.run pins s3 σ H3 (fun o H4 => o = some (-1) ∧ H4 = H3) I3 ⟨1, rfl, -1, rfl, rfl, rfl⟩) fun vs s4 ⟨o, H4, I4, ps, eo4, e4⟩ => ?_
  subst eo4 e4
  have J : Inv X pins σ H4 { s4 with heap := s4.heap.push { cls := .type "slice", data := .fields #[vl, vu, vs] } } := I4.kept (t' := s4.toks) fun b ob q => Heap.get?_push_of_some _ q
  cases a <;> simp only [op1?] at eo <;> first | (cases eo; done) | skip
  · cases eo
    obtain ⟨p, ws, rfl, h1, h2⟩ := rc_tup ra
    cases r1
    obtain ⟨its, r, ht, hz⟩ := J.tuple (sb.seqT h1.seqT)
    have hlen := r.length
    show wpAny (model X.prog X.w) X.A (subscriptTail e (.Slice none none (some (.UnaryOp .USub (.Constant (.int 1) k p1) p2)) p3) (.ref p) (.ref s4.heap.objs.size)) (EP X pins σ Q) X.xe { s4 with heap := s4.heap.push { cls := .type "slice", data := .fields #[vl, vu, vs] } }
    refine tail_any (ops := [.ref p, .ref s4.heap.objs.size]) ht.typeIs slot_tuple_getitem.lookup ?_ (by with_unfolding_all rfl)
    refine item_tuple_back ht (Heap.IsSliceOf.new _ vl vu vs) pl pu ps ?_ (by rw [List.size_toArray]; omega)
    exact ⟨.ref _, _, J.laid (t' := s4.toks) (o := .frz { cls := .type "tuple", data := .seq its.reverse.toArray } (.tup ws.reverse)) (fun b ob q => Heap.get?_push_of_some _ q) (Nat.le_refl _) ⟨Heap.get?_push_size _ (by first | rfl | simp), by rw [List.length_reverse]; exact hz, _, r.reverse, IsTup.new _ _⟩, rfl, q.tup sb (repL_rev h2) _ _ rfl (J.hok.fresh (Nat.le_refl _))⟩
  · cases eo
    obtain ⟨p, ws, rfl, h1, h2⟩ := rc_lst sb ra
    cases r1
    obtain ⟨its, r, ht, hz⟩ := J.list (SqL.of h1)
    have hlen := r.length
    show wpAny (model X.prog X.w) X.A (subscriptTail e (.Slice none none (some (.UnaryOp .USub (.Constant (.int 1) k p1) p2)) p3) (.ref p) (.ref s4.heap.objs.size)) (EP X pins σ Q) X.xe { s4 with heap := s4.heap.push { cls := .type "slice", data := .fields #[vl, vu, vs] } }
    refine tail_any (ops := [.ref p, .ref s4.heap.objs.size]) ht.isList.typeIs PySem.slot_list_getitem.lookup ?_ (by with_unfolding_all rfl)
    refine wpAny_getItem_list_slice ht.isList (Heap.IsSliceOf.new _ vl vu vs) pl pu ps (by decide) ?_ (by rw [List.size_toArray]; omega)
    rw [PySem.W.krv_pick]
    exact ⟨.ref _, _, J.laid (t' := s4.toks) (o := .lst ws.reverse) (fun b ob q => Heap.get?_push_of_some _ q) (Nat.le_refl _) ⟨by rw [List.length_reverse]; exact hz, _, 0, r.reverse, Heap.get?_push_size _ rfl⟩, rfl, q.lst sb (repL_rev h2) _ (J.hok.fresh (Nat.le_refl _))⟩
theorem s_rev {a : Ex} {ea : Expr} {k : Nat} {p1 p2 p3 pos : Pos} (ha : SE X G io P W a ea) : SE X G io P W (.op1 .rev a) (.Subscript ea (.Slice none none (some (.UnaryOp .USub (.Constant (.int 1) k p1) p2)) p3) pos) := fun env =>
  pe_imp (pe_back (ha env)) fun σ H Q h => one_op (f := op1? .rev) h
/-! ### 'text'.index(e) -/
theorem s_sidx {z : Str} {a : Ex} {ea : Expr} {j : Nat} {p0 apos pos : Pos} (ha : SE X G io P W a ea) (hs : starEach [ea] X.env = [(false, eval ea X.env)]) (hline : (apos.endLine == pos.line) = true) : SE X G io P W (.sidx z a) (.Call (.Attribute (.Constant (.str z) j p0) "index" apos) [ea] [] pos) := fun env =>
  pe_imp (pe_m1 PySem.F.slot_str_index PySem.F.type_str_index mt_sindex pe_str (ha env) hs rfl hline) fun σ H Q h => ⟨⟨z, rfl⟩, tE_mono (one_op (f := sidx? z) h) fun v H1 ⟨F, a, d, sb, r, e, q⟩ => by
    unfold sidx? at e
    cases a <;> simp only at e <;> first | (cases e; done) | skip
    rename_i y
    obtain ⟨k, e1, rfl⟩ := Option.map_eq_some_iff.mp e
    cases q2 : Builtin.Str.occurrences z y 0 z.length 1 with
    | nil => rw [q2] at e1; cases e1
    | cons k' r' =>
      rw [q2] at e1
      cases e1
      exact ⟨z, y, k, r', rfl, by rw [rc_str r], q2, q.scalar sb rfl⟩⟩
/-! ### behind a new object -/
/-- a part next, p laid beside -/
theorem Mid.nextAt {β : Type} {m : Env → R D} {k : D → Env → R β} {σ : L2.St} {env1 : Env} {ds : List D} {vs : List V} {H1 : Hp} {post : Hp → Hp → AS → R β → Prop} {p : Addr} {o : HO} (hp : Pst X G P W σ post) (hf : H1 p = none)
    (h : Mid X P σ env1 ds vs H1 (fun F0 H0 S0 => post F0 H0 S0 ((m env1).bind k))) :
    tE X G P W env1 m σ (upd H1 p o) (fun v H2 => H2 p = some o ∧ ∃ d env2, m env1 = .ok d env2 ∧ Mid X P σ env2 (d :: ds) (v :: vs) H2 (fun F0 H0 S0 => post F0 H0 S0 (k d env2))) := by
  obtain ⟨F0, H0, S0, F, S, T, hpost, st, ok, dj, er, rv⟩ := h
  have ne : ∀ b (u : HO), H1 b = some u → b ≠ p := fun b u e z => by rw [z, hf] at e; cases e
  have kp : ∀ b u, H1 b = some u → upd H1 p o b = some u := fun b u e => by rw [upd_ne (ne b u e)]; exact e
  have nS : ¬ (S p ∨ T p) := fun z => ok.al p z hf
  have st1 : Step F0 H0 S0 F (upd H1 p o) (Un2 S T) := ⟨st.fle, fun b u n e => kp b u (st.keep b u n e), fun b z => by
    cases e : H1 b with
    | none => exact (st.all b z e).elim
    | some u => rw [kp b u e]; simp, st.fnew, st.snew⟩
  have ok1 : Ok F (upd H1 p o) (Un2 S T) := ⟨fun b u e => kp b u (ok.sub b u e), ok.off, fun b z => by
    cases e : H1 b with
    | none => exact (ok.al b z e).elim
    | some u => rw [kp b u e]; simp⟩
  have er1 : EnvR X.K F (upd H1 p o) P env1 σ S := er.keep .refl (fun _ z => z) fun b u _ e => kp b u e
  have rv1 : RVL X.K σ F (upd H1 p o) ds vs T := RVL.keep .refl (fun _ z => z) (fun b u _ e => kp b u e) rv
  refine ⟨F, S, ok1.left, er1, ?_⟩
  cases e : m env1 with
  | ok d env2 =>
    rw [e] at hpost
    intro v F' H' S' T' ok' dj' st' er' rv'
    obtain ⟨a1, a2, a3, a4, a5⟩ := held_on st1 ok1 dj ok' dj' st'
    exact ⟨st'.keep p o (fun z => nS (.inl z)) upd_same, d, env2, rfl, F0, H0, S0, F', S', Un2 T' T, hpost, a1, a2, a3, er', v, vs, T', T, rfl, fun _ z => .inl z, fun _ z => .inr z, a4, rv', RVL.keep st'.fle (fun _ z => z) a5 rv1⟩
  | exc x env2 =>
    rw [e] at hpost
    exact (hp.exc _ _ _ _ _ hpost).step st1
  | bad =>
    rw [e] at hpost
    exact hp.bad _ _ _ hpost
/-! ### [f, g, ..][i](..) -/
/-- the written names are these defs -/
def chkF1 (c : CC) (f : Nat) (e : Expr) : Bool := match e with
  | .Name x _ => decide (c.nm f = x) && c.df f && gloB c x
  | _ => false
def chkFs (c : CC) : List Nat → List Expr → Bool
  | [], [] => true
  | f :: fs, e :: es => chkF1 c f e && chkFs c fs es
  | [], _ :: _ => false
  | _ :: _, [] => false
structure FnAt (X : Cx) (G : Glb) (f : Nat) (a : Addr) : Prop where
  ex : ∃ (g : List D → FR) (fd : FuncData) (ps : List Str) (k : Nat), G.fn f = some g ∧ X.mg (G.nm f) = some (.ref a) ∧ PySem.W.keepIn X.K (.ref a) = true ∧ Room k X.A ∧ Binds X.K fd ps [] ∧
    FnG X.prog X.w X.K X.mg X.base k a fd ps (spF X.K X.mg G (G.io f) ps.length g) ∧ ∀ ds, g ds ≠ .bad → ds.length = ps.length
theorem fns_pa (k : CCok X G c) : ∀ {fs : List Nat} {es : List Expr}, chkFs c fs es = true → ∃ as : List Addr, as.length = fs.length ∧ PA X es (fun _ H Q => Q (as.map V.ref) H) ∧ ∀ (j : Nat) f, fs[j]? = some f → ∃ a, as[j]? = some a ∧ FnAt X G f a
  | [], [], _ => ⟨[], rfl, pa_nil, fun j f e => by simp at e⟩
  | f :: fs, e :: es, h => by
    simp only [chkFs, Bool.and_eq_true] at h
    obtain ⟨h0, h4⟩ := h
    unfold chkF1 at h0
    cases e <;> simp only at h0 <;> first | (cases h0; done) | skip
    simp only [Bool.and_eq_true, decide_eq_true_eq] at h0
    obtain ⟨⟨h1, h2⟩, h3⟩ := h0
    obtain ⟨as, l, pa, q⟩ := fns_pa k h4
    obtain ⟨g1, g2, g3⟩ := glo_of k h3
    obtain ⟨g, e, FX⟩ := k.fns f h2
    obtain ⟨ad, fd, ps, kk, hm, hk, hr, hb, F, hn⟩ := FX.ex
    have hm' := hm
    rw [k.nm, h1] at hm'
    refine ⟨ad :: as, by rw [List.length_cons, l, List.length_cons], pa_cons (pe_glob g1 hm' (show RelV (V.ref ad) (Value.ref ad) from rfl) g2) pa rfl, fun j f' e' => ?_⟩
    cases j with
    | zero => simp at e'; subst e'; exact ⟨ad, rfl, g, fd, ps, kk, e, hm, hk, hr, hb, F, hn⟩
    | succ j => exact q j f' (by simpa using e')
  | [], _ :: _, h => by cases h
  | _ :: _, [], h => by cases h
/-- what is called, then the arguments -/
def tCallAt (X : Cx) (G : Glb) (P : List (Nat × V)) (W : WX) (io : List Nat) (tf : TE) (es : Exs) (fs : List Nat) (i : Ex) (env : Env) : TE := fun σ H Q => tf σ H fun y H1 => ∃ f a g fd ps kk env1, y = V.ref a ∧ G.fn f = some g ∧ PySem.W.keepIn X.K (.ref a) = true ∧ Room kk X.A ∧ Binds X.K fd ps [] ∧
  FnG X.prog X.w X.K X.mg X.base kk a fd ps (spF X.K X.mg G (G.io f) ps.length g) ∧ env1 = R.env (evE G io i env) env ∧
  tL X G P W env1 (evA G io es) σ H1 fun vs H2 => spF X.K X.mg G (G.io f) ps.length g vs H2 Q (L2.WE W σ)
theorem s_callAt (C : Ctx X G io P W) (k : CCok X G c) {fs : List Nat} {i : Ex} {es : Exs} {fes : List Expr} {ei a : Expr} {as : List Expr} {lp sp pos : Pos} (hf : chkFs c fs fes = true) (hl : fs.length ≤ 1000) (hi : SE X G io P W i ei) (hsl : PlainIx ei) (ha : SA X G io P W es (a :: as))
    (he : starEach (a :: as) X.env = (false, eval a X.env) :: starEach as X.env) (hpl : (backTo pos (starEach as X.env)).any (·.1) = false) :
    SE X G io P W (.callAt fs i es) (.Call (.Subscript (.List fes lp) ei sp) (a :: as) [] pos) := fun env => by
  obtain ⟨ads, hal, pf, hat⟩ := fns_pa k hf
  have pfun := pe_ix (pos := sp) ix_seq (pe_lst (pos := lp) pf) (hi env) hsl
  have call : PE X (.Call (.Subscript (.List fes lp) ei sp) (a :: as) [] pos) (tCallAt X G P W io (tOp (rIx X.K) (tLst fun _ H Q => Q (ads.map V.ref) H) (tE X G P W env (evE G io i))) es fs i env) := by
    refine ⟨fun pins s σ H Q I h => ?_⟩
    refine Call_ (thn (pfun.run pins s σ H _ I h) fun u s1 ⟨y, H1, I1, ry, f, ad, g, fd, ps, kk, env1, ey, hg, hk, hr, hb, F, ee, q⟩ => ?_) rfl
    subst ey ee
    cases ry
    exact PySem.W.callWith_K (h₀ := X.base) I1.ok.mod.kin hk (thn ((ha _).run pos pins s1 σ H1 _ I1 q) fun us s2 ⟨vs, H2, I2, r, q2⟩ => ⟨I2.kIn, run_G (CX' := CX0) F hr C.gd hb (L2N.passAt C.takes σ) I2 r q2⟩) he hpl
  refine pe_imp call fun σ H Q h => ?_
  refine ⟨by rw [List.length_map, hal, lim_eq]; exact Nat.le_trans hl (by decide), fun p hp => ?_⟩
  refine tE_mono (Mid.nextAt (m := evE G io i) (post := fun F0 H0 S0 r => PostE X G P W σ F0 H0 S0 r Q) pstE hp (Mid.ofE h)) fun v H1 ⟨hp1, x, env1, e1, M1⟩ => ?_
  cases q1 : res env1 x with
  | none => simp only [q1] at M1; exact (M1.no fun F H S z => z).elim
  | some x' =>
    simp only [q1] at M1
    cases x' <;> first | exact (M1.no fun F H S z => z).elim | skip
    rename_i j
    have hv : v = .int j := by
      obtain ⟨F0, H0, S0, F, S, _, _, _, _, rc⟩ := M1.res (resL1 q1)
      obtain ⟨v', e, r⟩ := rcl1 rc
      cases e
      exact rc_int r
    subst hv
    cases q2 : atI fs j with
    | none => simp only [q2] at M1; exact (M1.no fun F H S z => z).elim
    | some f =>
      simp only [q2] at M1
      obtain ⟨n, hn, hfn⟩ : ∃ n, ixN fs.length j = some n ∧ fs[n]? = some f := by
        unfold atI at q2
        cases q3 : ixN fs.length j with
        | none => rw [q3] at q2; cases q2
        | some n => rw [q3] at q2; exact ⟨n, rfl, q2⟩
      obtain ⟨ad, ea, g, fd, ps, kk, hg, hm, hk, hr, hb, F, hnb⟩ : ∃ a, ads[n]? = some a ∧ ∃ (g : List D → FR) (fd : FuncData) (ps : List Str) (k : Nat), G.fn f = some g ∧ X.mg (G.nm f) = some (.ref a) ∧ PySem.W.keepIn X.K (.ref a) = true ∧ Room k X.A ∧ Binds X.K fd ps [] ∧
          FnG X.prog X.w X.K X.mg X.base k a fd ps (spF X.K X.mg G (G.io f) ps.length g) ∧ ∀ ds, g ds ≠ .bad → ds.length = ps.length := by
        obtain ⟨a, e1, FA⟩ := hat n f hfn
        exact ⟨a, e1, FA.ex⟩
      refine .inl ⟨p, ads.map V.ref, j, .ref ad, rfl, rfl, SqL.of hp1, ?_, ?_⟩
      · unfold atI
        rw [List.length_map, hal, hn]
        show (ads.map V.ref)[n]? = _
        rw [List.getElem?_map, ea]; rfl
      · refine ⟨f, ad, g, fd, ps, kk, env1, rfl, hg, hk, hr, hb, F, by rw [show evE G io i env = _ from e1]; rfl, ?_⟩
        refine tL_mono (Mid.nextL (m := evA G io es) (post := fun F0 H0 S0 r => PostE X G P W σ F0 H0 S0 r Q) pstE M1.drop) fun vs H2 ⟨ds, env2, e2, M2⟩ => ?_
        rw [List.append_nil] at M2
        rw [List.append_nil] at M2
        exact M2.callTo hg hnb
/-! ### {k: v, ..}.get(k, d) -/
/-- in the middle, p laid beside and held by nobody -/
def MidK (X : Cx) (P : List (Nat × V)) (p : Addr) (o : HO) (σ : L2.St) (env : Env) (ds : List D) (vs : List V) (H : Hp) (post : Hp → Hp → AS → Prop) : Prop :=
  ∃ F0 H0 S0 F S T, post F0 H0 S0 ∧ Step F0 H0 S0 F H (Un2 S T) ∧ Ok F H (Un2 S T) ∧ Dj S T ∧ EnvR X.K F H P env σ S ∧ RVL X.K σ F H ds vs T ∧ H p = some o ∧ ¬ (S p ∨ T p)
theorem MidK.mid {p : Addr} {o : HO} {σ : L2.St} {env : Env} {ds : List D} {vs : List V} {H : Hp} {post : Hp → Hp → AS → Prop} (h : MidK X P p o σ env ds vs H post) : H p = some o ∧ Mid X P σ env ds vs H post := by
  obtain ⟨F0, H0, S0, F, S, T, a, b, c, d, e, f, g, _⟩ := h
  exact ⟨g, F0, H0, S0, F, S, T, a, b, c, d, e, f⟩
theorem Mid.lay {σ : L2.St} {env : Env} {ds : List D} {vs : List V} {H : Hp} {post : Hp → Hp → AS → Prop} {p : Addr} {o : HO} (hf : H p = none) (h : Mid X P σ env ds vs H post) : MidK X P p o σ env ds vs (upd H p o) post := by
  obtain ⟨F0, H0, S0, F, S, T, hpost, st, ok, dj, er, rv⟩ := h
  have kp : ∀ b u, H b = some u → upd H p o b = some u := fun b u e => by rw [upd_ne (ne_of_none e hf)]; exact e
  have al : ∀ b, H b ≠ none → upd H p o b ≠ none := fun b z => by
    cases e : H b with
    | none => exact (z e).elim
    | some u => rw [kp b u e]; simp
  exact ⟨F0, H0, S0, F, S, T, hpost, ⟨st.fle, fun b u n e => kp b u (st.keep b u n e), fun b z => al b (st.all b z), st.fnew, st.snew⟩, ⟨fun b u e => kp b u (ok.sub b u e), ok.off, fun b z => al b (ok.al b z)⟩, dj,
    er.keep .refl (fun _ z => z) fun b u _ e => kp b u e, RVL.keep .refl (fun _ z => z) (fun b u _ e => kp b u e) rv, upd_same, fun z => ok.al p z hf⟩
theorem MidK.next {β : Type} {m : Env → R D} {k : D → Env → R β} {σ : L2.St} {env1 : Env} {ds : List D} {vs : List V} {H1 : Hp} {post : Hp → Hp → AS → R β → Prop} {p : Addr} {o : HO} (hp : Pst X G P W σ post)
    (h : MidK X P p o σ env1 ds vs H1 (fun F0 H0 S0 => post F0 H0 S0 ((m env1).bind k))) :
    tE X G P W env1 m σ H1 (fun v H2 => ∃ d env2, m env1 = .ok d env2 ∧ MidK X P p o σ env2 (d :: ds) (v :: vs) H2 (fun F0 H0 S0 => post F0 H0 S0 (k d env2))) := by
  obtain ⟨F0, H0, S0, F, S, T, hpost, st, ok, dj, er, rv, hpo, nS⟩ := h
  refine ⟨F, S, ok.left, er, ?_⟩
  cases e : m env1 with
  | ok d env2 =>
    rw [e] at hpost
    intro v F' H' S' T' ok' dj' st' er' rv'
    obtain ⟨a1, a2, a3, a4, a5⟩ := held_on st ok dj ok' dj' st'
    refine ⟨d, env2, rfl, F0, H0, S0, F', S', Un2 T' T, hpost, a1, a2, a3, er', ⟨v, vs, T', T, rfl, fun _ z => .inl z, fun _ z => .inr z, a4, rv', RVL.keep st'.fle (fun _ z => z) a5 rv⟩, st'.keep p o (fun z => nS (.inl z)) hpo, fun z => ?_⟩
    have old : ∀ b, (S' b ∨ T' b) → S b ∨ H1 b = none := fun b y => st'.snew b y
    rcases z with z | z | z
    · rcases old p (.inl z) with y | y
      · exact nS (.inl y)
      · rw [hpo] at y; cases y
    · rcases old p (.inr z) with y | y
      · exact nS (.inl y)
      · rw [hpo] at y; cases y
    · exact nS (.inr z)
  | exc x env2 =>
    rw [e] at hpost
    exact (hp.exc _ _ _ _ _ hpost).step st
  | bad =>
    rw [e] at hpost
    exact hp.bad _ _ _ hpost
def chkD1 (c : CC) (f : Nat) (e : Expr) : Bool := match e with
  | .Name x _ => decide (c.nm f = x) && gloB c x
  | _ => false
def chkD (c : CC) : List (Nat × Nat) → List (Option Expr) → List Expr → Bool
  | [], [], [] => true
  | (a, b) :: r, some k :: ks, v :: vs => chkD1 c a k && (chkD1 c b v && chkD c r ks vs)
  | _, _, _ => false
theorem glo_str (C : Ctx X G io P W) (k : CCok X G c) {a : Nat} {e : Expr} {z : Str} (h : chkD1 c a e = true) (hz : G.cst a = some (.str z)) : PE X e (tC (.str z)) ∧ PyData.strOk z = true := by
  unfold chkD1 at h
  cases e <;> simp only at h <;> first | (cases h; done) | skip
  rw [Bool.and_eq_true, decide_eq_true_eq] at h
  obtain ⟨g1, g2, g3⟩ := glo_of k h.2
  obtain ⟨np, v, u, hm, r, hr⟩ := C.cst a _ hz
  rw [k.nm, h.1] at hm
  obtain ⟨rfl, o⟩ : v = V.str z ∧ PyData.strOk z = true := hr (fun _ => none) (fun _ => none)
  exact ⟨pe_glob g1 hm r g2, o⟩
abbrev kvs_of (ps : List (Str × Str)) : List (Key × V) := ps.map fun p => (Sum.inr p.1, V.str p.2)
theorem disp_pps (C : Ctx X G io P W) (k : CCok X G c) {pos : Pos} : ∀ {kvs : List (Nat × Nat)} {ks : List (Option Expr)} {vs : List Expr} {ps : List (Str × Str)}, chkD c kvs ks vs = true → dgetKs G.cst kvs = some ps →
    ∃ trs, PPs X pos ks vs trs ∧ (∀ σ H Q, Q (ps.map fun p => (V.str p.1, V.str p.2)) H → tPairs trs σ H Q) ∧ ks.all (·.isSome) = true ∧ ks.length = vs.length ∧ ks.length = kvs.length ∧ ps.length = kvs.length ∧ (∀ p ∈ ps, PyData.strOk p.2 = true) ∧ (ps.map (·.1)).Nodup
  | [], ks, vs, ps, h, e => by
    cases ks <;> cases vs <;> first | (cases h; done) | skip
    cases e
    exact ⟨[], pps_nil, fun _ _ _ q => q, rfl, rfl, rfl, rfl, fun _ h => (by cases h), List.nodup_nil⟩
  | (a, b) :: r, ks, vs, ps, h, e => by
    cases ks with
    | nil => cases vs <;> cases h
    | cons k0 ks =>
      cases vs with
      | nil => cases k0 <;> cases h
      | cons v0 vs =>
        cases k0 with
        | none => cases h
        | some k0 =>
          simp only [chkD, Bool.and_eq_true] at h
          unfold dgetKs at e
          split at e
          · rename_i x y ps' e1 e2 e3
            split at e
            · rename_i hall
              cases e
              obtain ⟨trs, q1, q2, q3, q4, q5, q6, q7, q8⟩ := disp_pps C k (pos := pos) h.2.2 e3
              obtain ⟨p1, o1⟩ := glo_str C k h.1 e1
              obtain ⟨p2, o2⟩ := glo_str C k h.2.1 e2
              refine ⟨(tC (.str x), tC (.str y)) :: trs, pps_cons p1 p2 q1, fun σ H Q q => q2 σ H _ q, by rw [List.all_cons, q3]; rfl, by rw [List.length_cons, List.length_cons, q4], by rw [List.length_cons, List.length_cons, q5], by rw [List.length_cons, List.length_cons, q6], fun p hp => ?_, ?_⟩
              · rcases List.mem_cons.mp hp with rfl | hp
                · exact o2
                · exact q7 p hp
              · rw [List.map_cons, List.nodup_cons]
                refine ⟨fun hm => ?_, q8⟩
                obtain ⟨p, hp, e⟩ := List.mem_map.mp hm
                have := List.all_eq_true.mp hall p hp
                rw [decide_eq_true_eq] at this
                exact this e
            · cases e
          · cases e
theorem merge_nodup : ∀ (more acc : List (Key × V)), ((acc ++ more).map (·.1)).Nodup → mergeK acc more = acc ++ more
  | [], acc, _ => by rw [List.append_nil]; rfl
  | p :: more, acc, h => by
    have hput : putK acc p.1 p.2 = acc ++ [p] := by
      unfold putK
      rw [if_neg]
      intro z
      obtain ⟨q, hq, e⟩ := List.any_eq_true.mp z
      rw [decide_eq_true_eq] at e
      rw [List.map_append, List.nodup_append] at h
      exact h.2.2 q.1 (List.mem_map_of_mem hq) p.1 (List.mem_map_of_mem List.mem_cons_self) e
    show mergeK (putK acc p.1 p.2) more = _
    rw [hput, merge_nodup more (acc ++ [p]) (by rw [List.append_assoc]; exact h), List.append_assoc]
    rfl
theorem val_find (z : Str) : ∀ ps : List (Str × Str), valV (kvs_of ps) (Sum.inr z) = (ps.find? fun p => decide (p.1 = z)).map fun p => V.str p.2
  | [] => rfl
  | p :: ps => by
    by_cases h : p.1 = z
    · rw [kvs_of, List.map_cons, valV_pos (by rw [h]), List.find?_cons_of_pos (by simpa using h)]; rfl
    · rw [kvs_of, List.map_cons, valV_neg (by intro e; exact h (Sum.inr.inj e)), List.find?_cons_of_neg (by simpa using h)]
      exact val_find z ps
theorem s_dget (C : Ctx X G io P W) (k : CCok X G c) {kvs : List (Nat × Nat)} {a d : Ex} {ks : List (Option Expr)} {vs : List Expr} {ea ed : Expr} {dp apos cpos : Pos} (hd : chkD c kvs ks vs = true) (h15 : kvs.length ≤ 15) (h0 : kvs ≠ []) (ha : SE X G io P W a ea) (hb : SE X G io P W d ed)
    (m : M2 X (.Dict ks vs dp) "get" apos ea ed cpos) : SE X G io P W (.dget kvs a d) (.Call (.Attribute (.Dict ks vs dp) "get" apos) [ea, ed] [] cpos) := fun env => by
  cases e : dgetKs G.cst kvs with
  | none => exact pe_imp pe_never fun σ H Q ⟨F, S, ok, er, q⟩ => by simp only [evE, ev, Ev.of, e] at q; exact q
  | some ps =>
    obtain ⟨trs, q1, q2, q3, q4, q5, q6, q7, q8⟩ := disp_pps C k (pos := dp) hd e
    have hks : ks ≠ [] := fun z => h0 (List.eq_nil_of_length_eq_zero (by rw [← q5, z]; rfl))
    refine pe_imp (pe_dget2 (by have := C.un; omega) (pe_disp q1 q3 q4 hks (by rw [q5]; exact h15)) (ha env) (hb (R.env (evE G io a env) env)) m) fun σ H Q h => ?_
    have h' : tE X G P W env (two (evE G io a) (evE G io d) fun x y env => liftO (dgetAt ps x y) env) σ H Q := by
      obtain ⟨F, S, ok, er, q⟩ := h
      refine ⟨F, S, ok, er, ?_⟩
      simp only [evE, ev, Ev.of, e] at q
      exact q
    have hm : mergeK [] (kvs_of ps) = kvs_of ps := by
      rw [merge_nodup _ [] ?_, List.nil_append]
      rw [List.nil_append, List.map_map]
      have : ((ps.map (·.1)).map (Sum.inr : Str → Key)).Nodup := by
        unfold List.Nodup
        rw [List.pairwise_map]
        exact List.Pairwise.imp (fun hne e => hne (Sum.inr.inj e)) q8
      rw [List.map_map] at this
      exact this
    intro p hp
    refine q2 _ _ _ ⟨upd_same, kvs_of ps, by rw [List.map_map]; rfl, by rw [List.length_map, q6]; exact h15, ?_⟩
    rw [hm, show upd (upd H p (HO.dK [])) p (HO.dK (kvs_of ps)) = upd H p (HO.dK (kvs_of ps)) from funext fun b => by by_cases hb : b = p <;> simp [upd, hb]]
    refine ⟨p, rfl, .inl ⟨_, .inl upd_same⟩, ?_⟩
    refine tE_mono (MidK.next (m := evE G io a) (post := fun F0 H0 S0 r => PostE X G P W σ F0 H0 S0 r Q) pstE (Mid.lay hp (Mid.ofE h'))) fun v H1 ⟨x, env1, e1, M1⟩ => ?_
    rw [show R.env (evE G io a env) env = env1 by rw [show evE G io a env = _ from e1]; rfl]
    refine tE_mono (MidK.next (m := evE G io d) (post := fun F0 H0 S0 r => PostE X G P W σ F0 H0 S0 r Q) pstE M1) fun w H2 ⟨y, env2, e2, M2⟩ => ?_
    obtain ⟨hpo, M⟩ := M2.mid
    cases q1' : res env2 x with
    | none => simp only [q1'] at M; exact (M.no fun F H S z => z).elim
    | some x' =>
      cases q2' : res env2 y with
      | none => simp only [q1', q2'] at M; exact (M.no fun F H S z => z).elim
      | some y' =>
        cases q3' : dgetAt ps x' y' with
        | none => simp only [q1', q2', q3', liftO] at M; exact (M.no fun F H S z => z).elim
        | some r =>
          simp only [q1', q2', q3', liftO] at M
          obtain ⟨F, sb, rc, op⟩ := M.op (resL2 q1' q2')
          obtain ⟨w', v', ee, r1, r2⟩ := rcl2 rc
          cases ee
          unfold dgetAt at q3'
          cases x' <;> cases y' <;> simp only at q3' <;> first | (cases q3'; done) | skip
          rename_i z t
          cases q3'
          have ev := rc_str r2
          have ew := rc_str r1
          subst ev ew
          refine ⟨valV (kvs_of ps) (Sum.inr z), DGet.k (k := Sum.inr z) hpo, ?_⟩
          rw [val_find]
          cases ef : ps.find? fun p => decide (p.1 = z) with
          | none => rw [ef] at op; exact op.scalar sb ⟨rfl, rc_strOk r1⟩
          | some p => rw [ef] at op; exact op.scalar sb ⟨rfl, q7 p (List.mem_of_find?_eq_some ef)⟩
end
end DD

set_option Elab.async false
set_option linter.all false
set_option maxRecDepth 100000
set_option maxHeartbeats 4000000
namespace DD
open PySem PySem.Spec PyProof.Rows L2
/-! ### sets of ints and texts, then in order -/
/-- which key a value is -/
def kOf (v : Value) : Key := match v with
  | .int k _ => .inl k
  | .str x _ => .inr x
  | _ => .inl 0
def memK (j : Key) (ns : List Key) : Bool := ns.any fun k => decide (j = k)
theorem memK_iff {j : Key} {ns : List Key} : memK j ns = true ↔ j ∈ ns := by
  unfold memK
  rw [List.any_eq_true]
  constructor
  · rintro ⟨k, hk, e⟩
    rw [decide_eq_true_eq] at e
    rw [e]; exact hk
  · intro h
    exact ⟨j, h, decide_eq_true rfl⟩
theorem memK_snoc {j z : Key} {ns : List Key} : memK j (ns ++ [z]) = (memK j ns || decide (j = z)) := by
  unfold memK
  rw [List.any_append]
  simp
theorem vals_at {vs : List V} {us : List Value} (h : Vals vs us) : ∀ {i : Nat} {v : V} {u : Value}, vs[i]? = some v → us[i]? = some u → RelV v u := by
  induction h with
  | nil => intro i v u e _; simp at e
  | cons r h ih =>
    intro i v u e e'
    cases i with
    | zero => simp at e e'; subst e e'; exact r
    | succ i => exact ih (by simpa using e) (by simpa using e')
section
variable {P : Program} {w : World}
abbrev isK (P : Program) (w : World) (k : Key) (v : Value) : Bool := (mixKind P w).is k v
def GdE (P : Program) (w : World) (e : Int × Value) : Prop := isK P w (kOf e.2) e.2 = true ∧ e.1 = (mixKind P w).hash (kOf e.2) ∧ e.2.scannable = true
theorem kOf_rel {k : Key} {v : Value} (r : RelV (kV k) v) : kOf v = k ∧ isK P w k v = true := by
  refine ⟨?_, kV_is r⟩
  cases k <;> (obtain ⟨t, rfl⟩ := r) <;> rfl
/-- the set at a: S its members; its table can be walked -/
def SetM (P : Program) (w : World) (h : Heap) (a : Addr) (S : Key → Bool) (n : Nat) : Prop :=
  ∃ o es ep t, h.get? a = some o ∧ o.ExactSet ∧ o.data = .set es ep t ∧ (∀ e ∈ es.toList, GdE P w e) ∧ (es.toList.map fun e => kOf e.2).Nodup ∧ (∀ k, S k = true ↔ k ∈ es.toList.map fun e => kOf e.2) ∧
    es.size < scanBound ∧ t.fits es.size = true ∧ es.size = n ∧ Ris t.place.toList ∧ (w.params.followText "set-order" = true ∨ t.led = true)
theorem SetM.at {h h' : Heap} {a : Addr} {S : Key → Bool} {n : Nat} (R : SetM P w h a S n) (k : ∀ o, h.get? a = some o → h'.get? a = some o) : SetM P w h' a S n := by
  obtain ⟨o, es, ep, t, ho, r⟩ := R
  exact ⟨o, es, ep, t, k o ho, r⟩
theorem SetM.congr {h : Heap} {a : Addr} {S S' : Key → Bool} {n : Nat} (R : SetM P w h a S n) (e : ∀ k, S' k = S k) : SetM P w h a S' n := by
  rw [show S' = S from funext e]; exact R
theorem gd_elems {l : List (Int × Value)} (g : ∀ e ∈ l, GdE P w e) : ElemsOf (mixKind P w) l := fun e he => ⟨⟨_, (g e he).1, (g e he).2.1⟩, (g e he).2.2⟩
theorem gd_mem {l : List (Int × Value)} (g : ∀ e ∈ l, GdE P w e) (k : Key) : k ∈ (l.map fun e => kOf e.2) ↔ ∃ e ∈ l, isK P w k e.2 = true := by
  rw [List.mem_map]
  constructor
  · rintro ⟨e, he, rfl⟩
    exact ⟨e, he, (g e he).1⟩
  · rintro ⟨e, he, q⟩
    exact ⟨e, he, (mixKind P w).inj _ _ _ (g e he).1 q⟩
variable {A : Around} {E : Value → Shared → Prop} {s : Shared} {a : Addr} {S : Key → Bool} {n : Nat}
theorem setM_tail {g : Bool → Sem Unit} (hg : ∀ (b : Bool) (s₁ : Shared) (Q' : Unit → Shared → Prop), Q' () s₁ → wpAny (model P w) A (g b) Q' E s₁)
    {o : Obj} {es : Array (Int × Value)} {ep : Nat} {t : SetTable} (ho : s.heap.get? a = some o) (hex : o.ExactSet) (hd : o.data = .set es ep t)
    {es1 : Array (Int × Value)} {t2 : SetTable} {S' : Key → Bool} (g1 : ∀ e ∈ es1.toList, GdE P w e) (nd1 : (es1.toList.map fun e => kOf e.2).Nodup) (m1 : ∀ k, S' k = true ↔ k ∈ es1.toList.map fun e => kOf e.2)
    (hb1 : es1.size < scanBound) (hf2 : t2.fits es1.size = true) (hr : Ris t2.place.toList) (hl : w.params.followText "set-order" = true ∨ t2.led = true) {wasDummy : Bool} {R : Option Bool → Shared → Prop}
    (hR : ∀ h', Heap.SameBut a s.heap h' → SetM P w h' a S' es1.size → R (some true) { s with heap := h' }) :
    wpAny (model P w) A (do
        storeSet a es1 t2
        if (!wasDummy && t2.tooFull) = true then do
            g (relayAll t2 es1 (SetTable.grown es1.size)).2.2
            storeSet a (relayAll t2 es1 (SetTable.grown es1.size)).1 (relayAll t2 es1 (SetTable.grown es1.size)).2.1
            pure (some true)
          else pure (some true)) R E s := by
  refine wpAny_bind (wpAny_storeSet_of ho hd ?_ (fits_of_scanBound hb1))
  have ho1 := store_at (es' := es1) (t' := t2) ho hd
  have sb1 := Heap.SameBut.update s.heap a (Obj.putSet es1 t2)
  split
  · have pm := relayAll_perm t2 es1 (SetTable.grown es1.size)
    have hf3 := relayAll_fits t2 es1 (SetTable.grown es1.size)
    have hr3 := relayAll_ris t2 es1 (SetTable.grown es1.size)
    have hl3 := relayAll_led t2 es1 (SetTable.grown es1.size)
    generalize relayAll t2 es1 (SetTable.grown es1.size) = Z at pm hf3 hr3 hl3 ⊢
    obtain ⟨es2, t3, gave⟩ := Z
    dsimp only at pm hf3 hr3 hl3 ⊢
    have hsz : es2.size = es1.size := by rw [← Array.length_toList, pm.length_eq, Array.length_toList]
    have hb2 : es2.size < scanBound := by rw [hsz]; exact hb1
    refine wpAny_bind (hg _ _ _ ?_)
    refine wpAny_bind (wpAny_storeSet_of ho1 rfl ?_ (fits_of_scanBound hb2))
    have ho2 := store_at (es' := es2) (t' := t3) ho1 rfl
    have pk := pm.map fun e : Int × Value => kOf e.2
    exact wpAny_pure (hR _ (sb1.trans (Heap.SameBut.update _ a _)) ⟨_, es2, _, t3, ho2, hex, rfl, fun e he => g1 e (pm.mem_iff.mp he), pk.nodup_iff.mpr nd1, fun k => (m1 k).trans pk.mem_iff.symm, hb2, hf3, hsz, hr3, hl.imp id fun z => by rw [hl3]; exact z⟩)
  · exact wpAny_pure (hR _ sb1 ⟨_, es1, _, t2, ho1, hex, rfl, g1, nd1, m1, hb1, hf2, rfl, hr, hl⟩)
/-- one more -/
theorem setM_add {k : Key} {v : Value} {Q : Bool → Shared → Prop} (rv : RelV (kV k) v) (R : SetM P w s.heap a S n) (room : n + 1 < scanBound)
    (hQ : ∀ h', Heap.SameBut a s.heap h' → SetM P w h' a (fun j => S j || decide (j = k)) (if S k = true then n else n + 1) → Q (!S k) { s with heap := h' }) :
    wpAny (model P w) A (setAddHashed a v ((mixKind P w).hash k)) Q E s := by
  obtain ⟨o, es, ep, t, ho, hex, hd, g, nd, hm, hb, hf, hn, hr, hl⟩ := R
  obtain ⟨hkv, hkey⟩ := kOf_rel (P := P) (w := w) rv
  have hsc : v.scannable = true := key_scan rv
  have hel : ElemsOf (mixKind P w) es.toList := gd_elems g
  unfold setAddHashed setAddHashedIn
  refine wpAny_holding (wpAny_bind (wpAny_setState_of ho hd hf ?_))
  dsimp only
  rw [byScan_of hsc hb hel]
  simp only [↓reduceIte]
  unfold setAddByScan
  refine wpAny_bind ?_
  refine wpAny_bind (wpAny_rule ?_)
  refine wpAny_bind (wpAny_setScan_of hkey ho hd hf hel ?_)
  cases hfi : List.findIdx? (fun e => (mixKind P w).is k e.2) es.toList with
  | some j =>
    dsimp only
    obtain ⟨hj, pj, _⟩ := List.findIdx?_eq_some_iff_getElem.mp hfi
    have hSk : S k = true := (hm k).2 ((gd_mem (P := P) (w := w) g k).2 ⟨es.toList[j], List.getElem_mem hj, pj⟩)
    refine wpAny_pure (wpAny_pure ?_)
    have q := hQ s.heap (Heap.SameBut.refl a s.heap) ⟨o, es, ep, t, ho, hex, hd, g, nd, fun i => by
      rw [Bool.or_eq_true, decide_eq_true_eq, ← hm i]
      exact ⟨fun z => z.elim id (fun e => e ▸ hSk), .inl⟩, hb, hf, by rw [if_pos hSk]; exact hn, hr, hl⟩
    rw [hSk] at q
    exact q
  | none =>
    dsimp only
    have hnk : k ∉ es.toList.map fun e => kOf e.2 := fun z => by
      obtain ⟨e, he, q⟩ := (gd_mem (P := P) (w := w) g k).1 z
      have c := List.findIdx?_eq_none_iff.mp hfi e he
      rw [show (mixKind P w).is k e.2 = true from q] at c
      cases c
    have hSk : S k = false := by
      cases q : S k with
      | false => rfl
      | true => exact absurd ((hm k).1 q) hnk
    have hgw : ∀ (b : Bool) {s₁ : Shared} {Q' : Unit → Shared → Prop}, Q' () s₁ → wpAny (model P w) A (match b with | true => rule "set.scan.the-table-gave-way" | false => pure ()) Q' E s₁ :=
      fun b s₁ Q' q => by cases b <;> first | exact wpAny_pure q | exact wpAny_rule q
    have pm := layNew_perm t es ((mixKind P w).hash k) v
    have hf1 := layNew_fits t es ((mixKind P w).hash k) v
    have hr1 := layNew_ris t es ((mixKind P w).hash k) v hr
    have hl1 := layNew_led t es ((mixKind P w).hash k) v
    generalize layNew t es ((mixKind P w).hash k) v = Z at pm hf1 hr1 hl1 ⊢
    obtain ⟨es1, t1, wasDummy, gave⟩ := Z
    dsimp only at pm hf1 hr1 hl1 ⊢
    rw [Array.toList_push] at pm
    have pc : es1.toList.Perm (((mixKind P w).hash k, v) :: es.toList) := pm.trans (List.perm_append_singleton _ _)
    have pk : (es1.toList.map fun e => kOf e.2).Perm (k :: es.toList.map fun e => kOf e.2) := by
      have := pc.map fun e : Int × Value => kOf e.2
      rw [List.map_cons, hkv] at this
      exact this
    have g1 : ∀ e ∈ es1.toList, GdE P w e := fun e he => by
      rcases List.mem_cons.mp (pc.mem_iff.mp he) with z | z
      · rw [z]; exact ⟨by rw [hkv]; exact hkey, by rw [hkv], hsc⟩
      · exact g e z
    have nd1 := pk.nodup_iff.mpr (List.nodup_cons.mpr ⟨hnk, nd⟩)
    have m1 : ∀ i, (S i || decide (i = k)) = true ↔ i ∈ es1.toList.map fun e => kOf e.2 := fun i => by
      rw [Bool.or_eq_true, decide_eq_true_eq, hm i, pk.mem_iff, List.mem_cons]
      exact Or.comm
    have hsz : es1.size = n + 1 := by rw [← Array.length_toList, pc.length_eq, List.length_cons, Array.length_toList, hn]
    have hb1 : es1.size < scanBound := by rw [hsz]; exact room
    have hled : w.params.followText "set-order" = true ∨ t1.led = true := hl.imp id fun z => by rw [hl1]; exact z
    have fin : ∀ h', Heap.SameBut a s.heap h' → SetM P w h' a (fun j => S j || decide (j = k)) es1.size → Q true { s with heap := h' } := fun h' sb r => by
      have q := hQ h' sb
      rw [hSk] at q
      rw [hsz] at r
      exact q r
    refine wpAny_bind (hgw _ ?_)
    split
    · refine wpAny_bind ?_
      rw [hashByValue_scannable 8 hsc]
      refine wpAny_pure ?_
      refine setM_tail ?_ ho hex hd g1 nd1 m1 hb1 ?_ ?_ ?_ ?_
      · intro b s₁ Q' q; cases b <;> first | exact wpAny_pure q | exact wpAny_rule q
      · first | (split <;> first | exact hf1 | exact SetTable.fits_plain_off hf1) | exact hf1
      · first | (split <;> exact hr1) | exact hr1
      · first | (split <;> exact hled) | exact hled
      · intro h' sb r; dsimp only; exact wpAny_pure (fin h' sb r)
    · refine wpAny_bind (wpAny_pure ?_)
      simp only [↓reduceIte]
      refine setM_tail ?_ ho hex hd g1 nd1 m1 hb1 hf1 hr1 hled ?_
      · intro b s₁ Q' q; cases b <;> first | exact wpAny_pure q | exact wpAny_rule q
      · intro h' sb r; dsimp only; exact wpAny_pure (fin h' sb r)
theorem setM_fresh {h : Heap} {ns : List Key} (ho : h.get? a = some { cls := .type "set", dict := none, data := .set #[] 0 (.fresh 0 0 (!w.params.followText "set-order")) }) : SetM P w h a (fun j => memK j (ns.take 0)) 0 :=
  ⟨_, #[], 0, _, ho, ⟨rfl, rfl, rfl⟩, rfl, (fun e he => by simp at he), (by simp), (fun k => by simp [memK]), (by decide), (by rfl), rfl, List.Pairwise.nil, by
    show _ ∨ (!w.params.followText "set-order") = true
    cases w.params.followText "set-order"
    · exact .inr rfl
    · exact .inl rfl⟩
theorem setM_update {I : Addr} {fp wr : List Addr} {G : Array GenState → Array GenState → Prop} {n : Nat} {Pv : Nat → Value → Prop} {St : Nat → Shared → Prop} {R : Result → Shared → Prop}
    (W : WalksS P w A.in1 I fp wr G n Pv St) (S : Addr) (hSf : S ∉ fp) (ns : List Key) (hn : n = ns.length) (hb : ns.length + 1 < scanBound) (hval : ∀ i v, Pv i v → ∃ k, ns[i]? = some k ∧ RelV (kV k) v) :
    ∀ (k i : Nat) (s : Shared), n - i = k → i ≤ n → St i s → (∃ c, c ≤ i ∧ SetM P w s.heap S (fun j => memK j (ns.take i)) c) →
      (∀ s' c, Moved (S :: wr) G s s' → c ≤ n → SetM P w s'.heap S (fun j => memK j (ns)) c → R (.ok (.ret .none)) s') →
      codeAny (model P w) A (.builtin "set.update.loop" ⟨[.ref S, .ref I], []⟩) R s := by
  have hSw : S ∉ wr := fun h => hSf (W.sub _ h)
  have hsub : ∀ b ∈ wr, b ∈ S :: wr := fun b hb => List.mem_cons_of_mem _ hb
  intro k
  induction k with
  | zero =>
    intro i s hk' hi hst ⟨c, hc, hS⟩ hR
    have hin : i = n := by omega
    subst hin
    refine codeAny_builtin F.entry_set_update_loop ?_
    rw [Around.under_plainId F.plain_set_update_loop _]
    show wpAny _ A.in1 (pyNext (.ref I) >>= _) _ _ s
    refine wpAny_bind (W.done s _ _ hst fun s' hm => ?_)
    show wpAny _ A.in1 (ret Value.none) _ _ s'
    have e : ns.take i = ns := List.take_of_length_le (by omega)
    rw [e] at hS
    exact wpAny_pure (hR s' c (hm.mono hsub) hc (hS.at fun o e => hm.heap S o hSw e))
  | succ k ih =>
    intro i s hk' hi hst ⟨c, hc, hS⟩ hR
    have hlt : i < n := by omega
    refine codeAny_builtin F.entry_set_update_loop ?_
    rw [Around.under_plainId F.plain_set_update_loop _]
    show wpAny _ A.in1 (pyNext (.ref I) >>= _) _ _ s
    refine wpAny_bind (W.item i s _ _ hlt hst fun v s' hP hst' hm => ?_)
    obtain ⟨z, hz, rz⟩ := hval i v hP
    have hS' : SetM P w s'.heap S (fun j => memK j (ns.take i)) c := hS.at fun o e => hm.heap S o hSw e
    show wpAny _ A.in1 (holding [v] (setAdd S v) >>= _) _ _ s'
    refine wpAny_bind (wpAny_holding ?_)
    unfold setAdd
    refine wpAny_holding ?_
    refine wpAny_bind ((mixKind P w).pyHash (k := z) (kV_is rz) ?_)
    refine setM_add (s := { s' with toks := s'.toks + 1 }) rz hS' (by omega) fun h' hsb hS2 => ?_
    have hS3 : SetM P w h' S (fun j => memK j (ns.take (i + 1))) (if memK z (ns.take i) = true then c else c + 1) := hS2.congr fun j => by
      rw [List.take_add_one, hz]
      exact memK_snoc
    have hc3 : (if memK z (ns.take i) = true then c else c + 1) ≤ i + 1 := by
      split <;> omega
    refine wpAny_pure ⟨plainId_quiet F.plain_set_update_loop _, ih (i + 1) _ (by omega) hlt (W.frame _ s' _ _ hst' (Nat.le_succ _) fun b hb o e => ?_) ⟨_, hc3, hS3⟩ fun s'' c2 hm'' hc'' hS'' => ?_⟩
    · rw [hsb.2 b (fun h : b = S => hSf (by rw [← h]; exact hb))]; exact e
    · refine hR s'' c2 (Moved.trans W.gtrans ((hm.mono hsub).then_heap (Nat.le_succ _) fun b o hb e => ?_) hm'') hc'' hS''
      rw [hsb.2 b (fun h : b = S => hb (by rw [h]; exact List.mem_cons_self))]; exact e
/-- set(t) of a tuple -/
theorem setM_tup {l : Addr} {items : Array Value} (ns : List Key) {Q : Value → Shared → Prop} (hh : A.handled = none) (hl : s.heap.IsTuple l items) (hit : Vals (ns.map kV) items.toList) (hb : ns.length + 1 < scanBound)
    (h : ∀ (h' : Heap) (tk c : Nat), SetM P w h' s.heap.objs.size (fun j => memK j (ns)) c → c ≤ ns.length → (∀ b o, s.heap.get? b = some o → h'.get? b = some o) → Q (.ref s.heap.objs.size) { s with heap := h', toks := tk }) :
    wpAny (model P w) A (call (.type "set") [.ref l]) Q E s := by
  have hisz : items.size = ns.length := by
    have q := hit.length
    rw [List.length_map, Array.length_toList] at q
    exact q.symm
  obtain ⟨c, tl, hmro⟩ := F.called_set.mro
  have hmade := F.called_set.made
  have hsub := F.called_set.sub
  refine wpAny_call (codeAny_of_tree ?_)
  show wpAny _ _ (callAny (.type "set") _) _ _ _
  refine wpAny_pure ⟨Code.quiet_builtin _ (by decide +kernel), codeAny_builtin F.entry_type_call ?_⟩
  rw [Around.under_plain (weight_type_call_type "set" [.ref l] []) rfl]
  have h1 := F.called_set.notType
  have h2 := F.called_set.canCreate
  have hct := F.typeCall_set_1 (.ref l)
  repeat (any_goals (first | assumption | wp_step))
  refine codeAny_mono (code_set_led1 (.ref l) (E := E) (Q₁ := fun obj s₁ => obj = .ref s.heap.objs.size ∧ s₁ = { s with heap := s.heap.push { cls := .type "set", dict := none, data := .set #[] 0 (.fresh 0 0 (!w.params.followText "set-order")) } }) ⟨rfl, rfl⟩) fun r s₁ hr => ?_
  cases r with
  | error e => exact hr
  | ok fl =>
    cases fl with
    | ret obj =>
      obtain ⟨rfl, rfl⟩ := hr
      have hS : (s.heap.push { cls := .type "set", dict := none, data := .set #[] 0 (.fresh 0 0 (!w.params.followText "set-order")) }).get? s.heap.objs.size = some { cls := .type "set", dict := none, data := .set #[] 0 (.fresh 0 0 (!w.params.followText "set-order")) } := Heap.get?_push_size _ rfl
      have hT : Shared.TypeIs { s with heap := s.heap.push { cls := .type "set", dict := none, data := .set #[] 0 (.fresh 0 0 (!w.params.followText "set-order")) } } (.ref s.heap.objs.size) "set" := ⟨_, hS, rfl⟩
      have hli := F.called_set.init.lookup
      have hbi := F.called_set.init.bind (.ref s.heap.objs.size)
      repeat (any_goals (first | assumption | wp_step))
      refine codeAny_mono (codeAny_call_builtin (R := wants (fun r s₂ => r = .none ∧ ∃ h' tk c, s₂ = { s with heap := h', toks := tk } ∧ SetM P w h' s.heap.objs.size (fun j => memK j (ns)) c ∧ c ≤ ns.length ∧
          (∀ b o, s.heap.get? b = some o → h'.get? b = some o)) E) F.called_set.init.plain F.entry_set_init (check_set_init_1 hT ?_)) fun r₂ s₂ hr₂ => ?_
      · obtain ⟨ol, hol, hcl, nl, hdl⟩ := hl
        obtain ⟨ocls, odict, odata, oslots⟩ := ol
        simp only at hcl hdl
        subst hcl; subst hdl
        have hol' : (s.heap.push { cls := .type "set", dict := none, data := .set #[] 0 (.fresh 0 0 (!w.params.followText "set-order")) }).get? l = some { cls := .type "tuple", dict := odict, data := .seq items nl, slots := oslots } := Heap.get?_push_of_some _ hol
        have hsls := F.sub_tuple_set
        have hslf := F.sub_tuple_frozenset
        have hne : (Value.type "tuple" == Value.type "dict") = false := by decide
        have hl1 : (s.heap.push { cls := .type "set", dict := none, data := .set #[] 0 (.fresh 0 0 (!w.params.followText "set-order")) }).IsTuple l items := ⟨_, hol', rfl, nl, rfl⟩
        unfold Builtin.«set.__init__» noKeywords Builtin.Frozenset.updateFrom
        generalize hPI : pyIter = PI
        wp_walk
        subst hPI
        refine wpAny_pyIter_tuple hl1 ?_
        refine wpAny_bind (wpAny_runValue ?_)
        have hlS : l < s.heap.objs.size := Heap.lt_size hol
        have hh3 : A.in1.in1.in1.handled = none := by simp [hh]
        have hneI : l ≠ (s.heap.push { cls := .type "set", dict := none, data := .set #[] 0 (.fresh 0 0 (!w.params.followText "set-order")) }).objs.size := by
          rw [Heap.size_push]; exact Nat.ne_of_lt (Nat.lt_succ_of_lt hlS)
        have hSf : s.heap.objs.size ∉ [(s.heap.push { cls := .type "set", dict := none, data := .set #[] 0 (.fresh 0 0 (!w.params.followText "set-order")) }).objs.size, l] := by
          rw [Heap.size_push]; simp only [List.mem_cons, List.mem_singleton, List.not_mem_nil, or_false, not_or]
          exact ⟨Nat.ne_of_lt (Nat.lt_succ_self _), Nat.ne_of_gt hlS⟩
        have hval : ∀ (i : Nat) (v : Value), items[i]? = some v → ∃ k, ns[i]? = some k ∧ RelV (kV k) v := fun i v hv => by
          have hi : i < ns.length := by rw [← hisz]; exact (Array.getElem?_eq_some_iff.mp hv).1
          refine ⟨ns[i], List.getElem?_eq_getElem hi, ?_⟩
          exact vals_at hit (i := i) (by rw [List.getElem?_map, List.getElem?_eq_getElem hi]; rfl) (by rw [Array.getElem?_toList]; exact hv)
        refine setM_update ((Walks.tuple hh3 _ l hneI items).toS) s.heap.objs.size
          hSf ns hisz hb hval (items.size - 0) 0 _ (by omega) (Nat.zero_le _)
          ⟨⟨_, Heap.get?_push_size _ rfl, rfl, rfl⟩, (hl1.push _)⟩ ?hS0 ?hR
        case hS0 =>
          have hget : ((s.heap.push { cls := .type "set", dict := none, data := .set #[] 0 (.fresh 0 0 (!w.params.followText "set-order")) }).push { cls := .type "tuple_iterator", data := .fields #[.ref l, .int 0 0] }).get? s.heap.objs.size
              = some { cls := .type "set", dict := none, data := .set #[] 0 (.fresh 0 0 (!w.params.followText "set-order")) } := Heap.get?_push_of_some _ hS
          exact ⟨0, Nat.le_refl 0, setM_fresh hget⟩
        case hR =>
          intro s' c' hm hc' hS'
          obtain ⟨h', g2, d', tk', os'⟩ := s'
          have eg : g2 = s.gens := hm.gens
          have ed : d' = s.drawn := hm.drawn
          have eo : os' = s.os := hm.os
          subst eg; subst ed; subst eo
          show wpAny _ _ _ _ _ _
          refine wpAny_pure ?_
          show wpAny _ _ (ret Value.none) _ _ _
          rw [hisz] at hc'
          refine wpAny_pure ⟨rfl, h', tk', c', rfl, hS', hc', fun b o e => ?_⟩
          have hb0 : b < s.heap.objs.size := Heap.lt_size e
          have hb1 : b ≠ s.heap.objs.size := Nat.ne_of_lt hb0
          have hb2 : b ≠ (s.heap.push { cls := .type "set", dict := none, data := .set #[] 0 (.fresh 0 0 (!w.params.followText "set-order")) }).objs.size := by
            rw [Heap.size_push]; exact Nat.ne_of_lt (Nat.lt_succ_of_lt hb0)
          exact hm.heap b o (by simp only [List.mem_cons, List.mem_singleton, List.not_mem_nil, or_false, not_or]; exact ⟨hb1, hb2⟩) (Heap.get?_push_of_some _ (Heap.get?_push_of_some _ e))
      · cases r₂ with
        | error e => exact hr₂
        | ok fl₂ =>
          cases fl₂ with
          | ret r =>
            obtain ⟨rfl, h', tk, c', rfl, hS', hc', hk'⟩ := hr₂
            repeat (any_goals (first | assumption | wp_step))
            exact h _ _ _ hS' hc' hk'
          | _ => exact hr₂.elim
    | _ => exact hr.elim
/-- sorted(..) of a set of texts -/
theorem sortedM {ks : List Str} {Q : Value → Shared → Prop} (R : SetM P w s.heap a (fun j => memK j (ks.map Sum.inr)) n) (hh : A.handled = none) (h64 : n < 64)
    (hQ : ∀ s' p (out : Array Value) (c : Nat) (ys : List Str), (∀ b o, s.heap.get? b = some o → s'.heap.get? b = some o) → s'.gens = s.gens → s'.os = s.os → s.heap.objs.size ≤ p →
      s'.heap.get? p = some (seqObj "list" out c) → StrsAre out.toList ys → sortedS ys = true → ys.Nodup → (∀ k, k ∈ ys ↔ k ∈ ks) → ys.length = n → Q (.ref p) s') :
    wpAny (model P w) A (call (.builtin "sorted") [.ref a]) Q E s := by
  obtain ⟨o, es, ep, t, ho, hex, hd, g, nd, hm, hb, hf, hn, hr, hl⟩ := R
  refine Calls.call_function_entry kind_sorted plain_sorted entry_sorted (args_sorted1 _) ?_
  unfold Builtin.«sorted»
  refine wpAny_bind (m := checkCount "sorted" 1 1 _) (wpAny_pure ?_)
  refine wpAny_bind (collect_set (A := A.in1) hh ⟨o, ho, hex.1, hd⟩ hf hb hr hl fun s1 vs k1 hz g1 o1 pm => ?_)
  have hvl : vs.length = n := by rw [pm.length_eq, List.length_map, Array.length_toList]; exact hn
  have pk : (vs.map kOf).Perm (es.toList.map fun e => kOf e.2) := by
    have q := pm.map kOf
    rw [List.map_map] at q
    exact q
  have all : ∀ v ∈ vs, ∃ x tk, v = Value.str x tk := fun v hv => by
    obtain ⟨e, he, q⟩ := List.mem_map.mp (pm.mem_iff.mp hv)
    have h1 := (hm (kOf e.2)).2 (List.mem_map_of_mem he)
    have h1 := memK_iff.mp h1
    obtain ⟨x, _, hx⟩ := List.mem_map.mp h1
    have h2 := (g e he).1
    rw [← hx] at h2
    rw [← q]
    exact ⟨x, Value.isStrOf_shape (show Value.isStrOf x e.2 = true from h2)⟩
  have hS : StrsAre vs (vs.map strOf) := by
    clear pk hvl pm
    induction vs with
    | nil => exact .nil
    | cons v vs ih =>
      obtain ⟨x, tk, rfl⟩ := all v List.mem_cons_self
      exact .cons x tk (ih fun u hu => all u (List.mem_cons_of_mem _ hu))
  have pks : (vs.map strOf).map Sum.inr = vs.map kOf := by
    rw [List.map_map]
    refine List.map_congr_left fun v hv => ?_
    obtain ⟨x, tk, rfl⟩ := all v hv
    rfl
  refine wpAny_bind (wpAny_newList ?_ (by rw [hvl, sizeLine_eq]; omega))
  have hoL : (s1.heap.push (seqObj "list" vs.toArray 0)).get? s1.heap.objs.size = some (seqObj "list" vs.toArray 0) := Heap.get?_push_size _ rfl
  refine wpAny_bind (wpAny_holding (wpAny_call_entry slot_list_sort ⟨_, hoL, rfl⟩ entry_list_sort
    (list_sort_treeK strKind_oneLt (s := { s1 with heap := s1.heap.push (seqObj "list" vs.toArray 0) }) hoL hS.keysOf (fun v₁ v₂ rest e => keyKind_strs (by rw [← e]; exact hS)) (by rw [hvl]; exact h64) fun st' hp hs => ⟨_, rfl, ?_⟩)
    (args_list_sort _)))
  obtain ⟨ys, a1, a2, a3⟩ := sorted_out_str hS hp hs
  obtain ⟨c, hc⟩ := sortedHeap_at (vs := vs) (out := (arrOf st').map (·.2)) hoL
  have pn : (ys.map (Sum.inr : Str → Key)).Perm (es.toList.map fun e => kOf e.2) := by
    have q := (a2.map (Sum.inr : Str → Key)).trans (List.Perm.of_eq pks)
    exact q.trans pk
  have inj : ∀ x y : Str, (Sum.inr x : Key) = Sum.inr y → x = y := fun x y e => Sum.inr.inj e
  have ndy : ys.Nodup := by
    have q := pn.nodup_iff.mpr nd
    unfold List.Nodup at q ⊢
    rw [List.pairwise_map] at q
    exact q.imp fun h e => h (by rw [e])
  refine wpAny_pure ⟨_, rfl, hQ _ s1.heap.objs.size _ c ys (fun b u e => ?_) g1 o1 hz hc a1 a3 ndy (fun k => ?_) ?_⟩
  · have q := k1 b u e
    have hlt := Heap.lt_size q
    show (sortedHeap (s1.heap.push (seqObj "list" vs.toArray 0)) s1.heap.objs.size vs ((arrOf st').map (·.2))).get? b = some u
    rw [sortedHeap_old (Nat.ne_of_lt hlt) (by rw [size_push']; exact Nat.lt_succ_of_lt hlt)]
    exact Heap.get?_push_of_some _ q
  · have q := hm (Sum.inr k)
    rw [← pn.mem_iff] at q
    have q : Sum.inr k ∈ ks.map (Sum.inr : Str → Key) ↔ Sum.inr k ∈ ys.map (Sum.inr : Str → Key) := memK_iff.symm.trans q
    constructor
    · intro h
      obtain ⟨x, hx, e⟩ := List.mem_map.mp (q.2 (List.mem_map_of_mem h))
      rw [← inj _ _ e]; exact hx
    · intro h
      obtain ⟨x, hx, e⟩ := List.mem_map.mp (q.1 (List.mem_map_of_mem h))
      rw [← inj _ _ e]; exact hx
  · have := pn.length_eq
    rw [List.length_map, List.length_map] at this
    rw [this, Array.length_toList]
    exact hn
end
end DD

set_option Elab.async false
set_option linter.all false
set_option maxRecDepth 100000
set_option maxHeartbeats 4000000
namespace DD
open PySem PySem.Spec PyProof.Rows L2
/-! ### .. of lists, and of ints in order -/
section
variable {P : Program} {w : World} {A : Around} {E : Value → Shared → Prop} {s : Shared} {a : Addr} {n : Nat}
/-- set(t) of a list -/
theorem setM_list {l : Addr} {items : Array Value} (ns : List Key) {Q : Value → Shared → Prop} (hh : A.handled = none) (hl : s.heap.IsList l items) (hit : Vals (ns.map kV) items.toList) (hb : ns.length + 1 < scanBound)
    (h : ∀ (h' : Heap) (tk c : Nat), SetM P w h' s.heap.objs.size (fun j => memK j (ns)) c → c ≤ ns.length → (∀ b o, s.heap.get? b = some o → h'.get? b = some o) → Q (.ref s.heap.objs.size) { s with heap := h', toks := tk }) :
    wpAny (model P w) A (call (.type "set") [.ref l]) Q E s := by
  have hisz : items.size = ns.length := by
    have q := hit.length
    rw [List.length_map, Array.length_toList] at q
    exact q.symm
  obtain ⟨c, tl, hmro⟩ := F.called_set.mro
  have hmade := F.called_set.made
  have hsub := F.called_set.sub
  refine wpAny_call (codeAny_of_tree ?_)
  show wpAny _ _ (callAny (.type "set") _) _ _ _
  refine wpAny_pure ⟨Code.quiet_builtin _ (by decide +kernel), codeAny_builtin F.entry_type_call ?_⟩
  rw [Around.under_plain (weight_type_call_type "set" [.ref l] []) rfl]
  have h1 := F.called_set.notType
  have h2 := F.called_set.canCreate
  have hct := F.typeCall_set_1 (.ref l)
  repeat (any_goals (first | assumption | wp_step))
  refine codeAny_mono (code_set_led1 (.ref l) (E := E) (Q₁ := fun obj s₁ => obj = .ref s.heap.objs.size ∧ s₁ = { s with heap := s.heap.push { cls := .type "set", dict := none, data := .set #[] 0 (.fresh 0 0 (!w.params.followText "set-order")) } }) ⟨rfl, rfl⟩) fun r s₁ hr => ?_
  cases r with
  | error e => exact hr
  | ok fl =>
    cases fl with
    | ret obj =>
      obtain ⟨rfl, rfl⟩ := hr
      have hS : (s.heap.push { cls := .type "set", dict := none, data := .set #[] 0 (.fresh 0 0 (!w.params.followText "set-order")) }).get? s.heap.objs.size = some { cls := .type "set", dict := none, data := .set #[] 0 (.fresh 0 0 (!w.params.followText "set-order")) } := Heap.get?_push_size _ rfl
      have hT : Shared.TypeIs { s with heap := s.heap.push { cls := .type "set", dict := none, data := .set #[] 0 (.fresh 0 0 (!w.params.followText "set-order")) } } (.ref s.heap.objs.size) "set" := ⟨_, hS, rfl⟩
      have hli := F.called_set.init.lookup
      have hbi := F.called_set.init.bind (.ref s.heap.objs.size)
      repeat (any_goals (first | assumption | wp_step))
      refine codeAny_mono (codeAny_call_builtin (R := wants (fun r s₂ => r = .none ∧ ∃ h' tk c, s₂ = { s with heap := h', toks := tk } ∧ SetM P w h' s.heap.objs.size (fun j => memK j (ns)) c ∧ c ≤ ns.length ∧
          (∀ b o, s.heap.get? b = some o → h'.get? b = some o)) E) F.called_set.init.plain F.entry_set_init (check_set_init_1 hT ?_)) fun r₂ s₂ hr₂ => ?_
      · obtain ⟨ol, hol, hcl, nl, hdl⟩ := hl
        obtain ⟨ocls, odict, odata, oslots⟩ := ol
        simp only at hcl hdl
        subst hcl; subst hdl
        have hol' : (s.heap.push { cls := .type "set", dict := none, data := .set #[] 0 (.fresh 0 0 (!w.params.followText "set-order")) }).get? l = some { cls := .type "list", dict := odict, data := .seq items nl, slots := oslots } := Heap.get?_push_of_some _ hol
        have hsls := F.sub_list_set
        have hslf := F.sub_list_frozenset
        have hne : (Value.type "list" == Value.type "dict") = false := by decide
        have hl1 : (s.heap.push { cls := .type "set", dict := none, data := .set #[] 0 (.fresh 0 0 (!w.params.followText "set-order")) }).IsList l items := ⟨_, hol', rfl, nl, rfl⟩
        unfold Builtin.«set.__init__» noKeywords Builtin.Frozenset.updateFrom
        generalize hPI : pyIter = PI
        wp_walk
        subst hPI
        refine wpAny_pyIter_list hl1 ?_
        refine wpAny_bind (wpAny_runValue ?_)
        have hlS : l < s.heap.objs.size := Heap.lt_size hol
        have hh3 : A.in1.in1.in1.handled = none := by simp [hh]
        have hneI : l ≠ (s.heap.push { cls := .type "set", dict := none, data := .set #[] 0 (.fresh 0 0 (!w.params.followText "set-order")) }).objs.size := by
          rw [Heap.size_push]; exact Nat.ne_of_lt (Nat.lt_succ_of_lt hlS)
        have hSf : s.heap.objs.size ∉ [(s.heap.push { cls := .type "set", dict := none, data := .set #[] 0 (.fresh 0 0 (!w.params.followText "set-order")) }).objs.size, l] := by
          rw [Heap.size_push]; simp only [List.mem_cons, List.mem_singleton, List.not_mem_nil, or_false, not_or]
          exact ⟨Nat.ne_of_lt (Nat.lt_succ_self _), Nat.ne_of_gt hlS⟩
        have hval : ∀ (i : Nat) (v : Value), items[i]? = some v → ∃ k, ns[i]? = some k ∧ RelV (kV k) v := fun i v hv => by
          have hi : i < ns.length := by rw [← hisz]; exact (Array.getElem?_eq_some_iff.mp hv).1
          refine ⟨ns[i], List.getElem?_eq_getElem hi, ?_⟩
          exact vals_at hit (i := i) (by rw [List.getElem?_map, List.getElem?_eq_getElem hi]; rfl) (by rw [Array.getElem?_toList]; exact hv)
        refine setM_update ((Walks.list hh3 _ l hneI items).toS) s.heap.objs.size
          hSf ns hisz hb hval (items.size - 0) 0 _ (by omega) (Nat.zero_le _)
          ⟨⟨_, Heap.get?_push_size _ rfl, rfl, rfl⟩, (hl1.push _)⟩ ?hS0 ?hR
        case hS0 =>
          have hget : ((s.heap.push { cls := .type "set", dict := none, data := .set #[] 0 (.fresh 0 0 (!w.params.followText "set-order")) }).push { cls := .type "list_iterator", data := .fields #[.ref l, .int 0 0] }).get? s.heap.objs.size
              = some { cls := .type "set", dict := none, data := .set #[] 0 (.fresh 0 0 (!w.params.followText "set-order")) } := Heap.get?_push_of_some _ hS
          exact ⟨0, Nat.le_refl 0, setM_fresh hget⟩
        case hR =>
          intro s' c' hm hc' hS'
          obtain ⟨h', g2, d', tk', os'⟩ := s'
          have eg : g2 = s.gens := hm.gens
          have ed : d' = s.drawn := hm.drawn
          have eo : os' = s.os := hm.os
          subst eg; subst ed; subst eo
          show wpAny _ _ _ _ _ _
          refine wpAny_pure ?_
          show wpAny _ _ (ret Value.none) _ _ _
          rw [hisz] at hc'
          refine wpAny_pure ⟨rfl, h', tk', c', rfl, hS', hc', fun b o e => ?_⟩
          have hb0 : b < s.heap.objs.size := Heap.lt_size e
          have hb1 : b ≠ s.heap.objs.size := Nat.ne_of_lt hb0
          have hb2 : b ≠ (s.heap.push { cls := .type "set", dict := none, data := .set #[] 0 (.fresh 0 0 (!w.params.followText "set-order")) }).objs.size := by
            rw [Heap.size_push]; exact Nat.ne_of_lt (Nat.lt_succ_of_lt hb0)
          exact hm.heap b o (by simp only [List.mem_cons, List.mem_singleton, List.not_mem_nil, or_false, not_or]; exact ⟨hb1, hb2⟩) (Heap.get?_push_of_some _ (Heap.get?_push_of_some _ e))
      · cases r₂ with
        | error e => exact hr₂
        | ok fl₂ =>
          cases fl₂ with
          | ret r =>
            obtain ⟨rfl, h', tk, c', rfl, hS', hc', hk'⟩ := hr₂
            repeat (any_goals (first | assumption | wp_step))
            exact h _ _ _ hS' hc' hk'
          | _ => exact hr₂.elim
    | _ => exact hr.elim
/-- sorted(..) of a set of ints -/
theorem sortedMI {ks : List Int} {Q : Value → Shared → Prop} (R : SetM P w s.heap a (fun j => memK j (ks.map Sum.inl)) n) (hh : A.handled = none) (h64 : n < 64)
    (hQ : ∀ s' p (out : Array Value) (c : Nat) (ys : List Int), (∀ b o, s.heap.get? b = some o → s'.heap.get? b = some o) → s'.gens = s.gens → s'.os = s.os → s.heap.objs.size ≤ p →
      s'.heap.get? p = some (seqObj "list" out c) → IntsAre out.toList ys → ys.Pairwise (· ≤ ·) → ys.Nodup → (∀ k, k ∈ ys ↔ k ∈ ks) → ys.length = n → Q (.ref p) s') :
    wpAny (model P w) A (call (.builtin "sorted") [.ref a]) Q E s := by
  obtain ⟨o, es, ep, t, ho, hex, hd, g, nd, hm, hb, hf, hn, hr, hl⟩ := R
  refine Calls.call_function_entry kind_sorted plain_sorted entry_sorted (args_sorted1 _) ?_
  unfold Builtin.«sorted»
  refine wpAny_bind (m := checkCount "sorted" 1 1 _) (wpAny_pure ?_)
  refine wpAny_bind (collect_set (A := A.in1) hh ⟨o, ho, hex.1, hd⟩ hf hb hr hl fun s1 vs k1 hz g1 o1 pm => ?_)
  have hvl : vs.length = n := by rw [pm.length_eq, List.length_map, Array.length_toList]; exact hn
  have pk : (vs.map kOf).Perm (es.toList.map fun e => kOf e.2) := by
    have q := pm.map kOf
    rw [List.map_map] at q
    exact q
  have all : ∀ v ∈ vs, ∃ x tk, v = Value.int x tk := fun v hv => by
    obtain ⟨e, he, q⟩ := List.mem_map.mp (pm.mem_iff.mp hv)
    have h1 := (hm (kOf e.2)).2 (List.mem_map_of_mem he)
    have h1 := memK_iff.mp h1
    obtain ⟨x, _, hx⟩ := List.mem_map.mp h1
    have h2 := (g e he).1
    rw [← hx] at h2
    rw [← q]
    rcases keyIs_shape (show keyIs (Sum.inl x) e.2 = true from h2) with ⟨i, t, e1, e2⟩ | ⟨z, t, e1, e2⟩
    · have e3 : x = i := Sum.inl.inj e1
      subst e3
      exact ⟨x, t, e2⟩
    · exact nomatch e1
  have hS : IntsAre vs (vs.map numOf) := by
    clear pk hvl pm
    induction vs with
    | nil => exact .nil
    | cons v vs ih =>
      obtain ⟨x, tk, rfl⟩ := all v List.mem_cons_self
      exact .cons x tk (ih fun u hu => all u (List.mem_cons_of_mem _ hu))
  have pks : (vs.map numOf).map Sum.inl = vs.map kOf := by
    rw [List.map_map]
    refine List.map_congr_left fun v hv => ?_
    obtain ⟨x, tk, rfl⟩ := all v hv
    rfl
  refine wpAny_bind (wpAny_newList ?_ (by rw [hvl, sizeLine_eq]; omega))
  have hoL : (s1.heap.push (seqObj "list" vs.toArray 0)).get? s1.heap.objs.size = some (seqObj "list" vs.toArray 0) := Heap.get?_push_size _ rfl
  refine wpAny_bind (wpAny_holding (wpAny_call_entry slot_list_sort ⟨_, hoL, rfl⟩ entry_list_sort
    (list_sort_treeK intKind_oneLt (s := { s1 with heap := s1.heap.push (seqObj "list" vs.toArray 0) }) hoL hS.keysOfInt (fun v₁ v₂ rest e => keyKind_ints (by rw [← e]; exact hS)) (by rw [hvl]; exact h64) fun st' hp hs => ⟨_, rfl, ?_⟩)
    (args_list_sort _)))
  obtain ⟨ys, a1, a2, a3⟩ := sorted_out hS hp (sortedTo_of_int hs)
  obtain ⟨c, hc⟩ := sortedHeap_at (vs := vs) (out := (arrOf st').map (·.2)) hoL
  have pn : (ys.map (Sum.inl : Int → Key)).Perm (es.toList.map fun e => kOf e.2) := by
    have q := (a2.map (Sum.inl : Int → Key)).trans (List.Perm.of_eq pks)
    exact q.trans pk
  have inj : ∀ x y : Int, (Sum.inl x : Key) = Sum.inl y → x = y := fun x y e => Sum.inl.inj e
  have ndy : ys.Nodup := by
    have q := pn.nodup_iff.mpr nd
    unfold List.Nodup at q ⊢
    rw [List.pairwise_map] at q
    exact q.imp fun h e => h (by rw [e])
  refine wpAny_pure ⟨_, rfl, hQ _ s1.heap.objs.size _ c ys (fun b u e => ?_) g1 o1 hz hc a1 a3 ndy (fun k => ?_) ?_⟩
  · have q := k1 b u e
    have hlt := Heap.lt_size q
    show (sortedHeap (s1.heap.push (seqObj "list" vs.toArray 0)) s1.heap.objs.size vs ((arrOf st').map (·.2))).get? b = some u
    rw [sortedHeap_old (Nat.ne_of_lt hlt) (by rw [size_push']; exact Nat.lt_succ_of_lt hlt)]
    exact Heap.get?_push_of_some _ q
  · have q := hm (Sum.inl k)
    rw [← pn.mem_iff] at q
    have q : Sum.inl k ∈ ks.map (Sum.inl : Int → Key) ↔ Sum.inl k ∈ ys.map (Sum.inl : Int → Key) := memK_iff.symm.trans q
    constructor
    · intro h
      obtain ⟨x, hx, e⟩ := List.mem_map.mp (q.2 (List.mem_map_of_mem h))
      rw [← inj _ _ e]; exact hx
    · intro h
      obtain ⟨x, hx, e⟩ := List.mem_map.mp (q.1 (List.mem_map_of_mem h))
      rw [← inj _ _ e]; exact hx
  · have := pn.length_eq
    rw [List.length_map, List.length_map] at this
    rw [this, Array.length_toList]
    exact hn
end
end DD

set_option Elab.async false
set_option linter.all false
set_option maxRecDepth 100000
set_option maxHeartbeats 1000000
namespace DD
open PySem PySem.Spec PyProof.Rows L2
/-! ### rows of texts in order -/
abbrev ltS (a b : Str) : Prop := a.cps.toList < b.cps.toList
theorem str_ext {a b : Str} (h : a.cps.toList = b.cps.toList) : a = b := by
  obtain ⟨⟨x⟩⟩ := a
  obtain ⟨⟨y⟩⟩ := b
  have h' : x = y := h
  rw [h']
theorem ltS_trans {a b c : Str} (h : ltS a b) (h' : ltS b c) : ltS a c := List.lt_trans h h'
theorem ltS_irrefl (a : Str) : ¬ ltS a a := List.lt_irrefl _
theorem ltS_tri {a b : Str} (h : ¬ ltS a b) (h' : a ≠ b) : ltS b a := by
  have h1 : b.cps.toList ≤ a.cps.toList := List.not_lt.mp h
  cases Decidable.em (b.cps.toList < a.cps.toList) with
  | inl q => exact q
  | inr q =>
    have h2 : a.cps.toList ≤ b.cps.toList := List.not_lt.mp q
    exact (h' (str_ext (List.le_antisymm h2 h1))).elim
theorem mem_insS {x y : Str} : ∀ {l : List Str}, y ∈ insS x l ↔ y = x ∨ y ∈ l
  | [] => by simp [insS]
  | z :: r => by
    unfold insS
    split
    · simp
    · split
      · rename_i _ e
        subst e
        simp
      · rw [List.mem_cons, mem_insS, List.mem_cons]
        constructor
        · rintro (h | h | h)
          · exact .inr (.inl h)
          · exact .inl h
          · exact .inr (.inr h)
        · rintro (h | h | h)
          · exact .inr (.inl h)
          · exact .inl h
          · exact .inr (.inr h)
theorem inc_insS {x : Str} : ∀ {l : List Str}, l.Pairwise ltS → (insS x l).Pairwise ltS
  | [], _ => by simp [insS]
  | z :: r, h => by
    obtain ⟨h1, h2⟩ := List.pairwise_cons.mp h
    unfold insS
    split
    · rename_i lt
      refine List.pairwise_cons.mpr ⟨fun y hy => ?_, h⟩
      rcases List.mem_cons.mp hy with rfl | hy
      · exact lt
      · exact ltS_trans lt (h1 y hy)
    · split
      · exact h
      · rename_i nlt ne
        refine List.pairwise_cons.mpr ⟨fun y hy => ?_, inc_insS h2⟩
        rcases mem_insS.mp hy with rfl | hy
        · exact ltS_tri nlt ne
        · exact h1 y hy
theorem mem_sortS {y : Str} : ∀ {l : List Str}, y ∈ sortS l ↔ y ∈ l
  | [] => by simp [sortS]
  | x :: l => by
    show y ∈ insS x (sortS l) ↔ _
    rw [mem_insS, mem_sortS, List.mem_cons]
theorem inc_sortS : ∀ l : List Str, (sortS l).Pairwise ltS
  | [] => List.Pairwise.nil
  | x :: l => inc_insS (inc_sortS l)
theorem inc_uniq : ∀ {l m : List Str}, l.Pairwise ltS → m.Pairwise ltS → (∀ y, y ∈ l ↔ y ∈ m) → l = m
  | [], [], _, _, _ => rfl
  | [], y :: m, _, _, h => by have := (h y).2 List.mem_cons_self; cases this
  | x :: l, [], _, _, h => by have := (h x).1 List.mem_cons_self; cases this
  | x :: l, y :: m, hl, hm, h => by
    obtain ⟨l1, l2⟩ := List.pairwise_cons.mp hl
    obtain ⟨m1, m2⟩ := List.pairwise_cons.mp hm
    have e : x = y := by
      rcases List.mem_cons.mp ((h x).1 List.mem_cons_self) with e | e
      · exact e
      · rcases List.mem_cons.mp ((h y).2 List.mem_cons_self) with e' | e'
        · exact e'.symm
        · exact (ltS_irrefl _ (ltS_trans (m1 x e) (l1 y e'))).elim
    subst e
    rw [inc_uniq l2 m2 fun z => ?_]
    constructor
    · intro hz
      rcases List.mem_cons.mp ((h z).1 (List.mem_cons_of_mem _ hz)) with e | e
      · rw [e] at hz; exact (ltS_irrefl _ (l1 x hz)).elim
      · exact e
    · intro hz
      rcases List.mem_cons.mp ((h z).2 (List.mem_cons_of_mem _ hz)) with e | e
      · rw [e] at hz; exact (ltS_irrefl _ (m1 x hz)).elim
      · exact e
theorem inc_of_sortedS : ∀ {l : List Str}, sortedS l = true → l.Nodup → l.Pairwise ltS
  | [], _, _ => List.Pairwise.nil
  | [x], _, _ => List.pairwise_singleton _ _
  | x :: y :: l, h, nd => by
    have h' : (!ltCps y.cps.toList x.cps.toList && risingS y l) = true := h
    rw [Bool.and_eq_true, Bool.not_eq_true', ltCps_eq] at h'
    obtain ⟨n1, n2⟩ := List.nodup_cons.mp nd
    have ih := inc_of_sortedS (l := y :: l) h'.2 n2
    have lt : ltS x y := ltS_tri (of_decide_eq_false h'.1) fun e => n1 (by rw [e]; exact List.mem_cons_self)
    refine List.pairwise_cons.mpr ⟨fun z hz => ?_, ih⟩
    rcases List.mem_cons.mp hz with rfl | hz
    · exact lt
    · exact ltS_trans lt ((List.pairwise_cons.mp ih).1 z hz)
theorem asS_eq : ∀ {xs : List D} {ss : List Str}, asS xs = some ss → xs = ss.map .str
  | [], ss, e => by cases e; rfl
  | x :: xs, ss, e => by
    cases x <;> simp only [asS] at e <;> first | (cases e; done) | skip
    obtain ⟨ms, e1, rfl⟩ := Option.map_eq_some_iff.mp e
    rw [asS_eq e1]; rfl
section
variable {K : PySem.W.Frag} {F H : Hp}
theorem repL_strs : ∀ {ns : List Str} {vs : List V} {S : AS}, RepL K F H (ns.map D.str) vs S → vs = ns.map V.str ∧ ∀ x ∈ ns, PyData.strOk x = true
  | [], _, _, h => ⟨h, fun _ h => by cases h⟩
  | n :: ns, _, _, ⟨v, r, S1, S2, e, _, _, _, h1, h2⟩ => by
    obtain ⟨h3, h4⟩ : v = V.str n ∧ PyData.strOk n = true := h1
    obtain ⟨h5, h6⟩ := repL_strs h2
    refine ⟨by rw [e, h3, h5]; rfl, fun x hx => ?_⟩
    rcases List.mem_cons.mp hx with rfl | hx
    · exact h4
    · exact h6 x hx
theorem strs_repL : ∀ {ns : List Str}, (∀ x ∈ ns, PyData.strOk x = true) → RepL K F H (ns.map D.str) (ns.map V.str) No
  | [], _ => rfl
  | n :: ns, h => ⟨_, _, No, No, rfl, fun _ z => z, fun _ z => z, fun _ z => z.elim, ⟨rfl, h n List.mem_cons_self⟩, strs_repL fun x hx => h x (List.mem_cons_of_mem _ hx)⟩
end
theorem OP.grow {K : PySem.W.Frag} {F H H2 : Hp} {d : D} {Q : VK} (h : OP K F H d Q) (s : Sub H H2) : OP K F H2 d Q := fun z F' H' T a b c d' e r =>
  h z F' H' T a b (s.trans c) (fun x y => (d' x y).imp id (none_sub s)) (fun x y => ⟨none_sub s (e x y).1, (e x y).2⟩) r
section
variable {X : Cx} {G : Glb} {io : List Nat} {P : List (Nat × V)} {W : WX} {c : CC}
/-- a set, beside -/
def SetMO (P : Program) (w : World) (a : Addr) (S : Key → Bool) (n : Nat) : HO := .ext fun h => SetM P w h a S n
theorem setMO_new {P : Program} {w : World} {H : Hp} {h : Heap} {a : Addr} {S : Key → Bool} {n : Nat} (R : SetM P w h a S n) : ObjOk P w H h a (SetMO P w a S n) := by
  have ⟨o, _, _, _, ho, _⟩ := R
  exact ⟨R, ⟨o, ho⟩, fun h1 h2 p k => p.at k⟩
/-! ### rows of ints in order -/
theorem mem_insI {x y : Int} : ∀ {l : List Int}, y ∈ insI x l ↔ y = x ∨ y ∈ l
  | [] => by simp [insI]
  | z :: r => by
    unfold insI
    split
    · simp
    · split
      · rename_i _ e
        subst e
        simp
      · rw [List.mem_cons, mem_insI, List.mem_cons]
        constructor
        · rintro (h | h | h)
          · exact .inr (.inl h)
          · exact .inl h
          · exact .inr (.inr h)
        · rintro (h | h | h)
          · exact .inr (.inl h)
          · exact .inl h
          · exact .inr (.inr h)
theorem inc_insI {x : Int} : ∀ {l : List Int}, l.Pairwise (· < ·) → (insI x l).Pairwise (· < ·)
  | [], _ => by simp [insI]
  | z :: r, h => by
    obtain ⟨h1, h2⟩ := List.pairwise_cons.mp h
    unfold insI
    split
    · rename_i lt
      refine List.pairwise_cons.mpr ⟨fun y hy => ?_, h⟩
      rcases List.mem_cons.mp hy with rfl | hy
      · exact lt
      · have := h1 y hy; omega
    · split
      · exact h
      · rename_i nlt ne
        refine List.pairwise_cons.mpr ⟨fun y hy => ?_, inc_insI h2⟩
        rcases mem_insI.mp hy with rfl | hy
        · omega
        · exact h1 y hy
theorem mem_sortI {y : Int} : ∀ {l : List Int}, y ∈ sortI l ↔ y ∈ l
  | [] => by simp [sortI]
  | x :: l => by
    show y ∈ insI x (sortI l) ↔ _
    rw [mem_insI, mem_sortI, List.mem_cons]
theorem inc_sortI : ∀ l : List Int, (sortI l).Pairwise (· < ·)
  | [] => List.Pairwise.nil
  | x :: l => inc_insI (inc_sortI l)
theorem incI_uniq : ∀ {l m : List Int}, l.Pairwise (· < ·) → m.Pairwise (· < ·) → (∀ y, y ∈ l ↔ y ∈ m) → l = m
  | [], [], _, _, _ => rfl
  | [], y :: m, _, _, h => by have := (h y).2 List.mem_cons_self; cases this
  | x :: l, [], _, _, h => by have := (h x).1 List.mem_cons_self; cases this
  | x :: l, y :: m, hl, hm, h => by
    obtain ⟨l1, l2⟩ := List.pairwise_cons.mp hl
    obtain ⟨m1, m2⟩ := List.pairwise_cons.mp hm
    have e : x = y := by
      rcases List.mem_cons.mp ((h x).1 List.mem_cons_self) with e | e
      · exact e
      · rcases List.mem_cons.mp ((h y).2 List.mem_cons_self) with e' | e'
        · exact e'.symm
        · have := m1 x e; have := l1 y e'; omega
    subst e
    rw [incI_uniq l2 m2 fun z => ?_]
    constructor
    · intro hz
      rcases List.mem_cons.mp ((h z).1 (List.mem_cons_of_mem _ hz)) with e | e
      · have := l1 z hz; omega
      · exact e
    · intro hz
      rcases List.mem_cons.mp ((h z).2 (List.mem_cons_of_mem _ hz)) with e | e
      · have := m1 z hz; omega
      · exact e
theorem incI_of : ∀ {l : List Int}, l.Pairwise (· ≤ ·) → l.Nodup → l.Pairwise (· < ·)
  | [], _, _ => List.Pairwise.nil
  | x :: l, h, nd => by
    obtain ⟨h1, h2⟩ := List.pairwise_cons.mp h
    obtain ⟨n1, n2⟩ := List.nodup_cons.mp nd
    refine List.pairwise_cons.mpr ⟨fun y hy => ?_, incI_of h2 n2⟩
    have := h1 y hy
    have : x ≠ y := fun e => n1 (e ▸ hy)
    omega
theorem asI_eqV : ∀ {xs : List D} {ss : List Int}, asI xs = some ss → xs = ss.map .int
  | [], ss, e => by cases e; rfl
  | x :: xs, ss, e => by
    cases x <;> simp only [asI] at e <;> first | (cases e; done) | skip
    obtain ⟨ms, e1, rfl⟩ := Option.map_eq_some_iff.mp e
    rw [asI_eqV e1]; rfl
section
variable {K : PySem.W.Frag} {F H : Hp}
theorem repL_intsV : ∀ {ns : List Int} {vs : List V} {S : AS}, RepL K F H (ns.map D.int) vs S → vs = ns.map V.int
  | [], _, _, h => h
  | n :: ns, _, _, ⟨v, r, S1, S2, e, _, _, _, h1, h2⟩ => by
    have h3 : v = V.int n := h1
    rw [e, h3, repL_intsV h2]; rfl
theorem ints_repLV : ∀ {ns : List Int}, RepL K F H (ns.map D.int) (ns.map V.int) No
  | [] => rfl
  | n :: ns => ⟨_, _, No, No, rfl, fun _ z => z, fun _ z => z, fun _ z => z.elim, rfl, ints_repLV⟩
end
/-- a row of texts, or of ints: its keys, and how it comes out -/
def KOut (ks : List Key) (out : List V) : Prop := (∃ ss : List Str, ks = ss.map Sum.inr ∧ out = (sortS ss).map V.str) ∨ ∃ ns : List Int, ks = ns.map Sum.inl ∧ out = (sortI ns).map V.int
def rSetT (X : Cx) : List V → Hp → VK → Prop := fun xs H Q => ∃ (l : Addr) (ks : List Key), xs = [V.ref l] ∧ (SqT X.K H l (ks.map kV) ∨ SqL X.K H l (ks.map kV)) ∧ ks.length < 64 ∧ ∀ p n, H p = none → n ≤ ks.length → Q (.ref p) (upd H p (SetMO X.prog X.w p (fun j => memK j ks) n))
theorem c_setT (hc : X.calm = true) : CallR X (.type "set") (rSetT X) := by
  intro pins s σ H xs us Q I r ⟨l, ks, ex, hT, h64, q⟩
  subst ex
  obtain ⟨u, eu, rx⟩ := vals1 r
  subst eu
  cases rx
  rcases hT with hT | hT
  · obtain ⟨its, rv, ⟨o, ho, hcl, n, hd⟩, hz⟩ := I.tuple hT
    refine setM_tup ks (I.ok.hd hc) ⟨o, ho, hcl, n, hd⟩ (by simpa using rv) (Nat.lt_of_le_of_lt (Nat.succ_le_of_lt h64) (by decide)) fun h' tk c R hcn k => ?_
    exact ⟨.ref _, upd H s.heap.objs.size (SetMO X.prog X.w s.heap.objs.size (fun j => memK j ks) c), I.laid (t' := tk) (fun b u e => k b u e) (Nat.le_refl _) (setMO_new R), rfl, q _ _ (I.hok.fresh (Nat.le_refl _)) hcn⟩
  · obtain ⟨its, rv, p, hz⟩ := I.list hT
    refine setM_list ks (I.ok.hd hc) p.isList (by simpa using rv) (Nat.lt_of_le_of_lt (Nat.succ_le_of_lt h64) (by decide)) fun h' tk c R hcn k => ?_
    exact ⟨.ref _, upd H s.heap.objs.size (SetMO X.prog X.w s.heap.objs.size (fun j => memK j ks) c), I.laid (t' := tk) (fun b u e => k b u e) (Nat.le_refl _) (setMO_new R), rfl, q _ _ (I.hok.fresh (Nat.le_refl _)) hcn⟩
def rSortT (X : Cx) : List V → Hp → VK → Prop := fun xs H Q => ∃ (a : Addr) (ks : List Key) (n : Nat) (out : List V), xs = [V.ref a] ∧ H a = some (SetMO X.prog X.w a (fun j => memK j ks) n) ∧ n < 64 ∧ KOut ks out ∧
  ∀ p, H p = none → Q (.ref p) (upd H p (.lst out))
theorem c_sortT (hc : X.calm = true) : CallR X (.builtin "sorted") (rSortT X) := by
  intro pins s σ H vs us Q I r ⟨a, ks, n, out', ex, ha, h64, ko, q⟩
  subst ex
  have R : SetM X.prog X.w s.heap a (fun j => memK j ks) n := (I.hok a _ ha).1
  rw [Vals.ref1 r]
  rcases ko with ⟨ss, rfl, rfl⟩ | ⟨ns, rfl, rfl⟩
  · refine sortedM R (I.ok.hd hc) h64 fun s' p out c ys k g o hp hg hi hs nd hm hl => ?_
    have ey : ys = sortS ss := inc_uniq (inc_of_sortedS hs nd) (inc_sortS ss) fun y => (hm y).trans mem_sortS.symm
    subst ey
    have hlen : ((sortS ss).map V.str).length ≤ sizeLine := by rw [List.length_map, hl, sizeLine_eq]; omega
    have hn : H p = none := I.hok.fresh hp
    have J : Inv X pins σ (upd H p (.lst ((sortS ss).map V.str))) { s with heap := s'.heap, gens := s'.gens, drawn := s'.drawn, toks := s'.toks } :=
      I.call (ch := []) (Un.laid k hp hn) (I.hok.laid k hp ⟨hlen, out.toList, c, vals_of_strs hi, hg⟩) (by rw [g]; exact I.bare) (fun _ z => nomatch z)
    have e : s' = { s with heap := s'.heap, gens := s'.gens, drawn := s'.drawn, toks := s'.toks } := by
      cases s'
      cases s
      cases o
      rfl
    rw [e]
    exact ⟨.ref p, _, J, rfl, q p hn⟩
  · refine sortedMI R (I.ok.hd hc) h64 fun s' p out c ys k g o hp hg hi hs nd hm hl => ?_
    have ey : ys = sortI ns := incI_uniq (incI_of hs nd) (inc_sortI ns) fun y => (hm y).trans mem_sortI.symm
    subst ey
    have hlen : ((sortI ns).map V.int).length ≤ sizeLine := by rw [List.length_map, hl, sizeLine_eq]; omega
    have hn : H p = none := I.hok.fresh hp
    have J : Inv X pins σ (upd H p (.lst ((sortI ns).map V.int))) { s with heap := s'.heap, gens := s'.gens, drawn := s'.drawn, toks := s'.toks } :=
      I.call (ch := []) (Un.laid k hp hn) (I.hok.laid k hp ⟨hlen, out.toList, c, vals_ints hi, hg⟩) (by rw [g]; exact I.bare) (fun _ z => nomatch z)
    have e : s' = { s with heap := s'.heap, gens := s'.gens, drawn := s'.drawn, toks := s'.toks } := by
      cases s'
      cases s
      cases o
      rfl
    rw [e]
    exact ⟨.ref p, _, J, rfl, q p hn⟩
theorem s_sset (C : Ctx X G io P W) (k : CCok X G c) (hc : c.calm = true) {a : Ex} {ea : Expr} {x1 x2 : Str} {p1 p2 q1 q2 : Pos} (e1 : x1 = "sorted") (e2 : x2 = "set") (h1 : gloB c x1 = true) (h2 : gloB c x2 = true) (ha : SE X G io P W a ea) (hs : starEach [ea] X.env = (false, eval ea X.env) :: starEach [] X.env) :
    SE X G io P W (.op1 .sset a) (.Call (.Name x1 p1) [.Call (.Name x2 p2) [ea] [] q2] [] q1) := fun env => by
  subst e1 e2
  obtain ⟨g1, n1, m1⟩ := glo_of k h1
  obtain ⟨g2, n2, m2⟩ := glo_of k h2
  have inner := pe_callTy (p := p2) (pos := q2) (c_setT (k.calm hc)) g2 (C.blt "set" (by decide)) PyProof.Rows.boot_set (pa_cons (ha env) pa_nil hs) m2 n2 hs rfl
  have outer := pe_callB (p := p1) (pos := q1) (c_sortT (k.calm hc)) g1 (C.blt "sorted" (by decide)) PyProof.Rows.boot_sorted (pa_cons inner pa_nil rfl) m1 n1 rfl rfl
  refine pe_imp outer fun σ H Q h => ?_
  refine tE_mono (one_op (f := op1? .sset) h) fun v H1 ⟨F, d, r, sb, rc, e, q⟩ => ?_
  have key : ∀ (xs : List D) (l : Addr) (vs : List V), ((SqT X.K H1 l vs) ∨ (SqL X.K H1 l vs)) → RepL X.K F H1 xs vs No → (ksrt xs).map (D.lst true ·) = some r → rSetT X [V.ref l] H1 fun v2 H2 => rSortT X [v2] H2 Q := by
    intro xs l vs hT hr e
    obtain ⟨o, eo, rfl⟩ := Option.map_eq_some_iff.mp e
    unfold ksrt at eo
    split at eo
    · rename_i ss es
      split at eo
      · rename_i h64
        cases eo
        have := asS_eq es
        subst this
        obtain ⟨rfl, hok⟩ := repL_strs hr
        refine ⟨l, ss.map Sum.inr, rfl, ?_, by rw [List.length_map]; exact h64, fun p n hp hn => ?_⟩
        · rw [List.map_map]; exact hT
        · refine ⟨p, _, n, _, rfl, upd_same, Nat.lt_of_le_of_lt hn (by rw [List.length_map]; exact h64), .inl ⟨ss, rfl, rfl⟩, fun p' hp' => ?_⟩
          exact (q.grow (Sub.upd hp)).lst (sb.trans (Sub.upd hp)) (strs_repL fun x hx => hok x (mem_sortS.mp hx)) p' hp'
      · cases eo
    · split at eo
      · rename_i ns es
        split at eo
        · rename_i h64
          cases eo
          have := asI_eqV es
          subst this
          have := repL_intsV hr
          subst this
          refine ⟨l, ns.map Sum.inl, rfl, ?_, by rw [List.length_map]; exact h64, fun p n hp hn => ?_⟩
          · rw [List.map_map]; exact hT
          · refine ⟨p, _, n, _, rfl, upd_same, Nat.lt_of_le_of_lt hn (by rw [List.length_map]; exact h64), .inr ⟨ns, rfl, rfl⟩, fun p' hp' => ?_⟩
            exact (q.grow (Sub.upd hp)).lst (sb.trans (Sub.upd hp)) ints_repLV p' hp'
        · cases eo
      · cases eo
  cases d <;> simp only [op1?] at e <;> first | (cases e; done) | skip
  · obtain ⟨l, vs, rfl, hT, hr⟩ := rc_tup rc
    exact key _ l vs (.inl (sb.seqT hT.seqT)) hr e
  · obtain ⟨l, vs, rfl, hT, hr⟩ := rc_lst sb rc
    exact key _ l vs (.inr (SqL.of hT)) hr e
end
end DD

set_option Elab.async false
set_option linter.all false
set_option maxRecDepth 100000
set_option maxHeartbeats 2000000
namespace DD
open PySem PySem.Spec PyProof.Rows L2
/-! ### t.index(x) -/
section
variable {X : Cx}
def rTIdx : V → List V → Hp → VK → Prop := fun x xs H Q => ∃ p, ∃ ys : List Str, ∃ z j, ∃ ob : Obj, x = .ref p ∧ xs = [.str z] ∧ H p = some (.frz ob (.tup (ys.map V.str))) ∧ ys[j]? = some z ∧ (∀ m, m < j → ys[m]? ≠ some z) ∧ Q (.int (j : Nat)) H
def tTIdx (to te : TE) : TE := fun σ H Q => to σ H fun x H1 => (∃ p vs, ∃ ob : Obj, x = .ref p ∧ H1 p = some (.frz ob (.tup vs)) ∧ ob.dict = none) ∧ te σ H1 fun y H2 => rTIdx x [y] H2 Q
theorem pe_tidx {o e : Expr} {to te : TE} {apos cpos : Pos} (ho : PE X o to) (he : PE X e te) (hs : starEach [e] X.env = (false, eval e X.env) :: starEach [] X.env)
    (hbase : attributeBase o "index" X.env (eval o X.env) = eval o X.env := by rfl)
    (hfew : ((backTo cpos (starEach [e] X.env)).all (fun x => !x.1) && (backToKw cpos (keywordEach [] X.env)).all (fun x => x.1.isSome)
      && decide ([e].length + ([] : List Keyword).length + (if ([] : List Keyword).isEmpty then 0 else 1) < 30)) = true := by rfl)
    (hline : (apos.endLine == cpos.line) = true := by rfl) (hplain : (backTo cpos (starEach [] X.env)).any (·.1) = false := by rfl) :
    PE X (.Call (.Attribute o "index" apos) [e] [] cpos) (tTIdx to te) := by
  refine ⟨fun pins s σ H Q I h => ?_⟩
  refine wpAny_Call_method_late hbase hfew hline rfl (thn (ho.run pins s σ H _ I h) fun v s1 ⟨x, H1, I1, r1, ⟨p, vs, ob, ex, hp, hd⟩, q1⟩ => ?_)
  subst ex
  cases r1
  obtain ⟨e1, hz, its, rv, o', e2, hc, n, hdt⟩ := I1.hok p _ hp
  rw [e1] at e2
  cases e2
  refine ⟨"tuple", _, PySem.F.plainAttrs_tuple, PySem.F.slot_tuple_index, by first | rfl | decide +kernel, ⟨ob, e1, hc⟩, fun a ea => (by cases ea; exact ⟨ob, e1, hd⟩), ?_⟩
  have hA := (pa_cons he pa_nil hs).run cpos pins s1 σ H1 (fun xs H2 => rTIdx (.ref p) xs H2 Q) I1 q1
  rw [hs] at hA ⊢
  refine Calls.callWith_builtin (by show (false || (backTo cpos (starEach [] X.env)).any (·.1)) = false; rw [hplain] <;> rfl) (Calls.evalArgs_plain ?_)
  exact thn hA fun us s2 ⟨xs, H2, I2, r2, p', ys, z, j, ob', ep, exs, hp2, hy, hno, q2⟩ => by
    cases ep
    exact mt_tup_index pins s2 σ H2 (.ref p) xs _ us Q I2 rfl r2 ⟨p, ys, z, j, rfl, exs, .inl (.inr ⟨ob', hp2⟩), hy, hno, q2⟩
end
section
variable {X : Cx} {G : Glb} {io : List Nat} {P : List (Nat × V)} {W : WX} {c : CC}
theorem find_ix {α : Type} [DecidableEq α] {ss : List α} {z : α} {k : Nat} (h : ss.findIdx? (fun y => decide (y = z)) = some k) : ss[k]? = some z ∧ ∀ m, m < k → ss[m]? ≠ some z := by
  obtain ⟨hk, h1, h2⟩ := List.findIdx?_eq_some_iff_getElem.mp h
  refine ⟨by rw [List.getElem?_eq_getElem hk]; exact congrArg some (of_decide_eq_true h1), fun m hm e => ?_⟩
  obtain ⟨hm2, e⟩ := List.getElem?_eq_some_iff.mp e
  exact h2 m hm (decide_eq_true e)
theorem s_fidxT {a b : Ex} {ea eb : Expr} {apos cpos : Pos} (ha : SE X G io P W a ea) (hb : SE X G io P W b eb) (hs : starEach [eb] X.env = (false, eval eb X.env) :: starEach [] X.env) (hline : (apos.endLine == cpos.line) = true)
    (hfew : ((backTo cpos (starEach [eb] X.env)).all (fun x => !x.1) && (backToKw cpos (keywordEach [] X.env)).all (fun x => x.1.isSome) && decide ([eb].length + ([] : List Keyword).length + (if ([] : List Keyword).isEmpty then 0 else 1) < 30)) = true)
    (hbase : attributeBase ea "index" X.env (eval ea X.env) = eval ea X.env) : SE X G io P W (.fidx true a b) (.Call (.Attribute ea "index" apos) [eb] [] cpos) := fun env =>
  pe_imp (pe_tidx (ha env) (hb (R.env (evE G io a env) env)) hs hbase hfew hline rfl) fun σ H Q h => by
    have M := Mid.ofE h
    refine tE_mono (Mid.next (m := evE G io a) (post := fun F0 H0 S0 r => PostE X G P W σ F0 H0 S0 r Q) pstE M) fun v H1 ⟨x, env1, e1, M1⟩ => ?_
    cases x with
    | tup xs =>
      have hx : ∃ p vs, ∃ ob : Obj, v = .ref p ∧ H1 p = some (.frz ob (.tup vs)) ∧ ob.dict = none := by
        obtain ⟨F0, H0, S0, F, S, T, a1, st, ok, dj, er, w, r, T1, T2, ev, m1, m2, dj2, g1, g2⟩ := M1
        obtain ⟨rfl, -⟩ := List.cons.inj ev
        obtain ⟨p, vs, rfl, ⟨ob, hq, hd⟩, _⟩ := (show Rep X.K F H1 (.tup xs) v T1 from g1)
        exact ⟨p, vs, ob, rfl, ok.sub _ _ hq, hd⟩
      refine ⟨hx, ?_⟩
      refine mono_eq e1 (Mid.next (m := evE G io b) (post := fun F0 H0 S0 r => PostE X G P W σ F0 H0 S0 r Q) pstE M1) fun w H2 ⟨y, env2, e2, M2⟩ => ?_
      cases q1 : res env2 y with
      | none => simp only [q1] at M2; exact (M2.no fun F H S z => z).elim
      | some y' =>
        cases q2 : fidx? (.tup (D.fzL xs)) y' with
        | none => simp only [q1, D.fz, q2, liftO] at M2; exact (M2.no fun F H S z => z).elim
        | some d =>
          simp only [q1, D.fz, q2, liftO] at M2
          obtain ⟨F, sb, rcs, op⟩ := M2.op (resL2 (show res env2 (.tup xs) = some (.tup (D.fzL xs)) from rfl) q1)
          obtain ⟨v1, r1, ev1, g1, v2, r2, ev2, g2, g3⟩ := rcs
          cases g3
          cases ev2
          obtain ⟨rfl, e3⟩ := List.cons.inj ev1
          obtain ⟨rfl, -⟩ := List.cons.inj e3
          cases y' <;> simp only [fidx?] at q2 <;> first | (cases q2; done) | skip
          rename_i z
          cases q3 : asS (D.fzL xs) with
          | none => rw [q3] at q2; cases q2
          | some ss =>
            rw [q3] at q2
            obtain ⟨k, q4, rfl⟩ := Option.map_eq_some_iff.mp q2
            obtain ⟨f1, f2⟩ := find_ix q4
            obtain ⟨p, vs, rfl, ⟨ob, hq, hd⟩, hr⟩ := rc_tup g2
            rw [asS_eq q3] at hr
            obtain ⟨rfl, _⟩ := repL_strs hr
            exact ⟨p, ss, z, k, ob, rfl, by rw [rc_str g1], sb _ _ hq, f1, f2, op.scalar sb rfl⟩
    | _ => simp only [atHand] at M1; exact (M1.no fun F H S z => z).elim
theorem s_fidxL {a b : Ex} {ea eb : Expr} {apos cpos : Pos} (ha : SE X G io P W a ea) (hb : SE X G io P W b eb) (hs : starEach [eb] X.env = (false, eval eb X.env) :: starEach [] X.env) (hline : (apos.endLine == cpos.line) = true)
    (hfew : ((backTo cpos (starEach [eb] X.env)).all (fun x => !x.1) && (backToKw cpos (keywordEach [] X.env)).all (fun x => x.1.isSome) && decide ([eb].length + ([] : List Keyword).length + (if ([] : List Keyword).isEmpty then 0 else 1) < 30)) = true)
    (hbase : attributeBase ea "index" X.env (eval ea X.env) = eval ea X.env) : SE X G io P W (.fidx false a b) (.Call (.Attribute ea "index" apos) [eb] [] cpos) := fun env =>
  pe_imp (pe_bm F.plainAttrs_list F.slot_list_index (by first | rfl | decide +kernel) mt_index (ha env) (pa_cons (hb (R.env (evE G io a env) env)) pa_nil hs) hbase hfew hline hs rfl) fun σ H Q h => by
    have M := Mid.ofE h
    refine tE_mono (Mid.next (m := evE G io a) (post := fun F0 H0 S0 r => PostE X G P W σ F0 H0 S0 r Q) pstE M) fun v H1 ⟨x, env1, e1, M1⟩ => ?_
    cases x with
    | lst o xs =>
      have hx : tyV X.K "list" v H1 := by
        obtain ⟨F0, H0, S0, F, S, T, a1, st, ok, dj, er, w, r, T1, T2, ev, m1, m2, dj2, g1, g2⟩ := M1
        obtain ⟨rfl, -⟩ := List.cons.inj ev
        cases o with
        | true =>
          obtain ⟨p, vs, rfl, hq, _⟩ := (show Rep X.K F H1 (.lst true xs) v T1 from g1)
          exact .inl ⟨rfl, vs, SqL.of hq⟩
        | false =>
          obtain ⟨p, vs, rfl, hq, _⟩ := (show Rep X.K F H1 (.lst false xs) v T1 from g1)
          exact .inl ⟨rfl, vs, SqL.of (ok.sub _ _ hq)⟩
      refine ⟨hx, ?_⟩
      refine mono_eq e1 (Mid.next (m := evE G io b) (post := fun F0 H0 S0 r => PostE X G P W σ F0 H0 S0 r Q) pstE M1) fun w H2 ⟨y, env2, e2, M2⟩ => ?_
      cases q1 : res env2 y with
      | none => simp only [q1] at M2; exact (M2.no fun F H S z => z).elim
      | some y' =>
        cases q2 : fidx? (.lst false (D.fzL xs)) y' with
        | none => simp only [q1, D.fz, q2, liftO] at M2; exact (M2.no fun F H S z => z).elim
        | some d =>
          simp only [q1, D.fz, q2, liftO] at M2
          obtain ⟨F, sb, rcs, op⟩ := M2.op (resL2 (show res env2 (.lst o xs) = some (.lst false (D.fzL xs)) from rfl) q1)
          obtain ⟨v1, r1, ev1, g1, v2, r2, ev2, g2, g3⟩ := rcs
          cases g3
          cases ev2
          obtain ⟨rfl, e3⟩ := List.cons.inj ev1
          obtain ⟨rfl, -⟩ := List.cons.inj e3
          cases y' <;> simp only [fidx?] at q2 <;> first | (cases q2; done) | skip
          rename_i z
          cases q3 : asI (D.fzL xs) with
          | none => rw [q3] at q2; cases q2
          | some ss =>
            rw [q3] at q2
            obtain ⟨k, q4, rfl⟩ := Option.map_eq_some_iff.mp q2
            obtain ⟨f1, f2⟩ := find_ix q4
            obtain ⟨p, vs, rfl, hq, hr⟩ := rc_lst sb g2
            rw [asI_eq q3] at hr
            have hv := repL_ints hr
            subst hv
            refine ⟨p, ss.map V.int, .int z, k, .int z, rfl, by rw [rc_int g1], SqL.of hq, rfl, ?_, by rw [List.getElem?_map, f1]; rfl, by simp [eqV], fun m z' hm e => ?_, op.scalar sb rfl⟩
            · rw [List.all_map]; exact List.all_eq_true.mpr fun _ _ => rfl
            · rw [List.getElem?_map] at e
              obtain ⟨u, e4, rfl⟩ := Option.map_eq_some_iff.mp e
              have : u ≠ z := fun e5 => f2 m hm (by rw [e4, e5])
              simp [eqV, this]
    | _ => simp only [atHand] at M1; exact (M1.no fun F H S z => z).elim
end
end DD

set_option Elab.async false
set_option linter.all false
set_option maxRecDepth 100000
set_option maxHeartbeats 1000000
namespace DD
open PySem PySem.Spec PyProof.Rows L2
section
variable {K : PySem.W.Frag} {σ : L2.St} {F H F0 H0 F1 H1 : Hp} {S0 U S T : AS}
theorem write_ok {a : Addr} {o' : HO} (st : Step F0 H0 S0 F H U) (ok : Ok F H U) (ha : U a) : Step F0 H0 S0 F (upd H a o') U ∧ Ok F (upd H a o') U := by
  have hF := ok.off a ha
  have ne : ∀ b o, F b = some o → b ≠ a := fun b o e z => by rw [z, hF] at e; cases e
  refine ⟨⟨st.fle, fun b o n e => ?_, fun b z => ?_, st.fnew, st.snew⟩, fun b o e => ?_, ok.off, fun b z => ?_⟩
  · have nb : b ≠ a := fun z => by
      subst z
      rcases st.snew b ha with q | q
      · exact n q
      · rw [q] at e; cases e
    rw [upd_ne nb]; exact st.keep b o n e
  · by_cases hb : b = a
    · rw [hb, upd_same]; simp
    · rw [upd_ne hb]; exact st.all b z
  · rw [upd_ne (ne b o e)]; exact ok.sub b o e
  · by_cases hb : b = a
    · rw [hb, upd_same]; simp
    · rw [upd_ne hb]; exact ok.al b z
theorem repL_snoc {d : D} {v : V} : ∀ {xs : List D} {vs : List V} {S T : AS}, Dj S T → RepL K F H xs vs S → Rep K F H d v T → RepL K F H (xs ++ [d]) (vs ++ [v]) (Un2 S T)
  | [], vs, S, T, dj, h, r => by
    have : vs = [] := h
    subst this
    exact ⟨v, [], T, No, rfl, fun _ z => .inr z, fun _ z => z.elim, fun _ _ z => z, r, rfl⟩
  | x :: xs, _, S, T, dj, ⟨w, ws, S1, S2, e, m1, m2, dj2, h1, h2⟩, r => by
    subst e
    exact ⟨w, ws ++ [v], S1, Un2 S2 T, rfl, fun _ z => .inl (m1 _ z), fun _ z => z.imp (m2 _) id, fun a x y => y.elim (dj2 a x) fun y => dj a (m1 a x) y, h1, repL_snoc (fun a x y => dj a (m2 a x) y) h2 r⟩
theorem repL_app' : ∀ {xs ys : List D} {vs ws : List V} {S T : AS}, Dj S T → RepL K F H xs vs S → RepL K F H ys ws T → RepL K F H (xs ++ ys) (vs ++ ws) (Un2 S T)
  | [], ys, vs, ws, S, T, dj, h, r => by
    have : vs = [] := h
    subst this
    exact RepL.keep .refl _ (fun _ z => .inr z) (fun _ _ _ z => z) r
  | x :: xs, ys, _, ws, S, T, dj, ⟨w, us, S1, S2, e, m1, m2, dj2, h1, h2⟩, r => by
    subst e
    exact ⟨w, us ++ ws, S1, Un2 S2 T, rfl, fun _ z => .inl (m1 _ z), fun _ z => z.imp (m2 _) id, fun a x y => y.elim (dj2 a x) fun y => dj a (m1 a x) y, h1, repL_app' (fun a x y => dj a (m2 a x) y) h2 r⟩
/-- the last item goes out -/
theorem repL_unsnoc : ∀ {xs : List D} {d : D} {vs : List V} {S : AS}, RepL K F H (xs ++ [d]) vs S → ∃ ws v S1 T, vs = ws ++ [v] ∧ (∀ a, S1 a → S a) ∧ (∀ a, T a → S a) ∧ Dj S1 T ∧ RepL K F H xs ws S1 ∧ Rep K F H d v T
  | [], d, vs, S, ⟨v, r, S1, S2, e, m1, m2, dj, h1, h2⟩ => by
    have : r = [] := h2
    subst this e
    exact ⟨[], v, No, S1, rfl, fun _ z => z.elim, m1, fun _ z => z.elim, rfl, h1⟩
  | x :: xs, d, vs, S, ⟨w, r, S1, S2, e, m1, m2, dj, h1, h2⟩ => by
    obtain ⟨ws, v, U1, T, e2, n1, n2, dj2, g1, g2⟩ := repL_unsnoc h2
    subst e e2
    exact ⟨w :: ws, v, Un2 S1 U1, T, rfl, fun a z => z.elim (m1 a) fun z => m2 a (n1 a z), fun a z => m2 a (n2 a z), fun a x y => x.elim (fun x => dj a x (n2 a y)) fun x => dj2 a x y, ⟨w, ws, S1, U1, rfl, fun _ z => .inl z, fun _ z => .inr z, fun a x y => dj a x (n1 a y), h1, g1⟩, g2⟩
theorem repL_set {d : D} {v : V} : ∀ {xs : List D} {vs : List V} {n : Nat} {S T : AS}, Dj S T → RepL K F H xs vs S → Rep K F H d v T → RepL K F H (xs.set n d) (vs.set n v) (Un2 S T)
  | [], vs, n, S, T, dj, h, r => by
    have : vs = [] := h
    subst this
    exact rfl
  | x :: xs, _, 0, S, T, dj, ⟨w, ws, S1, S2, e, m1, m2, dj2, h1, h2⟩, r => by
    subst e
    exact ⟨v, ws, T, S2, rfl, fun _ z => .inr z, fun _ z => .inl (m2 _ z), fun a x y => dj a (m2 a y) x, r, h2⟩
  | x :: xs, _, n + 1, S, T, dj, ⟨w, ws, S1, S2, e, m1, m2, dj2, h1, h2⟩, r => by
    subst e
    exact ⟨w, ws.set n v, S1, Un2 S2 T, rfl, fun _ z => .inl (m1 _ z), fun _ z => z.imp (m2 _) id, fun a x y => y.elim (dj2 a x) fun y => dj a (m1 a x) y, h1, repL_set (fun a x y => dj a (m2 a x) y) h2 r⟩
end
section
variable {X : Cx} {G : Glb} {io : List Nat} {P : List (Nat × V)} {W : WX} {c : CC}
theorem own1_get {env : Env} {i : Nat} {xs : List D} (h : own1 env i = some xs) : get env i = some (.lst true xs) := by
  unfold own1 at h
  split at h
  · rename_i e; cases h; exact e
  · cases h
/-- a list that a slot owns -/
theorem own_at {σ : L2.St} {F H : Hp} {S : AS} {env : Env} {i : Nat} {xs : List D} (er : EnvR X.K F H P env σ S) (h : own1 env i = some xs) :
    ∃ a vs S1 T, σ[i]? = some (some (.ref a)) ∧ H a = some (.lst vs) ∧ S a ∧ (∀ b, S1 b → S b) ∧ (∀ b, T b → S b) ∧ Dj S1 T ∧ ¬ S1 a ∧ ¬ T a ∧ EnvR X.K F H P (env.set i none) σ S1 ∧ RepL X.K F H xs vs T := by
  obtain ⟨v, S1, T, e1, m1, m2, dj, er1, a, vs, rfl, h1, h2, h3⟩ := er.take (own1_get h)
  exact ⟨a, vs, S1, fun b => T b ∧ b ≠ a, e1, h1, m2 _ h2, m1, fun b z => m2 b z.1, fun b x y => dj b x y.1, fun z => dj a z h2, fun z => z.2 rfl, er1, h3⟩
/-- a slot's list is written: the state goes on -/
theorem own_write {σ : L2.St} {F H F0 H0 : Hp} {S0 S S1 T : AS} {env : Env} {i : Nat} {a : Addr} {ys : List D} {ws : List V} (st : Step F0 H0 S0 F H S) (ok : Ok F H S) (e : σ[i]? = some (some (.ref a))) (ha : S a) (m1 : ∀ b, S1 b → S b) (m2 : ∀ b, T b → S b) (dj : Dj S1 T) (n1 : ¬ S1 a) (n2 : ¬ T a)
    (er : EnvR X.K F H P (env.set i none) σ S1) (r : RepL X.K F H ys ws T) : Step F0 H0 S0 F (upd H a (.lst ws)) S ∧ Ok F (upd H a (.lst ws)) S ∧ EnvR X.K F (upd H a (.lst ws)) P (env.set i (some (.lst true ys))) σ S := by
  obtain ⟨st', ok'⟩ := write_ok (o' := .lst ws) st ok ha
  have k1 : ∀ b o, b ≠ a → H b = some o → upd H a (.lst ws) b = some o := fun b o n e => by rw [upd_ne n]; exact e
  have er1 : EnvR X.K F (upd H a (.lst ws)) P (env.set i none) σ S1 := er.keep .refl (fun _ z => z) fun b o z e => k1 b o (fun q => n1 (q ▸ z)) e
  have r1 : Rep X.K F (upd H a (.lst ws)) (.lst true ys) (.ref a) (fun b => b = a ∨ T b) :=
    ⟨a, ws, rfl, upd_same, .inl rfl, RepL.keep .refl _ (fun b z => ⟨.inr z, fun q => n2 (q ▸ z)⟩) (fun b o z e => k1 b o (fun q => n2 (q ▸ z)) e) r⟩
  have er2 := er1.back e r1 fun b x y => y.elim (fun q => n1 (q ▸ x)) (dj b x)
  rw [List.set_set] at er2
  exact ⟨st', ok', er2.keep .refl (fun b z => z.elim (m1 b) fun z => z.elim (fun q => q ▸ ha) (m2 b)) fun _ _ _ z => z⟩
theorem own_list {σ : L2.St} {F H : Hp} {S : AS} {env : Env} {i : Nat} {xs : List D} (er : EnvR X.K F H P env σ S) (h : own1 env i = some xs) {Q : V → Hp → Prop} (q : ∀ a, σ[i]? = some (some (.ref a)) → tyV X.K "list" (.ref a) H → Q (.ref a) H) : tVar i σ H Q := by
  obtain ⟨a, vs, _, _, e, ha, _⟩ := own_at er h
  exact ⟨.ref a, e, q a e (.inl ⟨rfl, vs, SqL.of ha⟩)⟩
theorem s_app (k : CCok X G c) {i : Nat} {x : Str} {e : Ex} {ea : Expr} {p apos cpos : Pos} (hn : nameB c i x = true) (he : SE X G io P W e ea) (hline : (apos.endLine == cpos.line) = true) (hs : starEach [ea] X.env = (false, eval ea X.env) :: starEach [] X.env)
    (hfew : ((backTo cpos (starEach [ea] X.env)).all (fun x => !x.1) && (backToKw cpos (keywordEach [] X.env)).all (fun x => x.1.isSome) && decide ([ea].length + ([] : List Keyword).length + (if ([] : List Keyword).isEmpty then 0 else 1) < 30)) = true) :
    SE X G io P W (.app i e) (.Call (.Attribute (.Name x p) "append" apos) [ea] [] cpos) := fun env =>
  pe_imp (pe_bm F.plainAttrs_list F.slot_list_append (by first | rfl | decide +kernel) mt_append (name_pe k hn) (pa_cons (he env) pa_nil hs) rfl hfew hline hs rfl) fun σ H Q h => by
    obtain ⟨F, S, ok, er, q⟩ := h
    have q' : PostE X G P W σ F H S (appTo i (evE G io e) env) Q := q
    unfold appTo at q'
    cases q0 : own1 env i with
    | none => rw [q0] at q'; exact q'.elim
    | some xs0 =>
      rw [q0] at q'
      refine own_list er q0 fun a ea' ty => ⟨ty, ?_⟩
      have M := Mid.start (p := fun F0 H0 S0 => PostE X G P W σ F0 H0 S0 ((evE G io e env).bind fun d env => match own1 env i with
        | some xs => if noPlc d && decide (xs.length < lim) then .ok .non (env.set i (some (.lst true (xs ++ [d])))) else .bad
        | none => .bad) Q) ok er q'
      refine tE_mono (Mid.next (m := evE G io e) (post := fun F0 H0 S0 r => PostE X G P W σ F0 H0 S0 r Q) pstE M) fun w H1 ⟨d, env1, e1, M1⟩ => ?_
      cases q1 : own1 env1 i with
      | none => simp only [q1] at M1; exact (M1.no fun F H S z => z).elim
      | some xs =>
        simp only [q1] at M1
        split at M1
        · rename_i hc
          rw [Bool.and_eq_true, decide_eq_true_eq] at hc
          obtain ⟨F0, H0, S0, F1, S1, T, a0, st, ok1, dj, er1, rv⟩ := M1
          obtain ⟨w', r0, T1, T2, ew, m1, m2, dj2, h1, h2⟩ := rv
          cases ew
          have rd := h1.of hc.1
          obtain ⟨b, vs, U1, UT, eb, hb, sb, n1, n2, dj3, nb1, nb2, er2, rx⟩ := own_at er1 q1
          rw [ea'] at eb
          cases eb
          have hlen : vs.length = xs.length := rvl_len (σ := σ) (rep_rvl rx)
          refine ⟨a, vs, w, rfl, rfl, hb, by rw [hlen]; exact hc.2, ?_⟩
          have nT : ¬ T1 a := fun z => dj a sb (m1 a z)
          have djT : Dj UT T1 := fun z x y => dj z (n2 z x) (m1 z y)
          obtain ⟨st2, ok2, er3⟩ := own_write (S1 := U1) (T := Un2 UT T1) (st.weak (T := Un2 S1 T1) fun z y => y.imp id (m1 z)) (ok1.mono fun z y => y.imp id (m1 z)) ea' (.inl sb) (fun z y => .inl (n1 z y)) (fun z y => y.imp (n2 z) id)
            (fun z x y => y.elim (dj3 z x) fun y => dj z (n1 z x) (m1 z y)) nb1 (fun z => z.elim nb2 nT) er2 (repL_snoc djT rx rd)
          exact a0 .non F1 _ (Un2 S1 T1) No (ok2.mono fun z y => y.elim id False.elim) (fun _ _ z => z) (st2.weak fun z y => y.elim id False.elim) er3 (RV.to rfl)
        · exact (M1.no fun F H S z => z).elim
theorem getLast_split {α : Type} : ∀ {xs : List α} {d : α}, xs.getLast? = some d → xs = xs.dropLast ++ [d]
  | [], d, h => by cases h
  | [x], d, h => by cases h; rfl
  | x :: y :: r, d, h => by
    have h' : (y :: r).getLast? = some d := by rw [← h, List.getLast?_cons_cons]
    rw [List.dropLast_cons_cons, List.cons_append, ← getLast_split h']
theorem s_pop (k : CCok X G c) {i : Nat} {x : Str} {p apos cpos : Pos} (hn : nameB c i x = true) (hline : (apos.endLine == cpos.line) = true) :
    SE X G io P W (.pop i) (.Call (.Attribute (.Name x p) "pop" apos) [] [] cpos) := fun env =>
  pe_imp (pe_bm0 F.plainAttrs_list F.slot_list_pop (by first | rfl | decide +kernel) mt_pop (name_pe k hn) rfl hline) fun σ H Q h => by
    obtain ⟨F, S, ok, er, q⟩ := h
    have q' : PostE X G P W σ F H S (popOf i env) Q := q
    unfold popOf at q'
    cases q0 : own1 env i with
    | none => rw [q0] at q'; exact q'.elim
    | some xs =>
      rw [q0] at q'
      simp only [] at q'
      refine own_list er q0 fun a ea' ty => ⟨ty, ?_⟩
      cases q1 : xs.getLast? with
      | none => rw [q1] at q'; exact q'.elim
      | some d =>
        rw [q1] at q'
        simp only [] at q'
        obtain ⟨b, vs, U1, UT, eb, hb, sb, n1, n2, dj3, nb1, nb2, er2, rx⟩ := own_at er q0
        rw [ea'] at eb
        cases eb
        rw [getLast_split q1] at rx
        obtain ⟨ws, v, V1, VT, rfl, l1, l2, djv, g1, g2⟩ := repL_unsnoc rx
        have hy : (ws ++ [v])[(ws ++ [v]).length - 1]? = some v := by simp
        refine ⟨a, ws ++ [v], v, rfl, rfl, hb, hy, ?_⟩
        rw [List.dropLast_concat]
        have sub : ∀ z, (z = a ∨ U1 z ∨ V1 z ∨ VT z) → S z := fun z y => y.elim (fun y => y ▸ sb) fun y => y.elim (n1 z) fun y => y.elim (fun y => n2 z (l1 z y)) fun y => n2 z (l2 z y)
        obtain ⟨st2, ok2, er3⟩ := own_write (S1 := U1) (T := V1) (F0 := F) (H0 := H) (S0 := S) (S := S) Step.refl ok ea' sb n1 (fun z y => n2 z (l1 z y)) (fun z x y => dj3 z x (l1 z y)) nb1 (fun z => nb2 (l1 a z)) er2 g1
        have eq : ∀ (e2 : EnvR X.K F (upd H a (.lst ws)) P (env.set i (some (.lst true xs.dropLast))) σ S), EnvR X.K F (upd H a (.lst ws)) P (env.set i (some (.lst true xs.dropLast))) σ (fun z => z = a ∨ U1 z ∨ V1 z) := fun _ => by
          obtain ⟨_, _, e4⟩ := own_write (S1 := U1) (T := V1) (F0 := F) (H0 := H) (S0 := S) (S := fun z => z = a ∨ U1 z ∨ V1 z) (Step.refl.weak fun z y => sub z (y.imp id fun y => y.imp id .inl)) (ok.mono fun z y => sub z (y.imp id fun y => y.imp id .inl)) ea' (.inl rfl) (fun z y => .inr (.inl y)) (fun z y => .inr (.inr y)) (fun z x y => dj3 z x (l1 z y)) nb1 (fun z => nb2 (l1 a z)) er2 g1
          exact e4
        refine q' v F _ (fun z => z = a ∨ U1 z ∨ V1 z) VT (ok2.mono fun z y => y.elim (fun y => sub z (y.imp id fun y => y.imp id .inl)) fun y => sub z (.inr (.inr (.inr y)))) (fun z x y => ?_) (st2.weak fun z y => y.elim (fun y => sub z (y.imp id fun y => y.imp id .inl)) fun y => sub z (.inr (.inr (.inr y)))) (eq er3) (RV.to (Rep.keep .refl d (fun _ z => z) (fun z o y e => by rw [upd_ne (fun w => nb2 (by rw [← w]; exact l2 z y))]; exact e) g2))
        rcases x with x | x | x
        · exact nb2 (x ▸ l2 z y)
        · exact dj3 z x (l2 z y)
        · exact djv z x y
theorem list_extend_tupS (l : Addr) (items : Array Value) (n : Nat) (b : Addr) (items2 : Array Value) (n2 : Nat) (dd sl) (hs0 : ¬(!items.isEmpty && Builtin.List.listTooLong (items.size + items2.size)) = true) (hs1 : items.size ≤ sizeLine) (hs2 : items.size + items2.size ≤ sizeLine + 1) :
    Meets (Builtin.«list.extend» ⟨[.ref l, .ref b], []⟩) (fun _ R s => s.heap.get? l = some { cls := .type "list", dict := none, data := .seq items n, slots := #[] } ∧ s.heap.get? b = some { cls := .type "tuple", dict := dd, data := .seq items2 n2, slots := sl } ∧ R (.ok (.ret Value.none)) { s with heap := s.heap.update l (Obj.mapSeq fun x => x ++ items2), toks := s.toks }) :=
  .of_wp fun prog w A R s h => by
    obtain ⟨hp, g, d, tk, os⟩ := s; obtain ⟨hl, hb, h⟩ := h; have f1 := AutoSeq1.idx_int; have f2 := AutoSeq1.sub_tuple_tuple; have f3 := AutoSeq1.sub_list_list; have f4 := AutoSeq1.sub_tuple_list; have f5 := AutoSeq1.sub_list_tuple;
    have hz' : (items ++ items2).size ≤ sizeLine + 1 := by rw [Array.size_append]; exact hs2
    wp_walk using (wpAny_updateSeq hl rfl (hz := hs1) (_hz' := hz')), wpAny_loadPart' hl, wpAny_loadPart' hb; exact ⟨_, rfl, h⟩
def rExtend2 (X : Cx) : V → List V → Hp → VK → Prop := fun x vs H Q => ∃ l b xs zs, x = .ref l ∧ vs = [.ref b] ∧ H l = some (.lst xs) ∧ (H b = some (.lst zs) ∨ SqT X.K H b zs) ∧ xs.length + zs.length ≤ sizeLine ∧ Q .non (upd H l (.lst (xs ++ zs)))
theorem mt_extend2 : MtM X "list.extend" (rExtend2 X) := by
  intro pins s σ H x vs v us Q I rx rv h
  obtain ⟨l, b, xs, zs, rfl, rfl, hH, hB, hz, q⟩ := h
  rcases hB with hB | hB
  · exact mt_extend pins s σ H (.ref l) [.ref b] v us Q I rx rv ⟨l, b, xs, zs, rfl, rfl, hH, hB, hz, q⟩
  cases rx
  obtain ⟨u, rfl, ru⟩ := rv.one
  cases ru
  obtain ⟨z, its, n, r, hl, e⟩ := I.lstM hH
  obtain ⟨its2, r2, pl, hz2⟩ := I.tuple hB
  obtain ⟨⟨cls, dd, dt, sl⟩, ho, hc, n2, hd⟩ := pl
  simp only at hc hd
  subst hc
  subst hd
  have hl1 : xs.length = its.length := r.length
  have hl2 : zs.length = its2.length := r2.length
  have hsz : its.toArray.size + its2.toArray.size ≤ sizeLine := by rw [List.size_toArray, List.size_toArray]; omega
  have hlong : ¬ (!its.toArray.isEmpty && Builtin.List.listTooLong (its.toArray.size + its2.toArray.size)) = true := by
    rw [notLongL hsz, Bool.and_false]
    exact Bool.false_ne_true
  refine call_meets PySem.F.slot_list_extend ⟨_, e, rfl⟩ PySem.F.entry_list_extend (PySem.F.args_list_extend_2 _ _)
    (list_extend_tupS l its.toArray n b its2.toArray n2 dd sl hlong (by rw [List.size_toArray]; omega) (by omega)) ⟨e, ho, ?_⟩
  refine ⟨.non, _, I.lset (its' := its ++ its2) hH e (by simp) (r.append r2) ?_, rfl, q⟩
  rw [List.length_append]
  omega
theorem s_ext (k : CCok X G c) {i : Nat} {x : Str} {e : Ex} {ea : Expr} {p apos cpos : Pos} (hn : nameB c i x = true) (he : SE X G io P W e ea) (hline : (apos.endLine == cpos.line) = true) (hs : starEach [ea] X.env = (false, eval ea X.env) :: starEach [] X.env)
    (hfew : ((backTo cpos (starEach [ea] X.env)).all (fun x => !x.1) && (backToKw cpos (keywordEach [] X.env)).all (fun x => x.1.isSome) && decide ([ea].length + ([] : List Keyword).length + (if ([] : List Keyword).isEmpty then 0 else 1) < 30)) = true) :
    SE X G io P W (.ext i e) (.Call (.Attribute (.Name x p) "extend" apos) [ea] [] cpos) := fun env =>
  pe_imp (pe_bm F.plainAttrs_list F.slot_list_extend (by first | rfl | decide +kernel) mt_extend2 (name_pe k hn) (pa_cons (he env) pa_nil hs) rfl hfew hline hs rfl) fun σ H Q h => by
    obtain ⟨F, S, ok, er, q⟩ := h
    have q' : PostE X G P W σ F H S (extTo i (evE G io e) env) Q := q
    unfold extTo at q'
    cases q0 : own1 env i with
    | none => rw [q0] at q'; exact q'.elim
    | some xs0 =>
      rw [q0] at q'
      refine own_list er q0 fun a ea' ty => ⟨ty, ?_⟩
      have M := Mid.start (p := fun F0 H0 S0 => PostE X G P W σ F0 H0 S0 ((evE G io e env).bind fun d env => match own1 env i, (res env d).bind extI? with
        | some xs, some ys => if xs.length + ys.length ≤ lim then .ok .non (env.set i (some (.lst true (xs ++ ys)))) else .bad
        | _, _ => .bad) Q) ok er q'
      refine tE_mono (Mid.next (m := evE G io e) (post := fun F0 H0 S0 r => PostE X G P W σ F0 H0 S0 r Q) pstE M) fun w H1 ⟨d, env1, e1, M1⟩ => ?_
      cases q1 : own1 env1 i with
      | none => simp only [q1] at M1; exact (M1.no fun F H S z => z).elim
      | some xs =>
        cases q2 : (res env1 d).bind extI? with
        | none => simp only [q1, q2] at M1; exact (M1.no fun F H S z => z).elim
        | some ys =>
          simp only [q1, q2] at M1
          obtain ⟨d', q3, q4⟩ := Option.bind_eq_some_iff.mp q2
          split at M1
          · rename_i hc
            obtain ⟨F0, H0, S0, F1, S1, a0, st, ok1, er1, rc⟩ := M1.res (resL1 q3)
            obtain ⟨w', ew, rc⟩ := rcl1 rc
            cases ew
            have key : ∃ b2 zs, w = .ref b2 ∧ (H1 b2 = some (.lst zs) ∨ SqT X.K H1 b2 zs) ∧ RepL X.K F1 H1 ys zs No := by
              cases d' <;> simp only [extI?] at q4 <;> first | (cases q4; done) | skip
              · cases q4
                obtain ⟨b2, zs, e1, h1, h2⟩ := rc_tup rc
                exact ⟨b2, zs, e1, .inr (ok1.sub.plT h1).seqT, h2⟩
              · cases q4
                obtain ⟨b2, zs, e1, h1, h2⟩ := rc_lst ok1.sub rc
                exact ⟨b2, zs, e1, .inl h1, h2⟩
            obtain ⟨b2, zs, rfl, hz, rz⟩ := key
            obtain ⟨b, vs, U1, UT, eb, hb, sb, n1, n2, dj3, nb1, nb2, er2, rx⟩ := own_at er1 q1
            rw [ea'] at eb
            cases eb
            have hl1 : vs.length = xs.length := rvl_len (σ := σ) (rep_rvl rx)
            have hl2 : zs.length = ys.length := rvl_len (σ := σ) (rep_rvl rz)
            refine ⟨a, b2, vs, zs, rfl, rfl, hb, hz, by rw [hl1, hl2]; exact hc, ?_⟩
            obtain ⟨st2, ok2, er3⟩ := own_write (S1 := U1) (T := Un2 UT No) st ok1 ea' sb n1 (fun z y => y.elim (n2 z) False.elim) (fun z x y => y.elim (dj3 z x) False.elim) nb1 (fun z => z.elim nb2 id) er2 (repL_app' (fun _ _ z => z) rx rz)
            exact a0 .non F1 _ S1 No (ok2.mono fun z y => y.elim id False.elim) (fun _ _ z => z) (st2.weak fun z y => y.elim id False.elim) er3 (RV.to rfl)
          · exact (M1.no fun F H S z => z).elim
end
end DD

set_option Elab.async false
set_option linter.all false
set_option maxRecDepth 100000
set_option maxHeartbeats 1000000
namespace DD
open PySem PySem.Spec PyProof.Rows L2
/-! ### targets -/
section
variable (X : Cx) (G : Glb) (P : List (Nat × V)) (W : WX)
def PostXs (F H : Hp) (S : AS) (x : Nat) (env : Env) : Prop :=
  ∀ σ' F' H' S' cls, Ok F' H' S' → Step F H S F' H' S' → EnvR X.K F' H' P env σ' S' → X.mg (G.nm x) = some cls → W cls none σ' H'
/-- only those slots differ -/
def Dif (ls : List Nat) (σ σ' : L2.St) : Prop := σ'.length = σ.length ∧ ∀ j, j ∉ ls → σ'[j]? = σ[j]?
def PostU (ls : List Nat) (σ : L2.St) (F H : Hp) (S : AS) (r : R Unit) (Q : L2.St → Hp → Prop) : Prop := match r with
  | .ok _ env => ∀ σ' F' H' S', Dif ls σ σ' → Ok F' H' S' → Step F H S F' H' S' → EnvR X.K F' H' P env σ' S' → Q σ' H'
  | .exc x env => PostXs X G P W F H S x env
  | .bad => False
def tG (ls : List Nat) (env : Env) (d : D) (m : D → Env → R Unit) : TG := fun v σ H Q => Mid X P σ env [d] [v] H fun F0 H0 S0 => PostU X G P W ls σ F0 H0 S0 (m d env) Q
def tGs (ls : List Nat) (env : Env) (ds : List D) (m : List D → Env → R Unit) : TGs := fun vs σ H Q => ds.all noPlc = true ∧ Mid X P σ env ds vs H fun F0 H0 S0 => PostU X G P W ls σ F0 H0 S0 (m ds env) Q
end
section
variable {X : Cx} {G : Glb} {io : List Nat} {P : List (Nat × V)} {W : WX} {c : CC}
theorem PostXs.step {F H F1 H1 : Hp} {S S1 T1 : AS} {x : Nat} {env : Env} (h : PostXs X G P W F H S x env) (st : Step F H S F1 H1 (Un2 S1 T1)) : PostXs X G P W F1 H1 S1 x env :=
  fun σ' F' H' S' cls ok st' er hm => h σ' F' H' S' cls ok ((st.trans st').weak fun a z => .inl z) er hm
theorem PostXs.step0 {F H F1 H1 : Hp} {S S1 : AS} {x : Nat} {env : Env} (h : PostXs X G P W F H S x env) (st : Step F H S F1 H1 S1) : PostXs X G P W F1 H1 S1 x env :=
  fun σ' F' H' S' cls ok st' er hm => h σ' F' H' S' cls ok (st.trans0 st') er hm
theorem PostXs.at {F H : Hp} {S : AS} {x : Nat} {env : Env} {σ : L2.St} (h : PostXs X G P W F H S x env) : PostX X G P W σ F H S x env :=
  fun F' H' S' cls ok st er hm => h σ F' H' S' cls ok st er hm
theorem Dif.refl {ls : List Nat} {σ : L2.St} : Dif ls σ σ := ⟨rfl, fun _ _ => rfl⟩
theorem pstU {ls : List Nat} {σ : L2.St} {Q : L2.St → Hp → Prop} : Pst X G P W σ (fun F H S r => PostU X G P W ls σ F H S r Q) := ⟨fun _ _ _ h => h, fun _ _ _ _ _ h => h.at⟩
abbrev SG (X : Cx) (G : Glb) (io : List Nat) (P : List (Nat × V)) (W : WX) (t : Tg) (ast : Expr) : Prop := ∀ env d, PG X ast (tG X G P W t.slots env d (asgT G io t))
abbrev SGs (X : Cx) (G : Glb) (io : List Nat) (P : List (Nat × V)) (W : WX) (ts : Tgs) (asts : List Expr) : Prop := ∀ env ds, PGs X asts (tGs X G P W ts.slots env ds (asgTs G io ts))
theorem pg_imp {e : Expr} {t t' : TG} (h : PG X e t) (q : ∀ v σ H Q, t' v σ H Q → t v σ H Q) : PG X e t' := ⟨fun pins s σ H v u Q I r w => h.run pins s σ H v u Q I r (q v σ H Q w)⟩
theorem pgs_imp {e : List Expr} {t t' : TGs} (h : PGs X e t) (q : ∀ v σ H Q, t' v σ H Q → t v σ H Q) : PGs X e t' := ⟨fun pins s σ H v u Q I r w => h.run pins s σ H v u Q I r (q v σ H Q w)⟩
/-- a name is stored -/
theorem Mid.store {σ : L2.St} {env : Env} {H : Hp} {d : D} {v : V} {i : Nat} {Q : L2.St → Hp → Prop} (pins : ∀ p ∈ P, p.1 ∈ io) (h : Mid X P σ env [d] [v] H fun F0 H0 S0 => PostU X G P W [i] σ F0 H0 S0 (asgNm io i d env) Q) : Q (σ.set i (some v)) H := by
  obtain ⟨F0, H0, S0, F, S, T, a, b, cc, dj, er, w, r, T1, T2, e, m1, m2, dj2, h1, h2⟩ := h
  cases e
  unfold asgNm at a
  split at a
  · rename_i hc
    simp only [Bool.and_eq_true, decide_eq_true_eq, Bool.not_eq_true'] at hc
    have ni : ∀ p ∈ P, p.1 ≠ i := fun p hp e => by
      have := pins p hp
      rw [e] at this
      have h3 := hc.1.2
      rw [List.contains_eq_mem, decide_eq_false_iff_not] at h3
      exact h3 this
    exact a _ F H (Un2 S T1) ⟨List.length_set .., fun j hj => List.getElem?_set_ne fun q => hj (List.mem_singleton.mpr q.symm)⟩ (cc.mono fun z y => y.imp id (m1 z)) (b.weak fun z y => y.imp id (m1 z)) (er.put hc.2 ni (h1.of hc.1.1) fun z x y => dj z x (m1 z y))
  · exact a.elim
theorem s_gnm (C : Ctx X G io P W) (k : CCok X G c) {i : Nat} {x : Str} {pos : Pos} (h : storeB c i x = true) : SG X G io P W (.nm i) (.Name x pos) := fun env d => by
  simp only [storeB, Bool.and_eq_true, decide_eq_true_eq, Bool.or_eq_true] at h
  refine pg_imp (pg_name C.nd (by rw [k.N]; exact h.1.1) (by rw [k.sc]; exact loc_of h.1.2) (by rw [k.fn, k.sc]; exact h.2)) fun v σ H Q M => ?_
  exact Mid.store C.pins M
theorem s_gsub (k : CCok X G c) {i : Nat} {x : Str} {e : Ex} {ea : Expr} {p pos : Pos} (hn : nameB c i x = true) (he : SE X G io P W e ea)
    (ha : ∀ v, assign (.Subscript (.Name x p) ea pos) X.env v = (do
      let ov ← holding [v] (eval (.Name x p) X.env)
      let iv ← holding [v, ov] (eval ea X.env)
      standAt pos
      holding [v, ov, iv] (setItem ov iv v)
      release [v, ov, iv] [])) : SG X G io P W (.sub i e) (.Subscript (.Name x p) ea pos) := fun env d =>
  pg_imp (pg_sub (name_pe k hn) (he env) set_list ha) fun v σ H Q h => by
    have M0 : Mid X P σ env [d] [v] H fun F0 H0 S0 => PostU X G P W [] σ F0 H0 S0 (setTo i (evE G io e) d env) Q := h
    have own : ∃ xs, own1 env i = some xs := by
      cases q : own1 env i with
      | none => exact (M0.no fun F H S z => by unfold setTo at z; rw [q] at z; exact z).elim
      | some xs => exact ⟨xs, rfl⟩
    obtain ⟨xs0, q0⟩ := own
    have M0' : Mid X P σ env [d] [v] H fun F0 H0 S0 => PostU X G P W [] σ F0 H0 S0 ((evE G io e env).bind fun k env => match own1 env i, res env k with
      | some xs, some (.int j) => (match ixN xs.length j with
        | some n => if noPlc d then .ok () (env.set i (some (.lst true (xs.set n d)))) else .bad
        | none => .bad)
      | _, _ => .bad) Q := M0.imp fun F H S z => by unfold setTo at z; rw [q0] at z; exact z
    obtain ⟨F9, H9, S9, F8, S8, T8, _, _, _, _, er8, _⟩ := id M0
    refine own_list er8 q0 fun a ea' ty => ?_
    have key : tE X G P W env (evE G io e) σ H fun kv H2 => rSetL (.ref a) kv v H2 fun H3 => Q σ H3 := by
      refine tE_mono (Mid.next (m := evE G io e) (post := fun F0 H0 S0 r => PostU X G P W [] σ F0 H0 S0 r Q) pstU M0') fun kv H2 ⟨dk, env1, e1, M1⟩ => ?_
      cases q1 : own1 env1 i with
      | none => simp only [q1] at M1; exact (M1.no fun F H S z => z).elim
      | some xs =>
        cases q2 : res env1 dk with
        | none => simp only [q1, q2] at M1; exact (M1.no fun F H S z => z).elim
        | some kd =>
          simp only [q1, q2] at M1
          cases kd <;> first | exact (M1.no fun F H S z => z).elim | skip
          rename_i j
          simp only [] at M1
          cases q3 : ixN xs.length j with
          | none => simp only [q3] at M1; exact (M1.no fun F H S z => z).elim
          | some n =>
            simp only [q3] at M1
            split at M1
            · rename_i np
              obtain ⟨F0, H0, S0, F1, S1, T, a0, st, ok1, dj, er1, kv', r, T1, T2, ek, m1, m2, dj2, h1, w, r', U1, U2, ew, l1, l2, dj3, g1, g2⟩ := M1
              obtain ⟨rfl, rfl⟩ := List.cons.inj ek
              cases ew
              -- the index
              obtain ⟨F1', b1, b2, b3, b4⟩ := resolve (ds := [dk]) (vs := [kv]) (T := T1) (ok1.mono fun z y => y.imp id (m1 z)) (fun z x y => dj z x (m1 z y)) er1 ⟨kv, [], T1, No, rfl, fun _ z => z, fun _ z => z.elim, fun _ _ z => z, h1, rfl⟩ (resL1 q2)
              obtain ⟨kv2, e2, r2⟩ := rcl1 b4
              cases e2
              obtain ⟨b, vs, V1, VT, eb, hb, sb, n1, n2, dj4, nb1, nb2, er2, rx⟩ := own_at er1 q1
              rw [ea'] at eb
              cases eb
              have hlen : vs.length = xs.length := rvl_len (σ := σ) (rep_rvl rx)
              refine ⟨a, vs, j, n, rfl, rc_int r2, hb, by rw [hlen]; exact q3, ?_⟩
              have rd := g1.of np
              have inT : ∀ z, U1 z → T z := fun z y => m2 z (l1 z y)
              have nT : ¬ U1 a := fun z => dj a sb (inT a z)
              have djT : Dj VT U1 := fun z x y => dj z (n2 z x) (inT z y)
              obtain ⟨st2, ok2, er3⟩ := own_write (S1 := V1) (T := Un2 VT U1) (st.weak (T := Un2 S1 U1) fun z y => y.imp id (inT z)) (ok1.mono fun z y => y.imp id (inT z)) ea' (.inl sb) (fun z y => .inl (n1 z y)) (fun z y => y.imp (n2 z) id)
                (fun z x y => y.elim (dj4 z x) fun y => dj z (n1 z x) (inT z y)) nb1 (fun z => z.elim nb2 nT) er2 (repL_set (n := n) djT rx rd)
              exact a0 σ F1 _ (Un2 S1 U1) Dif.refl ok2 st2 er3
            · exact (M1.no fun F H S z => z).elim
    exact key
theorem s_gnil : SGs X G io P W .nil [] := fun env ds => pgs_imp pgs_nil fun vs σ H Q ⟨_, M⟩ => by
  obtain ⟨F0, H0, S0, F, S, T, a, b, cc, dj, er, rv⟩ := M
  cases ds with
  | nil => exact ⟨rv, a σ F H S Dif.refl cc.left (b.weak fun z y => .inl y) er⟩
  | cons d r => exact a.elim
theorem s_gcons {t : Tg} {ts : Tgs} {e : Expr} {es : List Expr} (h1 : SG X G io P W t e) (h2 : SGs X G io P W ts es) (hs : (assignEach (e :: es) X.env).map (·.2) = assign e X.env :: (assignEach es X.env).map (·.2)) : SGs X G io P W (.cons t ts) (e :: es) := fun env ds => by
  cases ds with
  | nil => exact ⟨fun pins s σ H vs us Q I r M => (M.2.no fun F H S z => z).elim⟩
  | cons d ds =>
    refine pgs_imp (pgs_cons (h1 env d) (h2 (R.env (asgT G io t d env) env) ds) hs) fun vs σ H Q ⟨np, M⟩ => ?_
    rw [List.all_cons, Bool.and_eq_true] at np
    obtain ⟨F0, H0, S0, F, S, T, a, st, ok, dj, er, v, r, T1, T2, ev, m1, m2, dj2, g1, g2⟩ := M
    subst ev
    refine ⟨v, r, rfl, F, H, Un2 S T1, F, S, T1, ?_, Step.refl, ok.mono fun z y => y.imp id (m1 z), fun z x y => dj z x (m1 z y), er, v, [], T1, No, rfl, fun _ z => z, fun _ z => z.elim, fun _ _ z => z, g1, rfl⟩
    have a' : PostU X G P W (Tgs.cons t ts).slots σ F0 H0 S0 ((asgT G io t d env).bind fun _ env => asgTs G io ts ds env) Q := a
    cases q : asgT G io t d env with
    | bad => rw [q] at a'; exact a'
    | exc x e1 =>
      rw [q] at a'
      exact PostXs.step0 (S1 := Un2 S T1) a' (st.weak fun z y => y.imp id (m1 z))
    | ok u e1 =>
      rw [q] at a'
      intro σ' F' H' S' df ok' st' er'
      have djA : Dj (Un2 S T1) T2 := fun z x y => x.elim (fun x => dj z x (m2 z y)) fun x => dj2 z x y
      have st0 : Step F0 H0 S0 F H (Un2 (Un2 S T1) T2) := st.weak fun z y => y.elim (fun y => y.imp id (m1 z)) fun y => .inr (m2 z y)
      have ok0 : Ok F H (Un2 (Un2 S T1) T2) := ok.mono fun z y => y.elim (fun y => y.imp id (m1 z)) fun y => .inr (m2 z y)
      have st2 : Step F H (Un2 S T1) F' H' (Un2 S' No) := st'.weak fun a z => z.elim id False.elim
      have ok2 : Ok F' H' (Un2 S' No) := ok'.mono fun a z => z.elim id False.elim
      obtain ⟨a1, a2, a3, a4, a5⟩ := held_on st0 ok0 djA ok2 (fun _ _ z => z) st2
      have a2' : PostU X G P W ts.slots σ' F0 H0 S0 (asgTs G io ts ds e1) Q := by
        have a3' : PostU X G P W (Tgs.cons t ts).slots σ F0 H0 S0 (asgTs G io ts ds e1) Q := a'
        cases q9 : asgTs G io ts ds e1 with
        | bad => rw [q9] at a3'; exact a3'
        | exc x e9 => rw [q9] at a3'; exact a3'
        | ok u9 e9 =>
          rw [q9] at a3'
          exact fun σ2 F2 H2 S2 df2 => a3' σ2 F2 H2 S2 ⟨df2.1.trans df.1, fun j hj => (df2.2 j fun z => hj (List.mem_append_right _ z)).trans (df.2 j fun z => hj (List.mem_append_left _ z))⟩
      exact ⟨np.2, F0, H0, S0, F', S', T2, a2', a1.weak fun a z => z.imp id .inr, a2.mono fun a z => z.imp id .inr, fun a x y => a3 a x (.inr y), er', RVL.keep st'.fle (fun _ z => z) a5 (rep_rvl (rvl_rep np.2 g2))⟩
theorem rep_np {K : PySem.W.Frag} {F H : Hp} {d : D} {v : V} {T : AS} (r : Rep K F H d v T) : noPlc d = true := by
  cases d <;> first | rfl | exact False.elim r
theorem repL_np {K : PySem.W.Frag} {F H : Hp} : ∀ {ds : List D} {vs : List V} {T : AS}, RepL K F H ds vs T → ds.all noPlc = true
  | [], _, _, _ => rfl
  | d :: ds, _, _, ⟨v, r, T1, T2, e, m1, m2, dj, h1, h2⟩ => by rw [List.all_cons, rep_np h1, repL_np h2]; rfl
theorem s_gtup (hc : X.calm = true) {ts : Tgs} {es : List Expr} {kk : Nat} {pos : Pos} (h : SGs X G io P W ts es) (hn : (assignEach es X.env).length = ts.len) (hst : (assignEach es X.env).findIdx? (·.1) = none) : SG X G io P W (.tup ts) (.Tuple es kk pos) := fun env d => by
  by_cases hd : ∃ ds, d = .tup ds
  · obtain ⟨ds, rfl⟩ := hd
    refine pg_imp (pg_tup hc (h env ds) hn hst) fun v σ H Q M => ?_
    obtain ⟨F0, H0, S0, F, S, T, a, st, ok, dj, er, w, r, T1, T2, ev, m1, m2, dj2, g1, g2⟩ := M
    obtain ⟨rfl, -⟩ := List.cons.inj ev
    obtain ⟨p, vs, rfl, hq, rl⟩ := (show Rep X.K F H (.tup ds) v T1 from g1)
    have a' : PostU X G P W ts.slots σ F0 H0 S0 (if ds.length = ts.len then asgTs G io ts ds env else .bad) Q := a
    split at a'
    · rename_i hl
      exact ⟨p, vs, rfl, ok.sub.seqT hq.seqT, by rw [rvl_len (σ := σ) (rep_rvl rl), hl], repL_np rl, F0, H0, S0, F, S, T1, a', st.weak fun z y => y.imp id (m1 z), ok.mono fun z y => y.imp id (m1 z), fun z x y => dj z x (m1 z y), er, rep_rvl rl⟩
    · exact a'.elim
  · by_cases hd2 : ∃ o ds, d = .lst o ds
    · obtain ⟨o, ds, rfl⟩ := hd2
      refine pg_imp (pg_lst hc (h env ds) hn hst) fun v σ H Q M => ?_
      obtain ⟨F0, H0, S0, F, S, T, a, st, ok, dj, er, w, r, T1, T2, ev, m1, m2, dj2, g1, g2⟩ := M
      obtain ⟨rfl, -⟩ := List.cons.inj ev
      obtain ⟨p, vs, rfl, hq, T3, m3, rl⟩ : ∃ p vs, v = .ref p ∧ H p = some (.lst vs) ∧ ∃ T3 : AS, (∀ a, T3 a → T1 a) ∧ RepL X.K F H ds vs T3 := by
        cases o with
        | true =>
          obtain ⟨p, vs, e, h1, h2, h3⟩ := (show Rep X.K F H (.lst true ds) v T1 from g1)
          exact ⟨p, vs, e, h1, _, fun a z => z.1, h3⟩
        | false =>
          obtain ⟨p, vs, e, h1, h2⟩ := (show Rep X.K F H (.lst false ds) v T1 from g1)
          exact ⟨p, vs, e, ok.sub _ _ h1, No, fun a z => z.elim, h2⟩
      have a' : PostU X G P W ts.slots σ F0 H0 S0 (if ds.length = ts.len then asgTs G io ts ds env else .bad) Q := a
      split at a'
      · rename_i hl
        exact ⟨p, vs, rfl, .inl (.inl hq), by rw [rvl_len (σ := σ) (rep_rvl rl), hl], repL_np rl, F0, H0, S0, F, S, T3, a', st.weak fun z y => y.imp id fun y => m1 z (m3 z y), ok.mono fun z y => y.imp id fun y => m1 z (m3 z y), fun z x y => dj z x (m1 z (m3 z y)), er, rep_rvl rl⟩
      · exact a'.elim
    · by_cases hd3 : ∃ x y, d = .pr x y
      · obtain ⟨x, y, rfl⟩ := hd3
        refine pg_imp (pg_tup hc (h env [x, y]) hn hst) fun v σ H Q M => ?_
        obtain ⟨F0, H0, S0, F, S, T, a, st, ok, dj, er, w, r, T1, T2, ev, m1, m2, dj2, g1, g2⟩ := M
        obtain ⟨rfl, -⟩ := List.cons.inj ev
        obtain ⟨p, u1, u2, rfl, hq, r1, r2⟩ := (show Rep X.K F H (.pr x y) v T1 from g1)
        have rl : RepL X.K F H [x, y] [u1, u2] No := ⟨u1, [u2], No, No, rfl, fun _ z => z, fun _ z => z, fun _ z => z.elim, r1, u2, [], No, No, rfl, fun _ z => z, fun _ z => z, fun _ z => z.elim, r2, rfl⟩
        have a' : PostU X G P W ts.slots σ F0 H0 S0 (if 2 = ts.len then asgTs G io ts [x, y] env else .bad) Q := a
        split at a'
        · rename_i hl
          exact ⟨p, [u1, u2], rfl, ok.sub.seqT hq, hl, repL_np rl, F0, H0, S0, F, S, No, a', st.weak fun z y => y.imp id False.elim, ok.mono fun z y => y.imp id False.elim, fun z x y => y, er, rep_rvl rl⟩
        · exact a'.elim
      · exact ⟨fun pins s σ H v u Q I r M => (M.no fun F H S z => by cases d <;> first | exact z | exact hd ⟨_, rfl⟩ | exact hd2 ⟨_, _, rfl⟩ | exact hd3 ⟨_, _, rfl⟩).elim⟩
end
end DD

set_option Elab.async false
set_option linter.all false
set_option maxRecDepth 100000
set_option maxHeartbeats 1000000
namespace DD
open PySem PySem.Spec PyProof.Rows L2
/-! ### enumerate over a tuple -/
section
variable {prog : Program} {w : World} {A : Around} {E : Value → Shared → Prop} {s : Shared}
theorem enum_new1 {v : Value} {o : Obj} {Hh : Heap → Prop} (B : Begins v o Hh) :
    Meets (Builtin.«enumerate.__new__» ⟨[.type "enumerate", v], []⟩) (fun _ R s => Hh s.heap ∧
      R (.ok (.ret (.ref (s.heap.push o).objs.size))) { s with heap := (s.heap.push o).push { cls := .type "enumerate", data := .fields #[.none, .bool false, .ref s.heap.objs.size, rawInt 0, .none, .none] } }) := by
  refine .of_wp fun prog w A R s hh => ?_
  obtain ⟨z, g, d, tk, os⟩ := s
  obtain ⟨hB, hR⟩ := hh
  have hsub := sub_enumerate
  have itv : ∀ {A2 : Around} {E2 : Value → Shared → Prop} {Q2 : Value → Shared → Prop}, Q2 (.ref z.objs.size) ⟨z.push o, g, d, tk, os⟩ → wpAny (model prog w) A2 (pyIter v) Q2 E2 ⟨z, g, d, tk, os⟩ :=
    fun q => B.iter prog w _ _ ⟨z, g, d, tk, os⟩ _ hB q
  wp_walk using itv
  refine wpAny_stack_any fun st => wpAny_pure ?_
  split
  · rename_i cc _ _ _ _ _
    by_cases hcc : (cc == Value.type "enumerate") = true
    · simp only [hcc]; wp_walk using itv
      exact ⟨_, rfl, hR⟩
    · simp only [hcc]; wp_walk using itv
      exact ⟨_, rfl, hR⟩
  · wp_walk using itv
    exact ⟨_, rfl, hR⟩
theorem enum_call1 {v : Value} {o : Obj} {Hh : Heap → Prop} {Q : Value → Shared → Prop} (B : Begins v o Hh) (hB : Hh s.heap)
    (k : ∀ h2, IsEnum h2 (s.heap.objs.size + 1) s.heap.objs.size 0 .none → h2.get? s.heap.objs.size = some o → (∀ b u, s.heap.get? b = some u → h2.get? b = some u) → Q (.ref (s.heap.objs.size + 1)) { s with heap := h2 }) :
    wpAny (model prog w) A (call (.type "enumerate") [v]) Q E s := by
  refine callType_new F.called_enumerate (by decide) (F.typeCall_enumerate_1 v) (F.newCall_enumerate_1 v) (fun obj => F.args_object_init_2 obj v) F.entry_enumerate_new (enum_new1 B) ⟨hB, ?_⟩
  have hz : (s.heap.push o).objs.size = s.heap.objs.size + 1 := Heap.size_push ..
  show _ ∧ _
  rw [hz]
  have he : IsEnum ((s.heap.push o).push { cls := .type "enumerate", data := .fields #[.none, .bool false, .ref s.heap.objs.size, rawInt 0, .none, .none] }) (s.heap.objs.size + 1) s.heap.objs.size 0 .none := by
    have q := Heap.get?_push_size (s.heap.push o) (o := { cls := .type "enumerate", data := .fields #[.none, .bool false, .ref s.heap.objs.size, rawInt 0, .none, .none] }) rfl
    rwa [hz] at q
  exact ⟨⟨_, he, rfl⟩, k _ he (Heap.get?_push_of_some _ (Heap.get?_push_size _ B.free)) fun b u x => Heap.get?_push_of_some _ (Heap.get?_push_of_some _ x)⟩
end
/-- the tuple at a, each item in a new pair -/
def ItE (K : PySem.W.Frag) (a : Addr) : L2.It where
  go := fun i H => ∃ (xs : List V) (x : V), SqT K H a xs ∧ xs[i]? = some x
  yld := fun i H v H' => ∃ T x, v = .ref T ∧ H T = none ∧ H' = upd H T (.tup [.int (i : Nat), x]) ∧ ∀ xs, SqT K H a xs → xs[i]? = some x
  stop := fun i H => ∃ xs : List V, SqT K H a xs ∧ xs.length = i
theorem turn_enumTup {Pg : Program} {w : World} {K : PySem.W.Frag} {elts : List Expr} {kk : Nat} {tpos : Pos} (a e it : Addr) :
    Turn Pg w K (.Tuple elts kk tpos) (ItE K a) [e, it] e (fun i h => (∃ old, IsEnum h e it ((i : Nat) : Int) old) ∧ h.IsTupleIter it a i ∧ e ≠ it ∧ a ≠ it ∧ a ≠ e) where
  mem := List.mem_cons_self
  obj := fun i h st b hb => by
    obtain ⟨⟨old, he⟩, ⟨o, ho, hc, hd⟩, _⟩ := st
    rcases List.mem_cons.mp hb with z | z
    · subst z; exact ⟨_, he, fun v q => nomatch q⟩
    · have z' : b = it := List.mem_singleton.mp z
      subst z'; exact ⟨o, ho, fun v q => by rw [hd] at q; cases q⟩
  keep := fun i h h' st k => ⟨⟨_, k e List.mem_cons_self _ st.1.choose_spec⟩, st.2.1.at fun o q => k it (List.mem_cons_of_mem _ List.mem_cons_self) o q, st.2.2⟩
  item := by
    intro X hP hw hK hc i pins s σ H E I hf st hg
    cases hP; cases hw; cases hK
    obtain ⟨⟨old, he⟩, hit, hne, hai, hae⟩ := st
    obtain ⟨xs, x, hq, hx⟩ := hg
    obtain ⟨its, rv, p, hz⟩ := I.tuple hq
    obtain ⟨u, hu, ru⟩ := rv.get hx
    have hel : e < s.heap.objs.size := Heap.lt_size he
    have hil : it < s.heap.objs.size := Heap.lt_size hit.choose_spec.1
    have hlt : i < its.toArray.size := by
      rw [List.size_toArray]
      exact (List.getElem?_eq_some_iff.mp hu).1
    refine wpAny_pyNext_enum_itemC (Draws.tuple (prog := X.prog) (w := X.w) (A := X.A.in1) (show X.A.in1.handled = none from I.ok.hd hc) it a hai its.toArray) he ⟨hit, show s.heap.IsTuple a its.toArray from p⟩ hlt hne (fun q => (List.mem_cons.mp q).elim (fun z => hne z) fun z => hae (List.mem_singleton.mp z).symm) fun y h' tk hy ho hs' hT hsz hk => ?_
    have ey : y = u := by
      rw [show its.toArray[i]? = some u by simpa using hu] at hy
      exact (Option.some.inj hy).symm
    subst ey
    refine ⟨_, rfl, wpAny_letOwnedTupleGo_enum (s := { s with heap := h', toks := tk + 1 }) ho fun h2 he' sb => ?_⟩
    have hT2 : h2.get? s.heap.objs.size = some { cls := .type "tuple", data := .seq #[.int i tk, y] } := (sb.2 _ (Nat.ne_of_gt hel)).trans hT
    have fresh : ObjOk X.prog X.w (upd H s.heap.objs.size (.tup [.int (i : Nat), x])) h2 s.heap.objs.size (.tup [.int (i : Nat), x]) :=
      ⟨by show 2 ≤ sizeLine; decide, [.int i tk, y], .cons ⟨_, rfl⟩ (.cons ru .nil), ⟨_, hT2, rfl, _, rfl⟩⟩
    have ne : ∀ b, b ∉ [e, it] → b ≠ e ∧ b ≠ it := fun b hb => ⟨fun z => hb (z ▸ List.mem_cons_self), fun z => hb (z ▸ List.mem_cons_of_mem _ List.mem_cons_self)⟩
    have I1 : Inv X pins σ (upd H s.heap.objs.size (.tup [.int (i : Nat), x])) { s with heap := h2, toks := tk + 1 } :=
      I.turnedNew (ch := [e, it]) (fun b ob hb q => (sb.2 b (ne b hb).1).trans (hk b ob (ne b hb).1 (ne b hb).2 q)) hf (Nat.le_refl _) fresh
    have lt : ∀ b ∈ [e, it], b < s.heap.objs.size := fun b hb => (List.mem_cons.mp hb).elim (fun z => z ▸ hel) fun z => (List.mem_singleton.mp z) ▸ hil
    refine ⟨.ref s.heap.objs.size, _, I1, rfl, ⟨_, x, rfl, I.hok.fresh (Nat.le_refl _), rfl, fun ys hy' => by rw [I.tuple_inj hy' hq]; exact hx⟩, ⟨⟨y, ?_⟩, hs'.1.at fun o q => (sb.2 it (Ne.symm hne)).trans q, hne, hai, hae⟩, fun b hb => ?_⟩
    · have e1 : ((i + 1 : Nat) : Int) = (i : Int) + 1 := by omega
      rw [e1]; exact he'
    · rw [upd_ne (Nat.ne_of_lt (lt b hb))]
      exact (hf b hb).1
  done := by
    intro X hP hw hK hc i pins s σ H E I hf st hg
    cases hP; cases hw; cases hK
    obtain ⟨⟨old, he⟩, hit, hne, hai, hae⟩ := st
    obtain ⟨xs, hq, hx⟩ := hg
    obtain ⟨its, rv, p, hz⟩ := I.tuple hq
    obtain ⟨f0, f1, f2, f3, f4, f5⟩ := hf it (List.mem_cons_of_mem _ List.mem_cons_self)
    have hn : i = its.toArray.size := by rw [List.size_toArray, ← rv.length]; exact hx.symm
    have hit' : s.heap.IsTupleIter it a its.toArray.size := by rw [← hn]; exact hit
    exact wpAny_pyNext_enum_endD (Draws.tuple (prog := X.prog) (w := X.w) (A := X.A.in1) (show X.A.in1.handled = none from I.ok.hd hc) it a hai its.toArray) he ⟨hit', show s.heap.IsTuple a its.toArray from p⟩ fun h' eb => ⟨rfl, I.turned (t' := s.toks) (fun b o hb q => eb b o hb q) f0 f1 f3 f4 f5⟩
  self := fun A i s Q E st h => wpAny_pyIter_enum st.1.choose_spec h

/-! ### what an iteration gives -/
/-- J gives the items xs, frozen at F -/
def JOk (K : PySem.W.Frag) (J : L2.It) (xs : List D) (F : Hp) : Prop :=
  ∀ i F' H', Sub F F' → Sub F' H' → (i = xs.length → J.stop i H') ∧ ∀ d, xs[i]? = some d → J.go i H' ∧ ∀ x H2, J.yld i H' x H2 → ∃ F2, Sub F' F2 ∧ Sub F2 H2 ∧ Sub H' H2 ∧ (∀ a, F2 a ≠ none → F' a ≠ none ∨ H' a = none) ∧ Rep K F2 H2 d x No
theorem jok_same {K : PySem.W.Frag} {F' H' : Hp} {d : D} {x : V} (s : Sub F' H') (r : Rep K F' H' d x No) : ∃ F2, Sub F' F2 ∧ Sub F2 H' ∧ Sub H' H' ∧ (∀ a, F2 a ≠ none → F' a ≠ none ∨ H' a = none) ∧ Rep K F2 H' d x No :=
  ⟨F', .refl, s, .refl, fun _ z => .inl z, r⟩
theorem jok_list {K : PySem.W.Frag} {F H : Hp} {xs : List D} {vs : List V} {a : Addr} (hq : SqL K F a vs) (r : RepL K F H xs vs No) : JOk K (Itl K a) xs F := fun i F' H' f s => by
  have h2 : SqL K H' a vs := (f.trans s).seqL hq
  refine ⟨fun e => ⟨vs, h2, by rw [e, repL_len r]; exact Nat.le_refl _⟩, fun d e => ?_⟩
  obtain ⟨v, e1, rv⟩ := repL_get r e
  refine ⟨⟨vs, v, h2, e1⟩, fun x H2 ⟨eH, hx⟩ => ?_⟩
  subst eH
  have := hx vs h2
  rw [e1] at this; cases this
  exact jok_same s (Rep.keep f _ (fun _ z => z) (fun _ _ z => z.elim) rv)
theorem jok_tup {K : PySem.W.Frag} {F H : Hp} {xs : List D} {vs : List V} {a : Addr} (hq : SqT K F a vs) (r : RepL K F H xs vs No) : JOk K (Itt K a) xs F := fun i F' H' f s => by
  have h2 : SqT K H' a vs := (f.trans s).seqT hq
  refine ⟨fun e => ⟨vs, h2, by rw [e, repL_len r]; exact Nat.le_refl _⟩, fun d e => ?_⟩
  obtain ⟨v, e1, rv⟩ := repL_get r e
  refine ⟨⟨vs, v, h2, e1⟩, fun x H2 ⟨eH, hx⟩ => ?_⟩
  subst eH
  have := hx vs h2
  rw [e1] at this; cases this
  exact jok_same s (Rep.keep f _ (fun _ z => z) (fun _ _ z => z.elim) rv)
theorem enumL_get {xs : List D} {i : Nat} {d : D} (h : (enumL xs)[i]? = some d) : ∃ y, xs[i]? = some y ∧ d = .pr (.int (i : Nat)) y := by
  unfold enumL at h
  rw [List.getElem?_map, List.getElem?_zipIdx] at h
  cases e : xs[i]? with
  | none => rw [e] at h; cases h
  | some y => rw [e] at h; simp at h; exact ⟨y, rfl, h.symm⟩
theorem enumL_len (xs : List D) : (enumL xs).length = xs.length := by unfold enumL; rw [List.length_map, List.length_zipIdx]
theorem zipL_get {xs ys : List D} {i : Nat} {d : D} (h : (zipL xs ys)[i]? = some d) : ∃ x y, xs[i]? = some x ∧ ys[i]? = some y ∧ d = .pr x y := by
  unfold zipL at h
  rw [List.getElem?_map] at h
  obtain ⟨⟨x, y⟩, h1, h2⟩ := Option.map_eq_some_iff.mp h
  obtain ⟨e1, e2⟩ := List.getElem?_zip_eq_some.mp h1
  exact ⟨x, y, e1, e2, h2.symm⟩
/-- a new pair of frozen things -/
theorem jok_pair {K : PySem.W.Frag} {F' H' H2 : Hp} {x y : D} {v w z : V} {T : Addr} (s : Sub F' H') (rx : Rep K F' H' x v No) (ry : Rep K F' H' y w No) (hT : H' T = none) (ez : z = .ref T) (eH : H2 = upd H' T (.tup [v, w])) :
    ∃ F2, Sub F' F2 ∧ Sub F2 H2 ∧ Sub H' H2 ∧ (∀ a, F2 a ≠ none → F' a ≠ none ∨ H' a = none) ∧ Rep K F2 H2 (.pr x y) z No := by
  subst ez eH
  have n1 := none_sub s hT
  refine ⟨upd F' T (.tup [v, w]), .upd n1, sub_of_upd s n1 hT, .upd hT, fun a q => ?_, T, v, w, rfl, .inl (.inl upd_same), Rep.keep (.upd n1) _ (fun _ z => z) (fun _ _ z => z.elim) rx, Rep.keep (.upd n1) _ (fun _ z => z) (fun _ _ z => z.elim) ry⟩
  by_cases ha : a = T
  · subst ha; exact .inr hT
  · rw [upd_ne ha] at q; exact .inl q
theorem jok_enumL {K : PySem.W.Frag} {F H : Hp} {xs : List D} {vs : List V} {a : Addr} (hq : SqL K F a vs) (r : RepL K F H xs vs No) : JOk K (Ite K a) (enumL xs) F := fun i F' H' f s => by
  have h2 : SqL K H' a vs := (f.trans s).seqL hq
  refine ⟨fun e => ⟨vs, h2, by rw [e, enumL_len, repL_len r]; exact Nat.le_refl _⟩, fun d e => ?_⟩
  obtain ⟨y, ey, rfl⟩ := enumL_get e
  obtain ⟨v, e1, rv⟩ := repL_get r ey
  refine ⟨⟨vs, v, h2, e1⟩, fun x H2 ⟨T, u, ex, hT, eH, hx⟩ => ?_⟩
  have := hx vs h2
  rw [e1] at this; cases this
  exact jok_pair s (rfl : Rep K F' H' (.int (i : Nat)) (.int (i : Nat)) No) (Rep.keep f _ (fun _ z => z) (fun _ _ z => z.elim) rv) hT ex eH
theorem jok_enumT {K : PySem.W.Frag} {F H : Hp} {xs : List D} {vs : List V} {a : Addr} (hq : SqT K F a vs) (r : RepL K F H xs vs No) : JOk K (ItE K a) (enumL xs) F := fun i F' H' f s => by
  have h2 : SqT K H' a vs := (f.trans s).seqT hq
  refine ⟨fun e => ⟨vs, h2, by rw [e, enumL_len, repL_len r]⟩, fun d e => ?_⟩
  obtain ⟨y, ey, rfl⟩ := enumL_get e
  obtain ⟨v, e1, rv⟩ := repL_get r ey
  refine ⟨⟨vs, v, h2, e1⟩, fun x H2 ⟨T, u, ex, hT, eH, hx⟩ => ?_⟩
  have := hx vs h2
  rw [e1] at this; cases this
  exact jok_pair s (rfl : Rep K F' H' (.int (i : Nat)) (.int (i : Nat)) No) (Rep.keep f _ (fun _ z => z) (fun _ _ z => z.elim) rv) hT ex eH
theorem jok_zipL {K : PySem.W.Frag} {F H : Hp} {xs ys : List D} {vs ws : List V} {a b : Addr} (hq : SqL K F a vs) (r : RepL K F H xs vs No) (hq2 : SqL K F b ws) (r2 : RepL K F H ys ws No) : JOk K (Itz K a b) (zipL xs ys) F := fun i F' H' f s => by
  have h2 : SqL K H' a vs := (f.trans s).seqL hq
  have h3 : SqL K H' b ws := (f.trans s).seqL hq2
  refine ⟨fun e => ⟨vs, ws, h2, h3, ?_⟩, fun d e => ?_⟩
  · rw [← repL_len r, ← repL_len r2, e]
    unfold zipL
    rw [List.length_map, List.length_zip]
    omega
  · obtain ⟨x, y, ex, ey, rfl⟩ := zipL_get e
    obtain ⟨v, e1, rv⟩ := repL_get r ex
    obtain ⟨w, e2, rw'⟩ := repL_get r2 ey
    refine ⟨⟨vs, ws, v, w, h2, h3, e1, e2⟩, fun z H2 ⟨T, u, u2, ez, hT, eH, hx, hy⟩ => ?_⟩
    have q1 := hx vs h2
    have q2 := hy ws h3
    rw [e1] at q1; cases q1
    rw [e2] at q2; cases q2
    exact jok_pair s (Rep.keep f _ (fun _ z => z) (fun _ _ z => z.elim) rv) (Rep.keep f _ (fun _ z => z) (fun _ _ z => z.elim) rw') hT ez eH
theorem jok_zipT {K : PySem.W.Frag} {F H : Hp} {xs ys : List D} {vs ws : List V} {a b : Addr} (hq : SqT K F a vs) (r : RepL K F H xs vs No) (hq2 : SqT K F b ws) (r2 : RepL K F H ys ws No) : JOk K (RZ.ItzT K a b) (zipL xs ys) F := fun i F' H' f s => by
  have h2 : SqT K H' a vs := (f.trans s).seqT hq
  have h3 : SqT K H' b ws := (f.trans s).seqT hq2
  refine ⟨fun e => ⟨vs, ws, h2, h3, ?_⟩, fun d e => ?_⟩
  · rw [← repL_len r, ← repL_len r2, e]
    unfold zipL
    rw [List.length_map, List.length_zip]
    omega
  · obtain ⟨x, y, ex, ey, rfl⟩ := zipL_get e
    obtain ⟨v, e1, rv⟩ := repL_get r ex
    obtain ⟨w, e2, rw'⟩ := repL_get r2 ey
    refine ⟨⟨vs, ws, v, w, h2, h3, e1, e2⟩, fun z H2 ⟨T, u, u2, ez, hT, eH, hx, hy⟩ => ?_⟩
    have q1 := hx vs h2
    have q2 := hy ws h3
    rw [e1] at q1; cases q1
    rw [e2] at q2; cases q2
    exact jok_pair s (Rep.keep f _ (fun _ z => z) (fun _ _ z => z.elim) rv) (Rep.keep f _ (fun _ z => z) (fun _ _ z => z.elim) rw') hT ez eH
theorem jok_rng {K : PySem.W.Frag} {F : Hp} (lo hi : Int) : JOk K (Itr lo (hi - lo).toNat) (rngL lo hi) F := fun i F' H' f s => by
  refine ⟨fun e => by rw [e, rngL_len]; exact Nat.le_refl _, fun d e => ?_⟩
  have hl : i < (rngL lo hi).length := (List.getElem?_eq_some_iff.mp e).1
  rw [rngL_len] at hl
  refine ⟨hl, fun x H2 ⟨eH, ex⟩ => ?_⟩
  subst eH ex
  have ed : d = .int (lo + (i : Nat)) := by
    unfold rngL at e
    rw [List.getElem?_map, List.getElem?_range hl] at e
    simpa using e.symm
  subst ed
  exact jok_same s rfl
theorem jok_dn {K : PySem.W.Frag} {F : Hp} (hi lo : Int) : JOk K (Itc hi (-1) (hi - lo).toNat) (dnL hi lo) F := fun i F' H' f s => by
  refine ⟨fun e => by rw [e, dnL_len]; exact Nat.le_refl _, fun d e => ?_⟩
  have hl : i < (dnL hi lo).length := (List.getElem?_eq_some_iff.mp e).1
  rw [dnL_len] at hl
  refine ⟨hl, fun x H2 ⟨eH, ex⟩ => ?_⟩
  subst eH ex
  have ed : d = .int (hi + (i : Nat) * (-1)) := by
    unfold dnL at e
    rw [List.getElem?_map, List.getElem?_range hl] at e
    simpa using e.symm
  subst ed
  exact jok_same s rfl
theorem jok_str {K : PySem.W.Frag} {F : Hp} {z : Str} (ok : PyData.strOk z = true) : JOk K (Its z) (z.cps.toList.map fun c => .str ⟨#[c]⟩) F := fun i F' H' f s => by
  refine ⟨fun e => by rw [e, List.length_map]; exact Nat.le_of_eq (Array.length_toList).symm, fun d e => ?_⟩
  rw [List.getElem?_map] at e
  obtain ⟨c, ec, rfl⟩ := Option.map_eq_some_iff.mp e
  have hl : i < z.cps.size := by
    have := (List.getElem?_eq_some_iff.mp ec).1
    rwa [Array.length_toList] at this
  refine ⟨hl, fun x H2 ⟨eH, c', ec', ex⟩ => ?_⟩
  subst eH ex
  have : c' = c := by
    rw [Array.getElem?_toList] at ec
    rw [ec] at ec'; cases ec'; rfl
  subst this
  have hok : PyData.strOk ⟨#[c']⟩ = true := by
    unfold PyData.strOk at *
    have hm : c' ∈ z.cps := by
      have := List.mem_of_getElem? ec
      simpa using this
    have := (Array.all_eq_true'.mp ok) c' hm
    simp at this ⊢
    exact this
  exact jok_same s ⟨rfl, hok⟩
end DD

set_option Elab.async false
set_option linter.all false
set_option maxRecDepth 100000
set_option maxHeartbeats 1000000
namespace DD
open PySem PySem.Spec PyProof.Rows L2
section
variable {X : Cx} {tg : Expr}
/-- a list, a tuple, a text -/
def iAny (K : PySem.W.Frag) (te : TE) : TI := fun σ H R => te σ H fun x H1 => (∃ a xs, x = .ref a ∧ SqL K H1 a xs ∧ R (Itl K a) H1) ∨ (∃ a xs, x = .ref a ∧ SqT K H1 a xs ∧ R (Itt K a) H1) ∨ (∃ z, x = .str z ∧ R (Its z) H1)
theorem pi_any {e : Expr} {te : TE} (he : PE X e te) : PI X tg e (iAny X.K te) := by
  refine ⟨fun pins s σ H R I h => ?_⟩
  refine thn (he.run pins s σ H _ I h) fun v s1 ⟨x, H1, I1, r1, q1⟩ => ?_
  have ft : ∀ b ∈ [s1.heap.objs.size], FpOk X pins H1 b := fun b hb => by
    rw [List.mem_singleton.mp hb]
    exact I1.fpOk (Nat.le_refl _) (I1.hok.fresh (Nat.le_refl _))
  rcases q1 with ⟨a, xs, rfl, hq, q⟩ | ⟨a, xs, rfl, hq, q⟩ | ⟨z, rfl, q⟩
  · obtain rfl : v = .ref a := r1
    obtain ⟨its, _, p, _⟩ := I1.list hq
    exact wpAny_pyIter_list p.isList ⟨_, _, _, _, H1, rfl, I1.kept (t' := s1.toks) fun b o => Heap.get?_push_of_some _, turn_list a _, ⟨_, Heap.get?_push_size _ rfl, rfl, rfl⟩, ft, q⟩
  · obtain rfl : v = .ref a := r1
    obtain ⟨its, _, p, _⟩ := I1.tuple hq
    exact wpAny_pyIter_tuple (show s1.heap.IsTuple a its.toArray from p) ⟨_, _, _, _, H1, rfl, I1.kept (t' := s1.toks) fun b o => Heap.get?_push_of_some _, turn_tuple a _, ⟨_, Heap.get?_push_size _ rfl, rfl, rfl⟩, ft, q⟩
  · obtain ⟨t, rfl⟩ := r1
    cases ha : z.cps.all (· < 128)
    · exact wpAny_pyIter_wide ha (pi_one (tk := s1.toks) I1 _ (turn_str _ z t _ (.inr rfl)) ⟨_, Heap.get?_push_size _ rfl, rfl, rfl⟩ q)
    · exact wpAny_pyIter_ascii ha (pi_one (tk := s1.toks) I1 _ (turn_str _ z t _ (.inl rfl)) ⟨_, Heap.get?_push_size _ rfl, rfl, rfl⟩ q)
def iEn (K : PySem.W.Frag) (ta : TA) : TI := fun σ H R => ta σ H fun vs H1 => ∃ a xs, vs = [.ref a] ∧ ((SqL K H1 a xs ∧ R (Ite K a) H1) ∨ (SqT K H1 a xs ∧ R (ItE K a) H1))
theorem pi_en {e : Expr} {ta : TA} {p pos tpos : Pos} {elts : List Expr} {kk : Nat} (hg : L2.Gl X "enumerate") (hm : X.mg "enumerate" = none) (ha : PA X [e] ta) (hs : starEach [e] X.env = [(false, eval e X.env)]) :
    PI X (.Tuple elts kk tpos) (.Call (.Name "enumerate" p) [e] [] pos) (iEn X.K ta) := by
  refine ⟨fun pins s σ H R I h => ?_⟩
  refine Call_ (ld_blt I hg hm boot_enumerate (PyProof.Rows.callWith_type1 (thn (ha.run pos pins s σ H _ I h) fun us s1 ⟨vs, H1, I1, r1, a, xs, ev, q⟩ => ?_) hs rfl))
  subst ev
  obtain ⟨u, rfl, ru⟩ := vals1 r1
  obtain rfl : u = .ref a := ru
  have ft : ∀ b ∈ [s1.heap.objs.size + 1, s1.heap.objs.size], FpOk X pins H1 b := fun b hb => by
    have hle : s1.heap.objs.size ≤ b := (List.mem_cons.mp hb).elim (fun z => z ▸ Nat.le_succ _) fun z => (List.mem_singleton.mp z) ▸ Nat.le_refl _
    exact I1.fpOk hle (I1.hok.fresh hle)
  rcases q with ⟨hq, q⟩ | ⟨hq, q⟩
  · obtain ⟨its, _, pl, _⟩ := I1.list hq
    refine enum_call1 (begins_list a its.toArray) pl.isList fun h2 he ho k => wpAny_pyIter_enum he ?_
    exact ⟨_, [_, _], _, _, H1, rfl, I1.kept (t' := s1.toks) k, turn_enum a _ _, ⟨⟨_, he⟩, ⟨_, ho, rfl, rfl⟩, Nat.succ_ne_self _⟩, ft, q⟩
  · obtain ⟨its, _, pl, _⟩ := I1.tuple hq
    have hlt : a < s1.heap.objs.size := Heap.lt_size pl.choose_spec.1
    refine enum_call1 (begins_tuple a its.toArray) (show s1.heap.IsTuple a its.toArray from pl) fun h2 he ho k => wpAny_pyIter_enum he ?_
    exact ⟨_, [_, _], _, _, H1, rfl, I1.kept (t' := s1.toks) k, turn_enumTup a _ _, ⟨⟨_, he⟩, ⟨_, ho, rfl, rfl⟩, Nat.succ_ne_self _, Nat.ne_of_lt hlt, Nat.ne_of_lt (Nat.lt_succ_of_lt hlt)⟩, ft, q⟩
end
section
variable (X : Cx) (G : Glb) (P : List (Nat × V)) (W : WX)
def PostI (σ : L2.St) (F H : Hp) (S : AS) (r : R (List D)) (Rq : L2.It → Hp → Prop) : Prop := match r with
  | .ok xs env => ∀ J F' H' S', Ok F' H' S' → Step F H S F' H' S' → EnvR X.K F' H' P env σ S' → JOk X.K J xs F' → Rq J H'
  | .exc x env => PostX X G P W σ F H S x env
  | .bad => False
def tI (env : Env) (m : Env → R (List D)) : TI := fun σ H Rq => ∃ F S, Ok F H S ∧ EnvR X.K F H P env σ S ∧ PostI X G P W σ F H S (m env) Rq
end
section
variable {X : Cx} {G : Glb} {io : List Nat} {P : List (Nat × V)} {W : WX} {c : CC}
theorem pstI {σ : L2.St} {Rq : L2.It → Hp → Prop} : Pst X G P W σ (fun F H S r => PostI X G P W σ F H S r Rq) := ⟨fun _ _ _ h => h, fun _ _ _ _ _ h => h⟩
theorem pi_imp {tg e : Expr} {t t' : TI} (h : PI X tg e t) (q : ∀ σ H Q, t' σ H Q → t σ H Q) : PI X tg e t' := ⟨fun pins s σ H Q I w => h.run pins s σ H Q I (q σ H Q w)⟩
abbrev SI (X : Cx) (G : Glb) (io : List Nat) (P : List (Nat × V)) (W : WX) (it : It) (tg ast : Expr) : Prop := ∀ env, PI X tg ast (tI X G P W env (evI G io it))
theorem Mid.ofI {σ : L2.St} {H : Hp} {env : Env} {m : Env → R (List D)} {Rq : L2.It → Hp → Prop} (h : tI X G P W env m σ H Rq) : Mid X P σ env [] [] H (fun F0 H0 S0 => PostI X G P W σ F0 H0 S0 (m env) Rq) := by
  obtain ⟨F, S, ok, er, h⟩ := h
  exact Mid.start ok er h
theorem resL_len {env : Env} : ∀ {ds ds2 : List D}, resL env ds = some ds2 → ds2.length = ds.length
  | [], _, h => by cases h; rfl
  | d :: ds, ds2, h => by
    unfold resL at h
    cases q1 : res env d with
    | none => rw [q1] at h; cases h
    | some x =>
      cases q2 : resL env ds with
      | none => rw [q1, q2] at h; cases h
      | some xs => rw [q1, q2] at h; cases h; rw [List.length_cons, List.length_cons, resL_len q2]
theorem seqOf_no {x : D} (h : noPlc x = true) (env : Env) : res env x = some x.fz := by cases x <;> first | rfl | simp [noPlc] at h
theorem rep_fz {K : PySem.W.Frag} {F H : Hp} {d : D} {v : V} (r : RC K F H d.fz v) : Rep K F H d.fz v No := Rep.fzd _ (fz_isFz d) r.2.choose_spec
theorem isFz_lst {o : Bool} {xs : List D} {d : D} (h : d.fz = .lst o xs) : o = false := by
  cases d <;> simp only [D.fz] at h <;> first | cases h; done | skip
  cases h; rfl
theorem jok_seq {K : PySem.W.Frag} {F H : Hp} {d : D} {v : V} {xs : List D} (r : Rep K F H d.fz v No) (e : seq? d.fz = some xs) : ∃ a vs, v = .ref a ∧ RepL K F H xs vs No ∧ ((SqL K F a vs) ∨ (SqT K F a vs)) := by
  cases q : d.fz with
  | tup ys => rw [q] at r e; cases e; obtain ⟨a, vs, e1, h1, h2⟩ := r; exact ⟨a, vs, e1, h2, .inr h1.seqT⟩
  | lst o ys =>
    have := isFz_lst q
    subst this
    rw [q] at r e; cases e; obtain ⟨a, vs, e1, h1, h2⟩ := r; exact ⟨a, vs, e1, h2, .inl (SqL.of h1)⟩
  | ext ys => rw [q] at r e; cases e; obtain ⟨a, vs, e1, h1, h2⟩ := r; exact ⟨a, vs, e1, h2, .inl h1⟩
  | _ => rw [q] at e; simp [seq?] at e
theorem s_ival {e : Ex} {tg ea : Expr} (he : SE X G io P W e ea) : SI X G io P W (.val e) tg ea := fun env =>
  pi_imp (pi_any (he env)) fun σ H Rq h => by
    have M : Mid X P σ env [] [] H fun F0 H0 S0 => PostI X G P W σ F0 H0 S0 (itemsOf (evE G io e) id env) Rq := Mid.ofI h
    refine tE_mono (Mid.next (m := evE G io e) (post := fun F0 H0 S0 r => PostI X G P W σ F0 H0 S0 r Rq) pstI M) fun v H1 ⟨d, env1, e1, M1⟩ => ?_
    cases np : noPlc d with
    | false => simp only [np] at M1; exact (M1.no fun F H S z => z).elim
    | true =>
      cases q2 : items? d.fz with
      | none => simp only [np, q2, if_true] at M1; exact (M1.no fun F H S z => z).elim
      | some xs =>
        simp only [np, q2, if_true] at M1
        obtain ⟨F0, H0, S0, F, S, a, b, cc, er, rc⟩ := M1.res (resL1 (seqOf_no np env1))
        obtain ⟨v', e', r⟩ := rcl1 rc
        cases e'
        have r' := rep_fz r
        have fin : ∀ J, JOk X.K J xs F → Rq J H1 := fun J j => a J F H1 S cc b er j
        by_cases hs : ∃ z, d.fz = .str z
        · obtain ⟨z, ez⟩ := hs
          rw [ez] at r' q2
          cases q2
          exact .inr (.inr ⟨z, r'.1, fin _ (jok_str r'.2)⟩)
        · have q3 : seq? d.fz = some xs := by
            rw [← q2]
            cases ez : d.fz <;> first | rfl | exact (hs ⟨_, ez⟩).elim
          obtain ⟨p, vs, rfl, rl, hq⟩ := jok_seq r' q3
          rcases hq with hq | hq
          · exact .inl ⟨p, vs, rfl, cc.sub.seqL hq, fin _ (jok_list hq rl)⟩
          · exact .inr (.inl ⟨p, vs, rfl, cc.sub.seqT hq, fin _ (jok_tup hq rl)⟩)
theorem s_ienum {e : Ex} {ea : Expr} {p pos tpos : Pos} {elts : List Expr} {kk : Nat} (hg : L2.Gl X "enumerate") (hm : X.mg "enumerate" = none) (he : SE X G io P W e ea) (hs : starEach [ea] X.env = [(false, eval ea X.env)]) :
    SI X G io P W (.enum e) (.Tuple elts kk tpos) (.Call (.Name "enumerate" p) [ea] [] pos) := fun env =>
  pi_imp (pi_en hg hm (pa_cons (he env) pa_nil (by rw [hs]; rfl)) hs) fun σ H Rq h => by
    have M : Mid X P σ env [] [] H fun F0 H0 S0 => PostI X G P W σ F0 H0 S0 (seqOf (evE G io e) enumL env) Rq := Mid.ofI h
    refine tE_mono (Mid.next (m := evE G io e) (post := fun F0 H0 S0 r => PostI X G P W σ F0 H0 S0 r Rq) pstI M) fun v H1 ⟨d, env1, e1, M1⟩ => ?_
    cases np : noPlc d with
    | false => simp only [np] at M1; exact (M1.no fun F H S z => z).elim
    | true =>
      cases q2 : seq? d.fz with
      | none => simp only [np, q2, if_true] at M1; exact (M1.no fun F H S z => z).elim
      | some xs =>
        simp only [np, q2, if_true] at M1
        obtain ⟨F0, H0, S0, F, S, a, b, cc, er, rc⟩ := M1.res (resL1 (seqOf_no np env1))
        obtain ⟨v', e', r⟩ := rcl1 rc
        cases e'
        obtain ⟨p, vs, rfl, rl, hq⟩ := jok_seq (rep_fz r) q2
        refine ⟨p, vs, rfl, ?_⟩
        rcases hq with hq | hq
        · exact .inl ⟨cc.sub.seqL hq, a _ F H1 S cc b er (jok_enumL hq rl)⟩
        · exact .inr ⟨cc.sub.seqT hq, a _ F H1 S cc b er (jok_enumT hq rl)⟩
theorem s_irng1 {a : Ex} {tg ea : Expr} {p pos : Pos} (hg : L2.Gl X "range") (hm : X.mg "range" = none) (ha : SA X G io P W (.cons a .nil) [ea]) (hs : starEach [ea] X.env = [(false, eval ea X.env)]) :
    SI X G io P W (.rng (.cons a .nil)) tg (.Call (.Name "range" p) [ea] [] pos) := fun env =>
  pi_imp (pi_range1 hg hm (ha env) hs) fun σ H Rq h => by
    have M : Mid X P σ env [] [] H fun F0 H0 S0 => PostI X G P W σ F0 H0 S0 (withL (evA G io (.cons a .nil)) (fun xs env => liftO (rng? xs) env) env) Rq := Mid.ofI h
    refine tL_mono (Mid.nextL (m := evA G io (.cons a .nil)) (post := fun F0 H0 S0 r => PostI X G P W σ F0 H0 S0 r Rq) pstI M) fun vs H1 ⟨ds, env1, e1, M1⟩ => ?_
    rw [List.append_nil] at M1
    rw [List.append_nil] at M1
    cases q1 : resL env1 ds with
    | none => simp only [q1] at M1; exact (M1.no fun F H S z => z).elim
    | some ds' =>
      cases q2 : rng? ds' with
      | none => simp only [q1, q2, liftO] at M1; exact (M1.no fun F H S z => z).elim
      | some xs =>
        simp only [q1, q2, liftO] at M1
        obtain ⟨F0, H0, S0, F, S, a0, b, cc, er, rc⟩ := M1.res q1
        have one : ds'.length = 1 := by
          have h1 : ∀ {es : Exs} {env env' : Env} {ds : List D}, evA G io (.cons a .nil) env = .ok ds env' → ds.length = 1 := by
            intro es env env' ds hh
            have hh' : ((evE G io a env).bind fun d env => (R.ok [] env).bind fun ds env => .ok (d :: ds) env) = .ok ds env' := hh
            cases q : evE G io a env with
            | ok d e2 => rw [q] at hh'; cases hh'; rfl
            | exc => rw [q] at hh'; cases hh'
            | bad => rw [q] at hh'; cases hh'
          rw [resL_len q1]
          exact h1 (es := .nil) e1
        match ds', one, q2, rc with
        | [d], _, q2, rc =>
          obtain ⟨j, rfl, b1, b2, rfl⟩ := rng_one q2
          obtain ⟨v, rfl, r⟩ := rcl1 rc
          refine ⟨j, by rw [rc_int r], b1, b2, ?_⟩
          have z := jok_rng (K := X.K) (F := F) 0 j
          rw [Int.sub_zero] at z
          exact a0 _ F H1 S cc b er z
theorem s_irng2 {a b : Ex} {tg ea eb : Expr} {p pos : Pos} (hg : L2.Gl X "range") (hm : X.mg "range" = none) (ha : SA X G io P W (.cons a (.cons b .nil)) [ea, eb]) (hs : starEach [ea, eb] X.env = [(false, eval ea X.env), (false, eval eb X.env)]) (hs2 : starEach [eb] X.env = [(false, eval eb X.env)]) :
    SI X G io P W (.rng (.cons a (.cons b .nil))) tg (.Call (.Name "range" p) [ea, eb] [] pos) := fun env =>
  pi_imp (pi_range2 hg hm (ha env) hs hs2) fun σ H Rq h => by
    have M : Mid X P σ env [] [] H fun F0 H0 S0 => PostI X G P W σ F0 H0 S0 (withL (evA G io (.cons a (.cons b .nil))) (fun xs env => liftO (rng? xs) env) env) Rq := Mid.ofI h
    refine tL_mono (Mid.nextL (m := evA G io (.cons a (.cons b .nil))) (post := fun F0 H0 S0 r => PostI X G P W σ F0 H0 S0 r Rq) pstI M) fun vs H1 ⟨ds, env1, e1, M1⟩ => ?_
    rw [List.append_nil] at M1
    rw [List.append_nil] at M1
    cases q1 : resL env1 ds with
    | none => simp only [q1] at M1; exact (M1.no fun F H S z => z).elim
    | some ds' =>
      cases q2 : rng? ds' with
      | none => simp only [q1, q2, liftO] at M1; exact (M1.no fun F H S z => z).elim
      | some xs =>
        simp only [q1, q2, liftO] at M1
        obtain ⟨F0, H0, S0, F, S, a0, b', cc, er, rc⟩ := M1.res q1
        have two : ds'.length = 2 := by
          rw [resL_len q1]
          have hh' : ((evE G io a env).bind fun d env => ((evE G io b env).bind fun d env => (R.ok [] env).bind fun ds env => .ok (d :: ds) env).bind fun ds env => .ok (d :: ds) env) = .ok ds env1 := e1
          cases q : evE G io a env with
          | ok d e2 =>
            rw [q] at hh'
            simp only [R.bind] at hh'
            cases q' : evE G io b e2 with
            | ok d' e3 => rw [q'] at hh'; cases hh'; rfl
            | exc => rw [q'] at hh'; cases hh'
            | bad => rw [q'] at hh'; cases hh'
          | exc => rw [q] at hh'; cases hh'
          | bad => rw [q] at hh'; cases hh'
        match ds', two, q2, rc with
        | [d, d'], _, q2, rc =>
          obtain ⟨i, j, rfl, rfl, b1, b2, b3, b4, rfl⟩ := rng_two q2
          obtain ⟨v, w, rfl, r, r'⟩ := rcl2 rc
          refine ⟨i, j, by rw [rc_int r, rc_int r'], ⟨b1, b2, b3, b4⟩, a0 _ F H1 S cc b' er (jok_rng i j)⟩
theorem s_irng3 {a b c : Ex} {tg ea eb ec : Expr} {p pos : Pos} (hg : L2.Gl X "range") (hm : X.mg "range" = none) (ha : SA X G io P W (.cons a (.cons b (.cons c .nil))) [ea, eb, ec]) (hs : starEach [ea, eb, ec] X.env = (false, eval ea X.env) :: starEach [eb, ec] X.env) (hpl : (backTo pos (starEach [eb, ec] X.env)).any (·.1) = false) :
    SI X G io P W (.rng (.cons a (.cons b (.cons c .nil)))) tg (.Call (.Name "range" p) [ea, eb, ec] [] pos) := fun env =>
  pi_imp (pi_range3 hg hm (ha env) hs hpl) fun σ H Rq h => by
    have M : Mid X P σ env [] [] H fun F0 H0 S0 => PostI X G P W σ F0 H0 S0 (withL (evA G io (.cons a (.cons b (.cons c .nil)))) (fun xs env => liftO (rng? xs) env) env) Rq := Mid.ofI h
    refine tL_mono (Mid.nextL (m := evA G io (.cons a (.cons b (.cons c .nil)))) (post := fun F0 H0 S0 r => PostI X G P W σ F0 H0 S0 r Rq) pstI M) fun vs H1 ⟨ds, env1, e1, M1⟩ => ?_
    rw [List.append_nil] at M1
    rw [List.append_nil] at M1
    cases q1 : resL env1 ds with
    | none => simp only [q1] at M1; exact (M1.no fun F H S z => z).elim
    | some ds' =>
      cases q2 : rng? ds' with
      | none => simp only [q1, q2, liftO] at M1; exact (M1.no fun F H S z => z).elim
      | some xs =>
        simp only [q1, q2, liftO] at M1
        obtain ⟨F0, H0, S0, F, S, a0, b', cc, er, rc⟩ := M1.res q1
        have three : ds'.length = 3 := by
          rw [resL_len q1]
          have hh' : ((evE G io a env).bind fun d env => ((evE G io b env).bind fun d env => ((evE G io c env).bind fun d env => (R.ok [] env).bind fun ds env => .ok (d :: ds) env).bind fun ds env => .ok (d :: ds) env).bind fun ds env => .ok (d :: ds) env) = .ok ds env1 := e1
          cases q : evE G io a env with
          | ok d e2 =>
            rw [q] at hh'
            simp only [R.bind] at hh'
            cases q' : evE G io b e2 with
            | ok d' e3 =>
              rw [q'] at hh'
              simp only [R.bind] at hh'
              cases q'' : evE G io c e3 with
              | ok d'' e4 => rw [q''] at hh'; cases hh'; rfl
              | exc => rw [q''] at hh'; cases hh'
              | bad => rw [q''] at hh'; cases hh'
            | exc => rw [q'] at hh'; cases hh'
            | bad => rw [q'] at hh'; cases hh'
          | exc => rw [q] at hh'; cases hh'
          | bad => rw [q] at hh'; cases hh'
        match ds', three, q2, rc with
        | [d, d', d''], _, q2, rc =>
          obtain ⟨i, j, rfl, rfl, rfl, b1, b2, b3, b4, rfl⟩ := rng_three q2
          obtain ⟨v, w, u, rfl, r, r', r''⟩ := rcl3 rc
          refine ⟨i, j, -1, (i - j).toNat, by rw [rc_int r, rc_int r', rc_int r''], RgC.neg b1 b2 b3 b4, a0 _ F H1 S cc b' er (jok_dn i j)⟩
theorem zip_of {x y : D} {zs : List D} (h : zip? x y = some zs) : (∃ xs ys, x = .tup xs ∧ y = .tup ys ∧ zs = zipL xs ys) ∨ ∃ o o' xs ys, x = .lst o xs ∧ y = .lst o' ys ∧ zs = zipL xs ys := by
  unfold zip? at h
  split at h
  · cases h; exact .inl ⟨_, _, rfl, rfl, rfl⟩
  · cases h; exact .inr ⟨_, _, _, _, rfl, rfl, rfl⟩
  · cases h
theorem s_izip {a b : Ex} {ea eb : Expr} {p pos tpos : Pos} {elts : List Expr} {kk : Nat} (hg : L2.Gl X "zip") (hm : X.mg "zip" = none) (ha : SE X G io P W a ea) (hb : SE X G io P W b eb) (hs : starEach [ea, eb] X.env = (false, eval ea X.env) :: starEach [eb] X.env) (hs2 : starEach [eb] X.env = (false, eval eb X.env) :: starEach [] X.env) (hpl : (backTo pos (starEach [eb] X.env)).any (·.1) = false) :
    SI X G io P W (.zip a b) (.Tuple elts kk tpos) (.Call (.Name "zip" p) [ea, eb] [] pos) := fun env =>
  pi_imp (RZ.pi_zipA hg hm (pa_cons (ha env) (pa_cons (hb (R.env (evE G io a env) env)) pa_nil hs2) hs) hs hpl) fun σ H Rq h => by
    have M : Mid X P σ env [] [] H fun F0 H0 S0 => PostI X G P W σ F0 H0 S0 ((evE G io a env).bind fun x env => (evE G io b env).bind fun y env => if noPlc x && noPlc y then (match zip? x.fz y.fz with | some xs => .ok xs env | none => .bad) else .bad) Rq := Mid.ofI h
    refine tE_mono (Mid.next (m := evE G io a) (post := fun F0 H0 S0 r => PostI X G P W σ F0 H0 S0 r Rq) pstI M) fun v H1 ⟨x, env1, e1, M1⟩ => ?_
    refine mono_eq e1 (Mid.next (m := evE G io b) (post := fun F0 H0 S0 r => PostI X G P W σ F0 H0 S0 r Rq) pstI M1) fun w H2 ⟨y, env2, e2, M2⟩ => ?_
    cases np : noPlc x && noPlc y with
    | false => simp only [np] at M2; exact (M2.no fun F H S z => z).elim
    | true =>
      cases q1 : zip? x.fz y.fz with
      | none => simp only [np, q1, if_true] at M2; exact (M2.no fun F H S z => z).elim
      | some zs =>
        simp only [np, q1, if_true] at M2
        rw [Bool.and_eq_true] at np
        obtain ⟨F0, H0, S0, F, S, a0, st, cc, er, rc⟩ := M2.res (resL2 (seqOf_no np.1 env2) (seqOf_no np.2 env2))
        obtain ⟨w', v', e', r1, r2⟩ := rcl2 rc
        cases e'
        have r1' := rep_fz r1
        have r2' := rep_fz r2
        rcases zip_of q1 with ⟨xs, ys, ex, ey, rfl⟩ | ⟨o, o', xs, ys, ex, ey, rfl⟩
        · rw [ex] at r2'
          rw [ey] at r1'
          obtain ⟨p1, vs, rfl, hq1, rl1⟩ := r2'
          obtain ⟨p2, ws, rfl, hq2, rl2⟩ := r1'
          exact ⟨p1, p2, vs, ws, rfl, .inr ⟨cc.sub.seqT hq1.seqT, cc.sub.seqT hq2.seqT, a0 _ F H2 S cc st er (jok_zipT hq1.seqT rl1 hq2.seqT rl2)⟩⟩
        · have := isFz_lst ex
          subst this
          have := isFz_lst ey
          subst this
          rw [ex] at r2'
          rw [ey] at r1'
          obtain ⟨p1, vs, rfl, hq1, rl1⟩ := r2'
          obtain ⟨p2, ws, rfl, hq2, rl2⟩ := r1'
          exact ⟨p1, p2, vs, ws, rfl, .inl ⟨cc.sub.seqL (SqL.of hq1), cc.sub.seqL (SqL.of hq2), a0 _ F H2 S cc st er (jok_zipL (SqL.of hq1) rl1 (SqL.of hq2) rl2)⟩⟩
end
end DD

set_option Elab.async false
set_option linter.all false
set_option maxRecDepth 100000
set_option maxHeartbeats 1000000
namespace DD
open PySem PySem.Spec PyProof.Rows L2
/-! ### list comprehensions -/
section
variable {X : Cx} {G : Glb} {io : List Nat} {P : List (Nat × V)} {W : WX} {c : CC}
theorem pe_all {α : Type} {e : Expr} {t : α → TE} (h : ∀ a, PE X e (t a)) : PE X e (fun σ H Q => ∃ a, t a σ H Q) := ⟨fun pins s σ H Q I ⟨a, w⟩ => (h a).run pins s σ H Q I w⟩
theorem pt_all {α : Type} {e : Expr} {t : α → TT} (h : ∀ a, PT X e (t a)) : PT X e (fun σ H Q => ∃ a, t a σ H Q) := ⟨fun pins s σ H Q I ⟨a, w⟩ => (h a).run pins s σ H Q I w⟩
theorem pts_all {α : Type} {e : List Expr} {t : α → TT} (h : ∀ a, PTs X e (t a)) : PTs X e (fun σ H Q => ∃ a, t a σ H Q) := ⟨fun pins s σ H Q I ⟨a, w⟩ => (h a).run pins s σ H Q I w⟩
theorem pg_all {α : Type} {e : Expr} {t : α → TG} (h : ∀ a, PG X e (t a)) : PG X e (fun v σ H Q => ∃ a, t a v σ H Q) := ⟨fun pins s σ H v u Q I r ⟨a, w⟩ => (h a).run pins s σ H v u Q I r w⟩
theorem pss_all {α : Type} {e : List Stmt} {t : α → TS} (h : ∀ a, PSs X e (t a)) : PSs X e (fun D σ H => ∃ a, t a D σ H) := ⟨fun pins s σ H D I ⟨a, w⟩ => (h a).run pins s σ H D I w⟩
theorem ps_all {α : Type} {e : Stmt} {t : α → TS} (h : ∀ a, PS X e (t a)) : PS X e (fun D σ H => ∃ a, t a D σ H) := ⟨fun pins s σ H D I ⟨a, w⟩ => (h a).run pins s σ H D I w⟩
theorem pts_imp {e : List Expr} {t t' : TT} (h : PTs X e t) (q : ∀ σ H Q, t' σ H Q → t σ H Q) : PTs X e t' := ⟨fun pins s σ H Q I w => h.run pins s σ H Q I (q σ H Q w)⟩
abbrev SC (X : Cx) (G : Glb) (io : List Nat) (P : List (Nat × V)) (W : WX) (cond : Exs) (ifs : List Expr) : Prop := ∀ env, PTs X ifs (tT X G P W env (evC G io cond))
theorem s_c0 : SC X G io P W .nil [] := fun env => pts_imp pts_nil fun σ H Q ⟨F, S, ok, er, q⟩ => q F H S ok Step.refl er
theorem s_c1 {e : Ex} {ea : Expr} (h : ST X G io P W e ea) : SC X G io P W (.cons e .nil) [ea] := fun env => pts_one (h env)

theorem get_set_none {env : Env} {i j : Nat} {d : D} (h : get (env.set i none) j = some d) : j ≠ i ∧ get env j = some d := by
  rcases get_set h with ⟨_, q⟩ | q
  · cases q
  · exact q
theorem get_clear : ∀ {vs : List Nat} {env : Env} {i : Nat} {d : D}, get (clear env vs) i = some d → i ∉ vs ∧ get env i = some d
  | [], _, _, _, h => ⟨List.not_mem_nil, h⟩
  | v :: vs, env, i, d, h => by
    obtain ⟨h1, h2⟩ := get_set_none (env := clear env vs) h
    obtain ⟨h3, h4⟩ := get_clear h2
    exact ⟨fun z => (List.mem_cons.mp z).elim h1 h3, h4⟩
theorem get_giveBack : ∀ {vs : List Nat} {env old : Env} {i : Nat} {d : D}, get (giveBack env old vs) i = some d → (i ∈ vs ∧ get old i = some d ∧ d.isFz = true) ∨ (i ∉ vs ∧ get env i = some d)
  | [], _, _, _, _, h => .inr ⟨List.not_mem_nil, h⟩
  | v :: vs, env, old, i, d, h => by
    have h' : get ((giveBack env old vs).set v (match get old v with
      | some d => if d.isFz then some d else none
      | none => none)) i = some d := h
    rcases get_set h' with ⟨rfl, q⟩ | ⟨hn, q⟩
    · cases e : get old i with
      | none => rw [e] at q; cases q
      | some x =>
        rw [e] at q
        simp only [] at q
        split at q
        · rename_i hf; cases q; exact .inl ⟨List.mem_cons_self, rfl, hf⟩
        · cases q
    · rcases get_giveBack q with ⟨a, b⟩ | ⟨a, b⟩
      · exact .inl ⟨List.mem_cons_of_mem _ a, b⟩
      · exact .inr ⟨fun z => (List.mem_cons.mp z).elim hn a, b⟩
theorem clear_len : ∀ (vs : List Nat) (env : Env), (clear env vs).length = env.length
  | [], _ => rfl
  | v :: vs, env => by show ((clear env vs).set v none).length = _; rw [List.length_set, clear_len vs env]
theorem giveBack_len : ∀ (vs : List Nat) (env old : Env), (giveBack env old vs).length = env.length
  | [], _, _ => rfl
  | v :: vs, env, old => by show ((giveBack env old vs).set v _).length = _; rw [List.length_set, giveBack_len vs env old]
theorem wipe_get : ∀ {vs : List Nat} {σ : L2.St} {i : Nat}, i ∉ vs → (wipe σ vs)[i]? = σ[i]?
  | [], _, _, _ => rfl
  | v :: vs, σ, i, h => by
    show ((wipe σ vs).set v none)[i]? = _
    rw [List.getElem?_set_ne (fun z => h (by rw [z]; exact List.mem_cons_self)), wipe_get fun z => h (List.mem_cons_of_mem _ z)]
theorem wipe_at : ∀ {vs : List Nat} {σ : L2.St} {i : Nat}, i ∈ vs → i < σ.length → (wipe σ vs)[i]? = some none
  | v :: vs, σ, i, h, hl => by
    show ((wipe σ vs).set v none)[i]? = _
    by_cases e : v = i
    · subst e; exact List.getElem?_set_self (by rw [wipe_length]; exact hl)
    · rw [List.getElem?_set_ne e]
      exact wipe_at ((List.mem_cons.mp h).resolve_left fun z => e z.symm) hl
theorem wipe_eq {vs : List Nat} {σ σ' : L2.St} (h : Dif vs σ σ') : wipe σ' vs = wipe σ vs := by
  refine List.ext_getElem? fun i => ?_
  by_cases hi : i ∈ vs
  · by_cases hl : i < σ.length
    · rw [wipe_at hi hl, wipe_at hi (by rw [h.1]; exact hl)]
    · rw [List.getElem?_eq_none (by rw [wipe_length, h.1]; omega), List.getElem?_eq_none (by rw [wipe_length]; omega)]
  · rw [wipe_get hi, wipe_get hi, h.2 i hi]
theorem wipe_wipe {vs : List Nat} {σ : L2.St} : wipe (wipe σ vs) vs = wipe σ vs := wipe_eq ⟨wipe_length .., fun j hj => wipe_get hj⟩
theorem clear_ok {K : PySem.W.Frag} {F H : Hp} {σ : L2.St} {S : AS} {env : Env} {vs : List Nat} (hp : ∀ p ∈ P, p.1 ∉ vs) (er : EnvR K F H P env σ S) : EnvR K F H P (clear env vs) (wipe σ vs) S := by
  obtain ⟨⟨o, h1, h2, h3⟩, l, p⟩ := er
  refine ⟨⟨o, h1, h2, fun i d e => ?_⟩, by rw [clear_len, wipe_length]; exact l, fun q hq => by rw [wipe_get (hp q hq)]; exact p q hq⟩
  obtain ⟨e1, e2⟩ := get_clear e
  rw [wipe_get e1]
  exact h3 i d e2
theorem giveBack_ok {K : PySem.W.Frag} {F H F1 H1 : Hp} {σ : L2.St} {S S1 : AS} {env old : Env} {vs : List Nat} (f : Sub F1 F) (er : EnvR K F H P env (wipe σ vs) S) (eo : EnvR K F1 H1 P old σ S1) (hp : ∀ p ∈ P, p.1 ∉ vs) : EnvR K F H P (giveBack env old vs) σ S := by
  obtain ⟨⟨o, h1, h2, h3⟩, l, p⟩ := er
  obtain ⟨⟨o', g1, g2, g3⟩, l', p'⟩ := eo
  refine ⟨⟨o, h1, h2, fun i d e => ?_⟩, by rw [giveBack_len, l, wipe_length], p'⟩
  rcases get_giveBack e with ⟨a, b, hf⟩ | ⟨a, b⟩
  · obtain ⟨v, e1, r⟩ := g3 i d b
    exact ⟨v, e1, Rep.fzd d hf (Rep.keep f d (fun _ z => z) (fun _ _ z => z.elim) (Rep.fzd (S' := No) d hf r))⟩
  · obtain ⟨v, e1, r⟩ := h3 i d b
    exact ⟨v, (wipe_some e1).1, r⟩
theorem PostE.step0 {σ : L2.St} {F H F1 H1 : Hp} {S S1 : AS} {r : R D} {Q : VK} (h : PostE X G P W σ F H S r Q) (st : Step F H S F1 H1 S1) : PostE X G P W σ F1 H1 S1 r Q := by
  cases r with
  | ok d env => exact fun v F' H' S' T ok dj st' er rv => h v F' H' S' T ok dj (st.trans0 st') er rv
  | exc x env => exact fun F' H' S' cls ok st' er hm => h F' H' S' cls ok (st.trans0 st') er hm
  | bad => exact h
abbrev NoW : WX := fun _ _ _ _ => False
theorem takes_no {X : Cx} : L2N.Takes X NoW := fun u s' h => by
  obtain ⟨a, B, sI, pins, σ', H', cls, d, e, J', nb, up, sky, na, os, ag, w⟩ := h
  exact w.elim
theorem post_calm {α : Type} {r : R α} {β : Type} {k : α → Env → R β} {p : R β → Prop} (hb : p .bad → False) (h : p (r.calm.bind k)) : ∃ a env, r = .ok a env ∧ p (k a env) := by
  cases r with
  | ok a env => exact ⟨a, env, rfl, h⟩
  | exc x env => exact (hb h).elim
  | bad => exact (hb h).elim
end
/-- what a comprehension's loop has come to -/
def LcI (X : Cx) (G : Glb) (io : List Nat) (P : List (Nat × V)) (σ : L2.St) (env1 : Env) (own : List Nat) (tg : Tg) (cond : Exs) (elt : Ex) (xs : List D) (F1 H1 : Hp) (S1 : AS) (p : R D → Prop) (D0 : Addr) (i : Nat) (H : Hp) : Prop :=
  ∃ env acc, i ≤ xs.length ∧ acc.length ≤ i ∧ p ((lcLoop (asgT G io tg) (evC G io cond) (evE G io elt) own (xs.drop i) acc env).calm.bind fun acc env' => .ok (.lst true acc) (giveBack env' env1 own)) ∧
    Mid X P (wipe σ own) env [.lst true acc] [.ref D0] H fun F0 H0 S0 => F0 = F1 ∧ H0 = H1 ∧ S0 = S1
section
variable {X : Cx} {G : Glb} {io : List Nat} {P : List (Nat × V)} {W : WX} {c : CC}
theorem drop_get {α : Type} {xs : List α} {i : Nat} {x : α} (e : xs[i]? = some x) : xs.drop i = x :: xs.drop (i + 1) := by
  obtain ⟨h, rfl⟩ := List.getElem?_eq_some_iff.mp e
  exact List.drop_eq_getElem_cons h
theorem Mid.lst {σ : L2.St} {env : Env} {H : Hp} {acc : List D} {a : Addr} {p : Hp → Hp → AS → Prop} (h : Mid X P σ env [.lst true acc] [.ref a] H p) :
    ∃ F0 H0 S0 F S T vs, p F0 H0 S0 ∧ Step F0 H0 S0 F H (Un2 S (fun b => b = a ∨ T b)) ∧ Ok F H (Un2 S (fun b => b = a ∨ T b)) ∧ Dj S (fun b => b = a ∨ T b) ∧ ¬ T a ∧ EnvR X.K F H P env σ S ∧ H a = some (.lst vs) ∧ vs.length = acc.length ∧ RepL X.K F H acc vs T := by
  obtain ⟨F0, H0, S0, F, S, T, hp, st, ok, dj, er, w, r, T1, T2, e, m1, m2, dj2, h1, h2⟩ := h
  cases e
  obtain ⟨b, vs, eb, hb, hT, rl⟩ := (show Rep X.K F H (.lst true acc) (.ref a) T1 from h1)
  cases eb
  have mm : ∀ z, (z = a ∨ (T1 z ∧ z ≠ a)) → T1 z := fun z y => y.elim (fun y => y ▸ hT) And.left
  exact ⟨F0, H0, S0, F, S, fun z => T1 z ∧ z ≠ a, vs, hp, st.weak fun z y => y.imp id fun y => m1 z (mm z y), ok.mono fun z y => y.imp id fun y => m1 z (mm z y), fun z x y => dj z x (m1 z (mm z y)), fun z => z.2 rfl, er, hb, rvl_len (σ := σ) (rep_rvl rl), rl⟩
/-- what is held through a step of the names -/
theorem hold {F1 H1 F H F' H' : Hp} {S1 S T S' : AS} (st : Step F1 H1 S1 F H (Un2 S T)) (ok : Ok F H (Un2 S T)) (dj : Dj S T) (st' : Step F H S F' H' S') (ok' : Ok F' H' S') :
    Step F1 H1 S1 F' H' (Un2 S' T) ∧ Ok F' H' (Un2 S' T) ∧ Dj S' T ∧ ∀ a o, T a → H a = some o → H' a = some o := by
  have st2 : Step F H S F' H' (Un2 S' No) := st'.weak fun a z => z.elim id False.elim
  have ok2 : Ok F' H' (Un2 S' No) := ok'.mono fun a z => z.elim id False.elim
  obtain ⟨a1, a2, a3, a4, a5⟩ := held_on st ok dj ok2 (fun _ _ z => z) st2
  exact ⟨a1.weak fun a z => z.imp id .inr, a2.mono fun a z => z.imp id .inr, fun a x y => a3 a x (.inr y), a5⟩
theorem Dif.mono {ls ms : List Nat} {σ σ' : L2.St} (h : Dif ls σ σ') (m : ∀ j ∈ ls, j ∈ ms) : Dif ms σ σ' := ⟨h.1, fun j hj => h.2 j fun z => hj (m j z)⟩
theorem lc_read {elt : Ex} {tg : Tg} {it : It} {cond : Exs} {own : List Nat} (hs : ∀ j ∈ tg.slots, j ∈ own) (hp : ∀ p ∈ P, p.1 ∉ own) {σ : L2.St} {H : Hp} {Q : VK} {env : Env} (h : tE X G P W env (evE G io (.lc elt tg it cond own)) σ H Q) :
    tLc (tI X G P W env (evI G io it)) (fun v σ H Q => ∃ q : Env × D, tG X G P NoW tg.slots q.1 q.2 (asgT G io tg) v σ H Q) (fun σ H Q => ∃ env, tT X G P NoW env (evC G io cond) σ H Q) (fun σ H Q => ∃ env, tE X G P NoW env (evE G io elt) σ H Q) own σ H Q := by
  obtain ⟨F, S, ok, er, q⟩ := h
  refine ⟨F, S, ok, er, ?_⟩
  have q' : PostE X G P W σ F H S ((evI G io it env).bind fun xs env => if xs.length ≤ lim then (lcLoop (asgT G io tg) (evC G io cond) (evE G io elt) own xs [] (clear env own)).calm.bind fun acc env' => .ok (.lst true acc) (giveBack env' env own) else .bad) Q := q
  cases e : evI G io it env with
  | bad => rw [e] at q'; exact q'
  | exc x e1 => rw [e] at q'; exact q'
  | ok xs env1 =>
    rw [e] at q'
    simp only [R.bind] at q'
    by_cases hl : xs.length ≤ lim
    · rw [if_pos hl] at q'
      intro J F1 H1 S1 ok1 st1 er1 jok D0 hD0
      have p0 := PostE.step0 q' st1
      refine ⟨fun i m H => m = xs.length - i ∧ LcI X G io P σ env1 own tg cond elt xs F1 H1 S1 (fun r => PostE X G P W σ F1 H1 S1 r Q) D0 i H, ⟨xs.length, rfl, clear env1 own, [], Nat.zero_le _, Nat.le_refl _, p0, ?_⟩, ?_⟩
      · have nF := none_sub ok1.sub hD0
        have nS : ∀ b, S1 b → b ≠ D0 := fun b z y => ok1.al b z (by rw [y]; exact hD0)
        have hk : ∀ b o, H1 b = some o → upd H1 D0 (.lst []) b = some o := fun b o e => by rw [upd_ne (ne_of_none e hD0)]; exact e
        refine ⟨F1, H1, S1, F1, S1, fun b => b = D0, ⟨rfl, rfl, rfl⟩, ⟨.refl, fun b o _ e => hk b o e, fun b z => ?_, fun b z => .inl z, fun b z => z.imp id fun z => by rw [z]; exact hD0⟩, ⟨fun b o e => hk b o (ok1.sub b o e), fun b z => z.elim (ok1.off b) fun z => by rw [z]; exact nF, fun b z => ?_⟩, fun b x y => nS b x y,
          (clear_ok hp er1).keep .refl (fun _ z => z) fun b o _ e => hk b o e, .ref D0, [], fun b => b = D0, No, rfl, fun _ z => z, fun _ z => z.elim, fun _ _ z => z, ⟨D0, [], rfl, upd_same, rfl, rfl⟩, rfl⟩
        · cases e : H1 b with
          | none => exact (z e).elim
          | some o => rw [hk b o e]; simp
        · by_cases hb : b = D0
          · rw [hb, upd_same]; simp
          · rw [upd_ne hb]; exact z.elim (ok1.al b) fun z => (hb z).elim
      · rintro i m H2 ⟨em, env2, acc, hi, hacc, hp', M⟩
        obtain ⟨F0, H0, S0, F2, S2, T2, ⟨e1, e2, e3⟩, st, ok2, dj, er2, w, r, T1, T3, ev, m1, m3, dj2, h1, h2⟩ := M
        cases ev
        subst e1 e2 e3
        by_cases hn : i = xs.length
        · left
          refine ⟨(jok i F2 H2 st.fle ok2.sub).1 hn, ?_⟩
          rw [hn, List.drop_length] at hp'
          exact hp' (.ref D0) F2 H2 S2 T1 (ok2.mono fun a z => z.imp id (m1 a)) (fun a x y => dj a x (m1 a y)) (st.weak fun a z => z.imp id (m1 a)) (giveBack_ok st.fle er2 er1 hp) h1
        · right
          have hlt : i < xs.length := Nat.lt_of_le_of_ne hi hn
          have hd : xs[i]? = some xs[i] := List.getElem?_eq_getElem hlt
          obtain ⟨go, yl⟩ := (jok i F2 H2 st.fle ok2.sub).2 _ hd
          refine ⟨go, fun H' => LcI X G io P σ env1 own tg cond elt xs F0 H0 S0 (fun r => PostE X G P W σ F0 H0 S0 r Q) D0 (i + 1) H', fun H' z => ⟨xs.length - (i + 1), by omega, rfl, z⟩, fun x H3 hy => ?_⟩
          rw [drop_get hd] at hp'
          generalize xs[i] = d at hp' hy yl hd
          obtain ⟨F3, f1, f2, f3, f4, rx⟩ := yl x H3 hy
          have hpx : PostE X G P W σ F0 H0 S0 (((asgT G io tg d env2).bind fun _ env => (evC G io cond env).bind fun b env => if b then (evE G io elt env).bind fun y env => if noPlc y then lcLoop (asgT G io tg) (evC G io cond) (evE G io elt) own (xs.drop (i + 1)) (acc ++ [y]) (clear env own) else .bad
            else lcLoop (asgT G io tg) (evC G io cond) (evE G io elt) own (xs.drop (i + 1)) acc (clear env own)).calm.bind fun acc env' => .ok (.lst true acc) (giveBack env' env1 own)) Q := hp'
          clear hp'
          -- the list that grows is held
          have stA : Step F0 H0 S0 F2 H2 (Un2 S2 T1) := st.weak fun a z => z.imp id (m1 a)
          have okA : Ok F2 H2 (Un2 S2 T1) := ok2.mono fun a z => z.imp id (m1 a)
          have djA : Dj S2 T1 := fun a x y => dj a x (m1 a y)
          have stY : Step F2 H2 S2 F3 H3 S2 := ⟨f1, fun a o _ e => f3 a o e, fun a z => by
            cases e : H2 a with
            | none => exact (z e).elim
            | some o => rw [f3 a o e]; simp, fun a z => (f4 a z).imp id .inr, fun a z => .inl z⟩
          have okY : Ok F3 H3 S2 := ⟨f2, fun a z => by
            cases e : F3 a with
            | none => rfl
            | some o => exact ((f4 a (by rw [e]; simp)).elim (fun y => y (okA.off a (.inl z))) fun y => okA.al a (.inl z) y).elim, fun a z => stY.all a (okA.al a (.inl z))⟩
          obtain ⟨stB, okB, djB, kB⟩ := hold stA okA djA stY okY
          have h1B : Rep X.K F3 H3 (.lst true acc) (.ref D0) T1 := Rep.keep stY.fle _ (fun _ z => z) kB h1
          refine ⟨(env2, d), F3, H3, S2, F3, S2, No, ?_, Step.refl.weak fun a z => z.elim id False.elim, okY.mono fun a z => z.elim id False.elim, fun _ _ z => z, er2.keep stY.fle (fun _ z => z) fun a o _ e => f3 a o e, x, [], No, No, rfl, fun _ z => z, fun _ z => z, fun _ _ z => z, RV.to rx, rfl⟩
          show PostU X G P NoW tg.slots (wipe σ own) F3 H3 S2 (asgT G io tg d env2) _
          cases eA : asgT G io tg d env2 with
          | bad => rw [eA] at hpx; exact hpx
          | exc x e1 => rw [eA] at hpx; exact hpx.elim
          | ok u env3 =>
            rw [eA] at hpx
            simp only [R.bind] at hpx
            intro σ3 F4 H4 S4 df ok4 st4 er4
            have ew : wipe σ3 own = wipe σ own := by rw [wipe_eq (df.mono hs), wipe_wipe]
            refine ⟨ew, env3, F4, S4, ok4, er4, ?_⟩
            obtain ⟨stC, okC, djC, kC⟩ := hold stB okB djB st4 ok4
            have h1C : Rep X.K F4 H4 (.lst true acc) (.ref D0) T1 := Rep.keep st4.fle _ (fun _ z => z) kC h1B
            cases eC : evC G io cond env3 with
            | bad => rw [eC] at hpx; exact hpx
            | exc x e1 => rw [eC] at hpx; exact hpx.elim
            | ok b env4 =>
              rw [eC] at hpx
              simp only [] at hpx
              intro F5 H5 S5 ok5 st5 er5
              obtain ⟨stD, okD, djD, kD⟩ := hold stC okC djC st5 ok5
              have h1D : Rep X.K F5 H5 (.lst true acc) (.ref D0) T1 := Rep.keep st5.fle _ (fun _ z => z) kD h1C
              have erw : ∀ {F H : Hp} {S : AS} {e : Env}, EnvR X.K F H P e σ3 S → EnvR X.K F H P (clear e own) (wipe σ own) S := fun er => ew ▸ clear_ok hp er
              cases b with
              | false =>
                rw [if_neg Bool.false_ne_true]
                rw [if_neg Bool.false_ne_true] at hpx
                exact ⟨clear env4 own, acc, hlt, Nat.le_succ_of_le hacc, hpx, F0, H0, S0, F5, S5, T1, ⟨rfl, rfl, rfl⟩, stD, okD, djD, erw er5, .ref D0, [], T1, No, rfl, fun _ z => z, fun _ z => z.elim, fun _ _ z => z, h1D, rfl⟩
              | true =>
                rw [if_pos rfl]
                rw [if_pos rfl] at hpx
                refine ⟨env4, F5, S5, ok5, er5, ?_⟩
                cases eE : evE G io elt env4 with
                | bad => rw [eE] at hpx; exact hpx
                | exc x e1 => rw [eE] at hpx; exact hpx.elim
                | ok y env5 =>
                  rw [eE] at hpx
                  simp only [] at hpx
                  intro vy F6 H6 S6 Ty ok6 dj6 st6 er6 ry
                  cases np : noPlc y with
                  | false => rw [np, if_neg Bool.false_ne_true] at hpx; exact hpx.elim
                  | true =>
                    rw [np, if_pos rfl] at hpx
                    obtain ⟨stE, okE, djE, djT, kE⟩ := held_on stD okD djD ok6 dj6 st6
                    obtain ⟨a, vs, ea, ha, hT, rl⟩ := (show Rep X.K F6 H6 (.lst true acc) (.ref D0) T1 from Rep.keep st6.fle _ (fun _ z => z) kE h1D)
                    cases ea
                    have hvl : vs.length = acc.length := rvl_len (σ := σ) (rep_rvl rl)
                    refine ⟨vs, ha, by rw [hvl, lim_eq]; exact Nat.lt_of_le_of_lt hacc (Nat.lt_of_lt_of_le hlt hl), ?_⟩
                    have inU : Un2 S6 (Un2 Ty T1) D0 := .inr (.inr hT)
                    obtain ⟨stF, okF⟩ := write_ok (o' := .lst (vs ++ [vy])) stE okE inU
                    have kS : ∀ b o, b ≠ D0 → H6 b = some o → upd H6 D0 (.lst (vs ++ [vy])) b = some o := fun b o n e => by rw [upd_ne n]; exact e
                    have nTy : ¬ Ty D0 := fun z => djT D0 z hT
                    have nS6 : ¬ S6 D0 := fun z => djE D0 z (.inr hT)
                    have er7 := erw (er6.keep (F' := F6) (H' := upd H6 D0 (.lst (vs ++ [vy]))) .refl (fun _ z => z) fun b o z e => kS b o (fun w => nS6 (w ▸ z)) e)
                    have rl2 : RepL X.K F6 (upd H6 D0 (.lst (vs ++ [vy]))) (acc ++ [y]) (vs ++ [vy]) (Un2 (fun b => T1 b ∧ b ≠ D0) Ty) :=
                      repL_snoc (fun b x z => djT b z x.1) (RepL.keep .refl _ (fun _ z => z) (fun b o z e => kS b o z.2 e) rl) (Rep.keep .refl _ (fun _ z => z) (fun b o z e => kS b o (fun w => nTy (w ▸ z)) e) (RV.of np ry))
                    refine ⟨clear env5 own, acc ++ [y], hlt, by rw [List.length_append]; exact Nat.succ_le_succ hacc, hpx, F0, H0, S0, F6, S6, Un2 Ty T1, ⟨rfl, rfl, rfl⟩, stF, okF, djE, er7, .ref D0, [], Un2 Ty T1, No, rfl, fun _ z => z, fun _ z => z.elim, fun _ _ z => z, ⟨D0, _, rfl, upd_same, .inr hT, RepL.keep .refl _ (fun b z => ?_) (fun _ _ _ e => e) rl2⟩, rfl⟩
                    rcases z with z | z
                    · exact ⟨.inr z.1, z.2⟩
                    · exact ⟨.inl z, fun w => nTy (w ▸ z)⟩
    · rw [if_neg hl] at q'
      exact q'.elim
/-- the parts of a comprehension, in each of its blocks -/
structure LcP (X : Cx) (G : Glb) (io : List Nat) (P : List (Nat × V)) (scope : Scope) (elt : Ex) (tg : Tg) (cond : Exs) (eE eT : Expr) (ifs : List Expr) : Prop where
  g : ∀ (s : Shared) (H : Hp) (C : Addr) (cl : List (Str × Addr)) (fp : List Addr), SG (X.blk s H scope (compEnvC scope cl C X.env) fp) G io P NoW tg eT
  t : ∀ (s : Shared) (H : Hp) (C : Addr) (cl : List (Str × Addr)) (fp : List Addr), SC (X.blk s H scope (compEnvC scope cl C X.env) fp) G io P NoW cond ifs
  e : ∀ (s : Shared) (H : Hp) (C : Addr) (cl : List (Str × Addr)) (fp : List Addr), SE (X.blk s H scope (compEnvC scope cl C X.env) fp) G io P NoW elt eE
theorem s_lc (C : Ctx X G io P W) (hc : X.calm = true) {elt : Ex} {tg : Tg} {it : It} {cond : Exs} {own : List (Str × Nat)} {eE eT eI : Expr} {ifs : List Expr} {scope : Scope} {pos : Pos} (hs : ∀ j ∈ tg.slots, j ∈ own.map (·.2)) (hp : ∀ j ∈ own.map (·.2), j ∉ io) (hi : SI X G io P W it eT eI) (ok : BlkOk X.N X.env.scope scope own)
    (L : LcP X G io P scope elt tg cond eE eT ifs) (hf : ∀ x, foldedSetIterable eI X.env x = pure x) : SE X G io P W (.lc elt tg it cond (own.map (·.2))) (.ListComp eE [⟨eT, eI, ifs, 0⟩] scope pos) := fun env =>
  pe_imp (pe_lc hc C.nd (hi env) ok (fun s H Ca cl fp => pg_all fun q => L.g s H Ca cl fp q.1 q.2) (fun s H Ca cl fp => pts_all (L.t s H Ca cl fp)) (fun s H Ca cl fp => pe_all (L.e s H Ca cl fp)) hf) fun σ H Q h =>
    lc_read hs (fun p hp' z => hp _ z (C.pins p hp')) h
end
end DD

set_option Elab.async false
set_option linter.all false
set_option maxRecDepth 100000
set_option maxHeartbeats 1000000
namespace DD
open PySem PySem.Spec PyProof.Rows L2
/-! ### statements -/
section
variable (X : Cx) (G : Glb) (P : List (Nat × V)) (W : WX)
def PostS (D0 : Ends) (F H : Hp) (S : AS) (r : R Fl) : Prop := match r with
  | .ok (.rt d) env => ∀ v σ' F' H' S' T, Ok F' H' (Un2 S' T) → Dj S' T → Step F H S F' H' (Un2 S' T) → EnvR X.K F' H' P env σ' S' → Rep X.K F' H' d v T → D0.rt v H'
  | .ok .nx env => ∀ σ' F' H' S', Ok F' H' S' → Step F H S F' H' S' → EnvR X.K F' H' P env σ' S' → D0.nx σ' H'
  | .ok .bk env => ∀ σ' F' H' S', Ok F' H' S' → Step F H S F' H' S' → EnvR X.K F' H' P env σ' S' → D0.bk σ' H'
  | .ok .ct env => ∀ σ' F' H' S', Ok F' H' S' → Step F H S F' H' S' → EnvR X.K F' H' P env σ' S' → D0.ct σ' H'
  | .exc x env => PostXs X G P W F H S x env
  | .bad => False
def tS (env : Env) (m : Env → R Fl) : TS := fun D0 σ H => ∃ F S, Ok F H S ∧ EnvR X.K F H P env σ S ∧ PostS X G P W D0 F H S (m env)
end
/-- what a def's statements need besides -/
structure SCtx (X : Cx) : Prop where
  own : PassesOwn (model X.prog X.w) X.A X.env X.xe
  stk : X.stack = X.env :: X.outer
  frm : X.env.frame = some X.env.locals
section
variable {X : Cx} {G : Glb} {io : List Nat} {P : List (Nat × V)} {W : WX} {c : CC}
theorem pstS {σ : L2.St} {D0 : Ends} : Pst X G P W σ (fun F H S r => PostS X G P W D0 F H S r) := ⟨fun _ _ _ h => h, fun _ _ _ _ _ h => h.at⟩
abbrev SS (X : Cx) (G : Glb) (io : List Nat) (P : List (Nat × V)) (W : WX) (st : Stm) (ast : Stmt) : Prop := ∀ env, PS X ast (tS X G P W env (evS G io st))
abbrev SSs (X : Cx) (G : Glb) (io : List Nat) (P : List (Nat × V)) (W : WX) (st : Stms) (ast : List Stmt) : Prop := ∀ env, PSs X ast (tS X G P W env (evSs G io st))
/-- all places at once -/
def uS (X : Cx) (G : Glb) (P : List (Nat × V)) (W : WX) (m : Env → R Fl) : TS := fun D0 σ H => ∃ env, tS X G P W env m D0 σ H
theorem PostS.step0 {D0 : Ends} {F H F1 H1 : Hp} {S S1 : AS} {r : R Fl} (h : PostS X G P W D0 F H S r) (st : Step F H S F1 H1 S1) : PostS X G P W D0 F1 H1 S1 r := by
  cases r with
  | ok f env =>
    cases f with
    | nx => exact fun σ' F' H' S' ok st' er => h σ' F' H' S' ok (st.trans0 st') er
    | bk => exact fun σ' F' H' S' ok st' er => h σ' F' H' S' ok (st.trans0 st') er
    | ct => exact fun σ' F' H' S' ok st' er => h σ' F' H' S' ok (st.trans0 st') er
    | rt d => exact fun v σ' F' H' S' T ok dj st' er rv => h v σ' F' H' S' T ok dj (st.trans0 st') er rv
  | exc x env => exact fun σ' F' H' S' cls ok st' er hm => h σ' F' H' S' cls ok (st.trans0 st') er hm
  | bad => exact h
theorem Mid.ofS {σ : L2.St} {H : Hp} {env : Env} {m : Env → R Fl} {D0 : Ends} (h : tS X G P W env m D0 σ H) : Mid X P σ env [] [] H (fun F0 H0 S0 => PostS X G P W D0 F0 H0 S0 (m env)) := by
  obtain ⟨F, S, ok, er, h⟩ := h
  exact Mid.start ok er h
theorem Mid.toS {σ : L2.St} {H : Hp} {env : Env} {ds : List D} {vs : List V} {m : Env → R Fl} {D0 : Ends} (h : Mid X P σ env ds vs H (fun F0 H0 S0 => PostS X G P W D0 F0 H0 S0 (m env))) : tS X G P W env m D0 σ H := by
  obtain ⟨F0, H0, S0, F, S, T, a, b, cc, dj, er, rv⟩ := h
  exact ⟨F, S, cc.left, er, PostS.step0 a (b.weak fun z y => .inl y)⟩
theorem Mid.nx {σ : L2.St} {H : Hp} {env : Env} {ds : List D} {vs : List V} {D0 : Ends} (h : Mid X P σ env ds vs H (fun F0 H0 S0 => PostS X G P W D0 F0 H0 S0 (.ok .nx env))) : D0.nx σ H := by
  obtain ⟨F0, H0, S0, F, S, T, a, b, cc, dj, er, rv⟩ := h
  exact a σ F H S cc.left (b.weak fun z y => .inl y) er
theorem s_nil : SSs X G io P W .nil [] := fun env => pss_imp pss_nil fun D0 σ H h => (Mid.ofS h).nx
theorem s_cons {st : Stm} {r : Stms} {a : Stmt} {as : List Stmt} (h1 : SS X G io P W st a) (h2 : SSs X G io P W r as) : SSs X G io P W (.cons st r) (a :: as) := fun env =>
  pss_imp (pss_cons (h1 env) (pss_all h2)) fun D0 σ H ⟨F, S, ok, er, q⟩ => by
    refine ⟨F, S, ok, er, ?_⟩
    have q' : PostS X G P W D0 F H S ((evS G io st env).bind fun f env => match f with
      | .nx => evSs G io r env
      | f => .ok f env) := q
    cases e : evS G io st env with
    | bad => rw [e] at q'; exact q'
    | exc x e1 => rw [e] at q'; exact q'
    | ok f e1 =>
      rw [e] at q'
      cases f with
      | nx => exact fun σ' F' H' S' ok' st' er' => ⟨e1, F', S', ok', er', PostS.step0 q' st'⟩
      | bk => exact q'
      | ct => exact q'
      | rt d => exact q'
/-- names that nobody asks for again -/
theorem s_fgt {own : List Nat} {r : Stms} {as : List Stmt} (h : SSs X G io P W r as) : SSs X G io P W (.fgt own r) as := fun env =>
  pss_imp (h (clear env own)) fun D0 σ H ⟨F, S, ok, er, q⟩ => by
    obtain ⟨⟨o, h1, h2, h3⟩, l, p⟩ := er
    refine ⟨F, S, ok, ⟨⟨o, h1, h2, fun i d e => h3 i d (get_clear e).2⟩, by rw [clear_len]; exact l, p⟩, ?_⟩
    have q' : PostS X G P W D0 F H S (evSs G io (.fgt own r) env) := q
    rwa [evSs] at q'
theorem s_expr {e : Ex} {ea : Expr} {pos : Pos} (he : SE X G io P W e ea) (hs : swapsWith ea none pos.line X.env = pure false) : SS X G io P W (.expr e) (.Expr ea pos) := fun env =>
  ps_imp (ps_expr (he env) hs) fun D0 σ H h => by
    refine tE_mono (Mid.next (m := evE G io e) (post := fun F0 H0 S0 r => PostS X G P W D0 F0 H0 S0 r) pstS (Mid.ofS h)) fun v H1 ⟨d, env1, e1, M1⟩ => ?_
    exact Mid.nx M1
theorem s_doc {x : Str} {j : Nat} {p pos : Pos} {e : Ex} {d : D} (he : e = .cst d) : SS X G io P W (.expr e) (.Expr (.Constant (.str x) j p) pos) := fun env =>
  ps_imp ps_doc fun D0 σ H h => by
    subst he
    obtain ⟨F, S, ok, er, q⟩ := h
    have q' : PostS X G P W D0 F H S (.ok .nx env) := q
    exact q' σ F H S ok Step.refl er
/-- what is held goes to a target -/
theorem Mid.asg {σ : L2.St} {H : Hp} {env : Env} {d : D} {v : V} {t : Tg} {D0 : Ends} (h : Mid X P σ env [d] [v] H (fun F0 H0 S0 => PostS X G P W D0 F0 H0 S0 ((asgT G io t d env).bind fun _ env => .ok .nx env))) : tG X G P W t.slots env d (asgT G io t) v σ H D0.nx := by
  refine h.imp fun F H S z => ?_
  cases e : asgT G io t d env with
  | bad => rw [e] at z; exact z
  | exc x e1 => rw [e] at z; exact z
  | ok u e1 => rw [e] at z; exact fun σ' F' H' S' _ ok st er => z σ' F' H' S' ok st er
theorem s_asg {t : Tg} {e : Ex} {tg ea : Expr} {pos : Pos} (he : SE X G io P W e ea) (hg : SG X G io P W t tg) (hs : swapsWithSole [tg] ea pos.line X.env = pure false) (hw : swappedStores [tg] ea X.env = pure none) (h1 : (assignEach [tg] X.env).map (·.2) = [assign tg X.env]) : SS X G io P W (.asg t e) (.Assign [tg] ea pos) := fun env =>
  ps_imp (ps_asg (he env) (pg_all fun q : Env × D => hg q.1 q.2) hs hw h1) fun D0 σ H h => by
    refine tE_mono (Mid.next (m := evE G io e) (post := fun F0 H0 S0 r => PostS X G P W D0 F0 H0 S0 r) pstS (Mid.ofS h)) fun v H1 ⟨d, env1, e1, M1⟩ => ?_
    exact ⟨(env1, d), Mid.asg M1⟩
theorem s_ret {e : Ex} {ea : Expr} {pos : Pos} (he : SE X G io P W e ea) : SS X G io P W (.ret e) (.Return (some ea) pos) := fun env =>
  ps_imp (ps_ret (he env)) fun D0 σ H h => by
    refine tE_mono (Mid.next (m := evE G io e) (post := fun F0 H0 S0 r => PostS X G P W D0 F0 H0 S0 r) pstS (Mid.ofS h)) fun v H1 ⟨d, env1, e1, M1⟩ => ?_
    cases np : noPlc d with
    | false => simp only [np] at M1; exact (M1.no fun F H S z => z).elim
    | true =>
      simp only [np, if_true] at M1
      obtain ⟨F0, H0, S0, F, S, T, a, b, cc, dj, er, w, r, T1, T2, ev, m1, m2, dj2, g1, g2⟩ := M1
      cases ev
      exact a v σ F H1 S T1 (cc.mono fun z y => y.imp id (m1 z)) (fun z x y => dj z x (m1 z y)) (b.weak fun z y => y.imp id (m1 z)) er (g1.of np)
theorem s_retN {pos : Pos} : SS X G io P W .retN (.Return none pos) := fun env =>
  ps_imp ps_retN fun D0 σ H ⟨F, S, ok, er, q⟩ => q .non σ F H S No (ok.mono fun a z => z.elim id False.elim) (fun _ _ z => z) (Step.refl.weak fun a z => z.elim id False.elim) er rfl
theorem s_brk {pos : Pos} : SS X G io P W .brk (.Break pos) := fun env => ps_imp ps_break fun D0 σ H ⟨F, S, ok, er, q⟩ => q σ F H S ok Step.refl er
theorem s_cnt {pos : Pos} : SS X G io P W .cnt (.Continue pos) := fun env => ps_imp ps_continue fun D0 σ H ⟨F, S, ok, er, q⟩ => q σ F H S ok Step.refl er
theorem s_pss {pos : Pos} : SS X G io P W .pss (.Pass pos) := fun env => ps_imp ps_pass fun D0 σ H ⟨F, S, ok, er, q⟩ => q σ F H S ok Step.refl er
theorem s_if {t : Ex} {a b : Stms} {et : Expr} {sa sb : List Stmt} {pos : Pos} (ht : ST X G io P W t et) (ha : SSs X G io P W a sa) (hb : SSs X G io P W b sb) : SS X G io P W (.ife t a b) (.If et sa sb pos) := fun env =>
  ps_imp (ps_if (ht env) (pss_all ha) (pss_all hb)) fun D0 σ H h => by
    refine tT_mono (Mid.nextT (m := evT G io t) (k := fun k env => if k then evSs G io a env else evSs G io b env) (post := fun F0 H0 S0 r => PostS X G P W D0 F0 H0 S0 r) pstS (Mid.ofS h)) fun k H1 ⟨env1, e1, M1⟩ => ?_
    cases k with
    | true => rw [if_pos rfl]; exact ⟨env1, Mid.toS M1⟩
    | false => rw [if_neg Bool.false_ne_true]; exact ⟨env1, Mid.toS M1⟩
theorem s_aug (C : Ctx X G io P W) (k : CCok X G c) {i : Nat} {x : Str} {o : Bo} {op : Operator} {e : Ex} {ea : Expr} {p pos : Pos} (hop : (o = .add ∧ op = .Add) ∨ (o = .sub ∧ op = .Sub)) (h : storeB c i x = true) (he : SE X G io P W e ea) : SS X G io P W (.aug i o e) (.AugAssign (.Name x p) op ea pos) := fun env => by
  simp only [storeB, Bool.and_eq_true, decide_eq_true_eq, Bool.or_eq_true] at h
  have pip : PIp X op (ipI fun a b => match o with | .add => a + b | _ => a - b) := by
    rcases hop with ⟨rfl, rfl⟩ | ⟨rfl, rfl⟩
    · exact ip_add
    · exact ip_sub
  refine ps_imp (ps_aug C.nd (by rw [k.N]; exact h.1.1) (by rw [k.sc]; exact loc_of h.1.2) (he env) pip (by rw [k.fn, k.sc]; exact h.2)) fun D0 σ H hh => ?_
  obtain ⟨F, S, ok, er, q⟩ := hh
  have q' : PostS X G P W D0 F H S (augTo io i o (evE G io e) env) := q
  unfold augTo at q'
  cases e0 : get env i with
  | none => rw [e0] at q'; exact q'.elim
  | some d0 =>
    rw [e0] at q'
    cases d0 <;> first | exact q'.elim | skip
    rename_i a
    simp only [] at q'
    obtain ⟨v0, e1, r0⟩ := er.at e0
    have r0' : v0 = .int a := r0
    subst r0'
    refine ⟨.int a, e1, ?_⟩
    have M := Mid.start (p := fun F0 H0 S0 => PostS X G P W D0 F0 H0 S0 ((evE G io e env).bind fun y env => match res env y with
      | some (.int b) => (match (generalizing := false) o with
        | .add => (asgNm io i (.int (a + b)) env).bind fun _ env => .ok .nx env
        | .sub => (asgNm io i (.int (a - b)) env).bind fun _ env => .ok .nx env
        | _ => .bad)
      | _ => .bad)) ok er q'
    refine tE_mono (Mid.next (m := evE G io e) (post := fun F0 H0 S0 r => PostS X G P W D0 F0 H0 S0 r) pstS M) fun y H1 ⟨dy, env1, ey, M1⟩ => ?_
    cases q1 : res env1 dy with
    | none => simp only [q1] at M1; exact (M1.no fun F H S z => z).elim
    | some dy' =>
      simp only [q1] at M1
      cases dy' <;> first | exact (M1.no fun F H S z => z).elim | skip
      rename_i b
      simp only [] at M1
      obtain ⟨F0, H0, S0, F1, S1, a0, st, cc, er1, rc⟩ := M1.res (resL1 q1)
      obtain ⟨y', ev, r⟩ := rcl1 rc
      cases ev
      have fin : ∀ n : Int, PostS X G P W D0 F0 H0 S0 ((asgNm io i (.int n) env1).bind fun _ env => .ok .nx env) → D0.nx (σ.set i (some (.int n))) H1 := fun n z => by
        have M2 : Mid X P σ env1 [.int n] [.int n] H1 (fun F0 H0 S0 => PostS X G P W D0 F0 H0 S0 ((asgT G io (.nm i) (.int n) env1).bind fun _ env => .ok .nx env)) :=
          ⟨F0, H0, S0, F1, S1, No, z, st.weak fun a z => z.elim id False.elim, cc.mono fun a z => z.elim id False.elim, fun _ _ z => z, er1, _, [], No, No, rfl, fun _ z => z, fun _ z => z, fun _ _ z => z, rfl, rfl⟩
        exact Mid.store (W := W) (G := G) C.pins (Mid.asg M2)
      refine ⟨a, b, rfl, rc_int r, ?_⟩
      rcases hop with ⟨rfl, rfl⟩ | ⟨rfl, rfl⟩
      · exact fin _ a0
      · exact fin _ a0
/-- what a for loop has come to -/
theorem s_for (C : Ctx X G io P W) (hc : X.calm = true) (SX : SCtx X) {t : Tg} {it : It} {b : Stms} {et ei : Expr} {sb : List Stmt} {pos : Pos} (hi : SI X G io P W it et ei) (hg : SG X G io P W t et) (hb : SSs X G io P W b sb) (hs : ∀ x, foldedSetIterable ei X.env x = pure x) : SS X G io P W (.for_ t it b) (.For et ei sb [] pos) := fun env =>
  ps_imp (ps_for SX.own hc (hi env) (pg_all fun q : Env × D => hg q.1 q.2) (pss_all hb) hs) fun D0 σ H ⟨F, S, ok, er, q⟩ => by
    refine ⟨F, S, ok, er, ?_⟩
    have q' : PostS X G P W D0 F H S ((evI G io it env).bind fun xs env => forLoop (asgT G io t) (evSs G io b) xs env) := q
    cases e : evI G io it env with
    | bad => rw [e] at q'; exact q'
    | exc x e1 => rw [e] at q'; exact q'.at
    | ok xs env1 =>
      rw [e] at q'
      simp only [R.bind] at q'
      intro J F1 H1 S1 ok1 st1 er1 jok
      refine ⟨fun i m σ H => m = xs.length - i ∧ i ≤ xs.length ∧ ∃ env2 F2 S2, Ok F2 H S2 ∧ Sub F1 F2 ∧ EnvR X.K F2 H P env2 σ S2 ∧ PostS X G P W D0 F2 H S2 (forLoop (asgT G io t) (evSs G io b) (xs.drop i) env2), ⟨xs.length, rfl, Nat.zero_le _, env1, F1, S1, ok1, .refl, er1, PostS.step0 q' st1⟩, ?_⟩
      rintro i m σ2 H2 ⟨em, hi', env2, F2, S2, ok2, sf, er2, p2⟩
      by_cases hn : i = xs.length
      · left
        refine ⟨(jok i F2 H2 sf ok2.sub).1 hn, ?_⟩
        rw [hn, List.drop_length] at p2
        exact p2 σ2 F2 H2 S2 ok2 Step.refl er2
      · right
        have hlt : i < xs.length := Nat.lt_of_le_of_ne hi' hn
        have hd : xs[i]? = some xs[i] := List.getElem?_eq_getElem hlt
        obtain ⟨go, yl⟩ := (jok i F2 H2 sf ok2.sub).2 _ hd
        refine ⟨go, fun σ' H' => ∃ env3 F3 S3, Ok F3 H' S3 ∧ Sub F1 F3 ∧ EnvR X.K F3 H' P env3 σ' S3 ∧ PostS X G P W D0 F3 H' S3 (forLoop (asgT G io t) (evSs G io b) (xs.drop (i + 1)) env3), fun σ' H' z => ⟨xs.length - (i + 1), by omega, rfl, hlt, z⟩, fun x H3 hy => ?_⟩
        rw [drop_get hd] at p2
        generalize xs[i] = d at p2 hy yl hd
        obtain ⟨F3, f1, f2, f3, f4, rx⟩ := yl x H3 hy
        have stY : Step F2 H2 S2 F3 H3 S2 := ⟨f1, fun a o _ e => f3 a o e, fun a z => by
          cases e : H2 a with
          | none => exact (z e).elim
          | some o => rw [f3 a o e]; simp, fun a z => (f4 a z).imp id .inr, fun a z => .inl z⟩
        have okY : Ok F3 H3 S2 := ⟨f2, fun a z => by
          cases e : F3 a with
          | none => rfl
          | some o => exact ((f4 a (by rw [e]; simp)).elim (fun y => y (ok2.off a z)) fun y => ok2.al a z y).elim, fun a z => stY.all a (ok2.al a z)⟩
        have p3 : PostS X G P W D0 F3 H3 S2 ((asgT G io t d env2).bind fun _ env => (evSs G io b env).bind fun f env => match f with
          | .nx => forLoop (asgT G io t) (evSs G io b) (xs.drop (i + 1)) env
          | .ct => forLoop (asgT G io t) (evSs G io b) (xs.drop (i + 1)) env
          | .bk => .ok .nx env
          | .rt d => .ok (.rt d) env) := PostS.step0 p2 stY
        refine ⟨(env2, d), F3, H3, S2, F3, S2, No, ?_, Step.refl.weak fun a z => z.elim id False.elim, okY.mono fun a z => z.elim id False.elim, fun _ _ z => z, er2.keep stY.fle (fun _ z => z) fun a o _ e => f3 a o e, x, [], No, No, rfl, fun _ z => z, fun _ z => z, fun _ _ z => z, RV.to rx, rfl⟩
        show PostU X G P W t.slots σ2 F3 H3 S2 (asgT G io t d env2) _
        cases eA : asgT G io t d env2 with
        | bad => rw [eA] at p3; exact p3
        | exc x e1 => rw [eA] at p3; exact p3
        | ok u env3 =>
          rw [eA] at p3
          simp only [R.bind] at p3
          intro σ3 F4 H4 S4 df ok4 st4 er4
          refine ⟨env3, F4, S4, ok4, er4, ?_⟩
          have p4 : PostS X G P W D0 F4 H4 S4 ((evSs G io b env3).bind fun f env => match f with
            | .nx => forLoop (asgT G io t) (evSs G io b) (xs.drop (i + 1)) env
            | .ct => forLoop (asgT G io t) (evSs G io b) (xs.drop (i + 1)) env
            | .bk => .ok .nx env
            | .rt d => .ok (.rt d) env) := PostS.step0 p3 st4
          have f5 : Sub F1 F4 := (sf.trans f1).trans st4.fle
          cases eB : evSs G io b env3 with
          | bad => rw [eB] at p4; exact p4
          | exc x e1 => rw [eB] at p4; exact p4
          | ok f env4 =>
            rw [eB] at p4
            cases f with
            | nx => exact fun σ' F' H' S' ok' st' er' => ⟨env4, F', S', ok', f5.trans st'.fle, er', PostS.step0 p4 st'⟩
            | ct => exact fun σ' F' H' S' ok' st' er' => ⟨env4, F', S', ok', f5.trans st'.fle, er', PostS.step0 p4 st'⟩
            | bk => exact p4
            | rt d => exact p4
theorem s_whl (SX : SCtx X) {t : Ex} {b : Stms} {et : Expr} {sb : List Stmt} {pos : Pos} (ht : ST X G io P W t et) (hb : SSs X G io P W b sb) : SS X G io P W (.whl t b) (.While et sb [] pos) := fun env =>
  ps_imp (ps_while SX.own (pt_all ht) (pss_all hb)) fun D0 σ H ⟨F, S, ok, er, q⟩ => by
    have q' : PostS X G P W D0 F H S (whileLoop (evT G io t) (evSs G io b) fuel env) := q
    generalize fuel = n at q'
    refine ⟨fun m σ H => ∃ env2 F2 S2, Ok F2 H S2 ∧ EnvR X.K F2 H P env2 σ S2 ∧ PostS X G P W D0 F2 H S2 (whileLoop (evT G io t) (evSs G io b) m env2), ⟨n, env, F, S, ok, er, q'⟩, ?_⟩
    rintro m σ2 H2 ⟨env2, F2, S2, ok2, er2, p2⟩
    cases m with
    | zero => exact p2.elim
    | succ m =>
      have p3 : PostS X G P W D0 F2 H2 S2 ((evT G io t env2).bind fun b0 env => if b0 then (evSs G io b env).bind fun f env => match f with
          | .nx => whileLoop (evT G io t) (evSs G io b) m env
          | .ct => whileLoop (evT G io t) (evSs G io b) m env
          | .bk => .ok .nx env
          | .rt d => .ok (.rt d) env
        else .ok .nx env) := p2
      refine ⟨env2, tT_mono (Mid.nextT (m := evT G io t) (post := fun F0 H0 S0 r => PostS X G P W D0 F0 H0 S0 r) pstS (Mid.start ok2 er2 p3)) fun k H3 ⟨env3, e3, M3⟩ => ?_⟩
      cases k with
      | false =>
        rw [if_neg Bool.false_ne_true]
        simp only [Bool.false_eq_true, if_false] at M3
        exact Mid.nx M3
      | true =>
        rw [if_pos rfl]
        simp only [if_true] at M3
        refine ⟨fun σ' H' => ∃ env2 F2 S2, Ok F2 H' S2 ∧ EnvR X.K F2 H' P env2 σ' S2 ∧ PostS X G P W D0 F2 H' S2 (whileLoop (evT G io t) (evSs G io b) m env2), fun σ' H' z => ⟨m, Nat.lt_succ_self m, z⟩, ?_⟩
        obtain ⟨F4, S4, ok4, er4, p4⟩ := Mid.toS (m := fun env => (evSs G io b env).bind fun f env => match f with
          | .nx => whileLoop (evT G io t) (evSs G io b) m env
          | .ct => whileLoop (evT G io t) (evSs G io b) m env
          | .bk => .ok .nx env
          | .rt d => .ok (.rt d) env) M3
        refine ⟨env3, F4, S4, ok4, er4, ?_⟩
        cases eB : evSs G io b env3 with
        | bad => simp only [eB] at p4; exact p4
        | exc x e1 => simp only [eB] at p4; exact p4
        | ok f env4 =>
          simp only [eB, R.bind] at p4
          cases f with
          | nx => exact fun σ' F' H' S' ok' st' er' => ⟨env4, F', S', ok', er', PostS.step0 p4 st'⟩
          | ct => exact fun σ' F' H' S' ok' st' er' => ⟨env4, F', S', ok', er', PostS.step0 p4 st'⟩
          | bk => exact p4
          | rt d => exact p4
end
end DD

set_option Elab.async false
set_option linter.all false
set_option maxRecDepth 100000
set_option maxHeartbeats 1000000
namespace DD
open PySem PySem.Spec PyProof.Rows L2
section
variable {X : Cx} {G : Glb} {io : List Nat} {P : List (Nat × V)} {W : WX} {c : CC}
theorem s_setLc (C : Ctx X G io P W) (hc : X.calm = true) (k : CCok X G c) {i : Nat} {y : Str} {py : Pos} {elt : Ex} {tg : Tg} {it : It} {cond : Exs} {own : List (Str × Nat)} {eE eT eI : Expr} {ifs : List Expr} {scope : Scope} {pos spos : Pos} (hy : c.N[i]? = some y) (hyl : c.sc.names.lookup y = some .local)
    (hsw : swapsWith (.ListComp eE [⟨eT, eI, ifs, 0⟩] scope pos) (some (.Name y py)) spos.line X.env = pure true) (hs : ∀ j ∈ tg.slots, j ∈ own.map (·.2)) (hp : ∀ j ∈ own.map (·.2), j ∉ io) (hi : SI X G io P W it eT eI) (ok : BlkOk X.N X.env.scope scope own)
    (L : LcP X G io P scope elt tg cond eE eT ifs) (hf : ∀ x, foldedSetIterable eI X.env x = pure x) : SS X G io P W (.asg (.nm i) (.lc elt tg it cond (own.map (·.2)))) (.Assign [.Name y py] (.ListComp eE [⟨eT, eI, ifs, 0⟩] scope pos) spos) := fun env =>
  ps_imp (ps_setLc hc C.nd (by rw [k.N]; exact hy) (by rw [k.sc]; exact hyl) hsw (hi env) ok (fun s H Ca cl fp => pg_all fun q : Env × D => L.g s H Ca cl fp q.1 q.2) (fun s H Ca cl fp => pts_all (L.t s H Ca cl fp)) (fun s H Ca cl fp => pe_all (L.e s H Ca cl fp)) hf) fun D0 σ H h => by
    refine lc_read (W := W) (elt := elt) (tg := tg) (it := it) (cond := cond) (env := env) hs (fun p hp' z => hp _ z (C.pins p hp')) ?_
    refine tE_mono (Mid.next (m := evE G io (.lc elt tg it cond (own.map (·.2)))) (post := fun F0 H0 S0 r => PostS X G P W D0 F0 H0 S0 r) pstS (Mid.ofS h)) fun v H1 ⟨d, env1, e1, M1⟩ => ?_
    exact Mid.store (W := W) (G := G) C.pins (Mid.asg (t := .nm i) M1)
/-- a, b = x, y: names -/
theorem s_par (C : Ctx X G io P W) (hc : X.calm = true) (k : CCok X G c) {i j : Nat} {x y : Str} {a b : Ex} {ea eb : Expr} {px py pt pos : Pos} {kt k2 : Nat} {pt2 : Pos} (hx : c.N[i]? = some x) (hy : c.N[j]? = some y) (hij : i ≠ j) (lx : c.sc.names.lookup x = some .local) (ly : c.sc.names.lookup y = some .local)
    (h : SL X G io P W (.cons a (.cons b .nil)) [ea, eb]) (hw : swappedStores [.Tuple [.Name x px, .Name y py] kt pt] (.Tuple [ea, eb] k2 pt2) X.env = pure (some [x, y])) :
    SS X G io P W (.asg (.tup (.cons (.nm i) (.cons (.nm j) .nil))) (.tup (.cons a (.cons b .nil)))) (.Assign [.Tuple [.Name x px, .Name y py] kt pt] (.Tuple [ea, eb] k2 pt2) pos) := fun env =>
  ps_imp (ps_par hc C.nd (by rw [k.N]; exact hx) (by rw [k.N]; exact hy) hij (by rw [k.sc]; exact lx) (by rw [k.sc]; exact ly) (h env) hw) fun D0 σ H hh => by
    have M : Mid X P σ env [] [] H fun F0 H0 S0 => PostS X G P W D0 F0 H0 S0 ((evL G io (.cons a (.cons b .nil)) env).bind fun ds env => ((if ds.length ≤ lim then R.ok (D.tup ds) env else .bad).bind fun d env => (asgT G io (.tup (.cons (.nm i) (.cons (.nm j) .nil))) d env).bind fun _ env => .ok .nx env)) := (Mid.ofS hh).imp fun F H S z => by
      have z' : PostS X G P W D0 F H S (((evL G io (.cons a (.cons b .nil)) env).bind fun ds env => if ds.length ≤ lim then R.ok (D.tup ds) env else .bad).bind fun d env => (asgT G io (.tup (.cons (.nm i) (.cons (.nm j) .nil))) d env).bind fun _ env => .ok .nx env) := z
      cases e : evL G io (.cons a (.cons b .nil)) env with
      | bad => rw [e] at z'; exact z'
      | exc x e1 => rw [e] at z'; exact z'
      | ok ds e1 => rw [e] at z'; exact z'
    refine tL_mono (Mid.nextL (m := evL G io (.cons a (.cons b .nil))) (post := fun F0 H0 S0 r => PostS X G P W D0 F0 H0 S0 r) pstS M) fun vs H1 ⟨ds, env1, e1, M1⟩ => ?_
    rw [List.append_nil] at M1
    rw [List.append_nil] at M1
    by_cases hl : ds.length ≤ lim
    · simp only [hl, if_true] at M1
      have np := evL_np _ e1
      obtain ⟨F0, H0, S0, F, S, T, a0, st, cc, dj, er, rv⟩ := M1
      have rl := rvl_rep np rv
      have a1 : PostS X G P W D0 F0 H0 S0 ((if ds.length = 2 then asgTs G io (.cons (.nm i) (.cons (.nm j) .nil)) ds env1 else .bad).bind fun _ env => .ok .nx env) := a0
      by_cases h2 : ds.length = 2
      · rw [if_pos h2] at a1
        match ds, h2, rl, a1 with
        | [d1, d2], _, ⟨v, r, T1, T2, ev, m1, m2, dj2, g1, ⟨w, r2, T3, T4, ew, n1, n2, dj3, g2, g3⟩⟩, a1 =>
          have hr2 : r2 = [] := g3
          subst hr2 ew ev
          refine ⟨v, w, rfl, ?_⟩
          have a2 : PostS X G P W D0 F0 H0 S0 (((asgNm io i d1 env1).bind fun _ env => (asgNm io j d2 env).bind fun _ env => .ok () env).bind fun _ env => .ok .nx env) := a1
          have nn : ∀ {l : Nat} {d : D} {e : Env} {r : R Unit}, asgNm io l d e = r → r ≠ .bad → r = .ok () (e.set l (some d)) ∧ l < e.length ∧ io.contains l = false := by
            intro l d e r hh hb
            unfold asgNm at hh
            split at hh
            · rename_i hc
              simp only [Bool.and_eq_true, decide_eq_true_eq, Bool.not_eq_true'] at hc
              exact ⟨hh.symm, hc.2, hc.1.2⟩
            · exact (hb hh.symm).elim
          have hb1 : asgNm io i d1 env1 ≠ .bad := fun z => by rw [z] at a2; exact a2
          obtain ⟨q1, l1, c1⟩ := nn rfl hb1
          rw [q1] at a2
          simp only [R.bind] at a2
          have hb2 : asgNm io j d2 (env1.set i (some d1)) ≠ .bad := fun z => by rw [z] at a2; exact a2
          obtain ⟨q2, l2, c2⟩ := nn rfl hb2
          rw [q2] at a2
          simp only [] at a2
          have nP : ∀ {l : Nat}, io.contains l = false → ∀ p ∈ P, p.1 ≠ l := fun {l} hc p hp e => by
            have := C.pins p hp
            rw [e] at this
            rw [List.contains_eq_mem, decide_eq_false_iff_not] at hc
            exact hc this
          have er1 := er.put l1 (nP c1) g1 fun z x y => dj z x (m1 z y)
          have er2 := er1.put l2 (nP c2) g2 fun z x y => x.elim (fun x => dj z x (m2 z (n1 z y))) fun x => dj2 z x (n1 z y)
          have all : ∀ z, Un2 (Un2 S T1) T3 z → S z ∨ T z := fun z y => y.elim (fun y => y.imp id (m1 z)) fun y => .inr (m2 z (n1 z y))
          exact a2 _ F H1 _ (cc.mono all) (st.weak all) er2
      · rw [if_neg h2] at a1
        exact a1.elim
    · simp only [hl, if_false] at M1
      exact (M1.no fun F H S z => z).elim
theorem s_raise (C : Ctx X G io P W) (hc : X.calm = true) (k : CCok X G c) {e : Nat} {x m : Str} {j : Nat} {p p2 pc pos : Pos} (hx : c.nm e = x) (hd : c.ex e = true) (h : gloB c x = true) : SS X G io P W (.raise e) (.Raise (some (.Call (.Name x p) [.Constant (.str m) j p2] [] pc)) none pos) := fun env => by
  obtain ⟨h1, h2, h3⟩ := glo_of k h
  obtain ⟨Ca, bmB, B, newId, initId, F, q, gC, kC, r⟩ := (k.exs e hd).ex
  have gC' := gC
  rw [k.nm, hx] at gC'
  exact ps_imp (L2N.ps_raise hc C.takes (L2N.pmk_own F q gC' kC r h1 h2)) fun D0 σ H ⟨F, S, ok, er, q⟩ => q σ F H S _ ok Step.refl er gC
end
end DD

set_option Elab.async false
set_option linter.all false
set_option maxRecDepth 100000
set_option maxHeartbeats 1000000
namespace DD
open PySem PySem.Spec PyProof.Rows L2
/-! ### defs -/
section
variable {K : PySem.W.Frag} {H : Hp}
theorem handIn_ok (io : List Nat) : ∀ {ds : List D} {k : Nat} {F : Hp} {vs : List V} {S : AS}, Sub F H → (∀ a, S a → F a = none) → RepL K F H ds vs S →
    ∃ F' S', Sub F F' ∧ Sub F' H ∧ (∀ a, F' a ≠ none → F a ≠ none ∨ S a) ∧ (∀ a, S' a → S a ∧ F' a = none) ∧ RepL K F' H (handIn io k ds) vs S'
  | [], k, F, vs, S, s, o, h => ⟨F, No, .refl, s, fun _ z => .inl z, fun _ z => z.elim, h⟩
  | d :: ds, k, F, vs, S, s, o, ⟨v, r, S1, S2, e, m1, m2, dj, h1, h2⟩ => by
    subst e
    by_cases hk : io.contains k = true
    · obtain ⟨F', S', f1, f2, f3, f4, f5⟩ := handIn_ok io (k := k + 1) s (fun a z => o a (m2 a z)) h2
      have n1 : ∀ a, S1 a → F' a = none := fun a z => by
        cases q : F' a with
        | none => rfl
        | some u => exact ((f3 a (by rw [q]; simp)).elim (fun y => y (o a (m1 a z))) fun y => dj a z y).elim
      refine ⟨F', Un2 S1 S', f1, f2, fun a z => (f3 a z).imp id (m2 a), fun a z => z.elim (fun z => ⟨m1 a z, n1 a z⟩) fun z => ⟨m2 a (f4 a z).1, (f4 a z).2⟩, ?_⟩
      unfold handIn
      rw [if_pos hk]
      exact ⟨v, r, S1, S', rfl, fun _ z => .inl z, fun _ z => .inr z, fun a x y => dj a x (f4 a y).1, Rep.keep f1 _ (fun _ z => z) (fun _ _ _ z => z) h1, f5⟩
    · obtain ⟨F1, g1, g2, g3, g4⟩ := Rep.freeze d s (fun a z => o a (m1 a z)) h1
      have off2 : ∀ a, S2 a → F1 a = none := fun a z => by
        cases q : F1 a with
        | none => rfl
        | some u => exact ((g3 a (by rw [q]; simp)).elim (fun y => y (o a (m2 a z))) fun y => dj a y z).elim
      obtain ⟨F', S', f1, f2, f3, f4, f5⟩ := handIn_ok io (k := k + 1) g2 off2 (RepL.keep g1 _ (fun _ z => z) (fun _ _ _ z => z) h2)
      refine ⟨F', S', g1.trans f1, f2, fun a z => (f3 a z).elim (fun y => (g3 a y).imp id (m1 a)) fun y => .inr (m2 a y), fun a z => ⟨m2 a (f4 a z).1, (f4 a z).2⟩, ?_⟩
      unfold handIn
      rw [if_neg hk]
      exact ⟨v, r, No, S', rfl, fun _ z => z.elim, fun _ z => z, fun _ z => z.elim, Rep.keep f1 _ (fun _ z => z) (fun _ _ z => z.elim) g4, f5⟩
theorem handIn_len (io : List Nat) : ∀ (ds : List D) (k : Nat), (handIn io k ds).length = ds.length
  | [], _ => rfl
  | d :: ds, k => by unfold handIn; rw [List.length_cons, List.length_cons, handIn_len io ds]
/-- a list of data, each with what it owns -/
theorem repL_own {F : Hp} : ∀ {ds : List D} {vs : List V} {S : AS}, RepL K F H ds vs S → ∃ o : Nat → AS, (∀ i a, o i a → S a) ∧ (∀ i j a, o i a → o j a → i = j) ∧ ∀ (i : Nat) d, ds[i]? = some d → ∃ v, vs[i]? = some v ∧ Rep K F H d v (o i)
  | [], vs, S, h => ⟨fun _ => No, fun _ _ z => z.elim, fun _ _ _ z => z.elim, fun i d e => by simp at e⟩
  | d :: ds, _, S, ⟨v, r, S1, S2, e, m1, m2, dj, h1, h2⟩ => by
    subst e
    obtain ⟨o, o1, o2, o3⟩ := repL_own h2
    refine ⟨fun i => match i with | 0 => S1 | i + 1 => o i, fun i a z => ?_, fun i j a x y => ?_, fun i d' e => ?_⟩
    · cases i with
      | zero => exact m1 a z
      | succ i => exact m2 a (o1 i a z)
    · cases i with
      | zero => cases j with
        | zero => rfl
        | succ j => exact (dj a x (o1 j a y)).elim
      | succ i => cases j with
        | zero => exact (dj a y (o1 i a x)).elim
        | succ j => rw [o2 i j a x y]
    · cases i with
      | zero => simp at e; subst e; exact ⟨v, rfl, h1⟩
      | succ i =>
        obtain ⟨w, e1, e2⟩ := o3 i d' (by simpa using e)
        exact ⟨w, by simpa using e1, e2⟩
theorem repL_env {F : Hp} {P : List (Nat × V)} {ds : List D} {vs : List V} {S : AS} (m : Nat) (hP : ∀ p ∈ P, vs[p.1]? = some p.2) (h : RepL K F H ds vs S) : EnvR K F H P (ds.map some ++ List.replicate m none) (vs.map some ++ List.replicate m none) S := by
  obtain ⟨o, o1, o2, o3⟩ := repL_own h
  have hl := repL_len h
  refine ⟨⟨o, o1, o2, fun i d e => ?_⟩, by rw [List.length_append, List.length_append, List.length_map, List.length_map, hl, List.length_replicate, List.length_replicate], fun p hp => ?_⟩
  · unfold get at e
    by_cases hi : i < ds.length
    · rw [List.getElem?_append_left (by rw [List.length_map]; exact hi), List.getElem?_map] at e
      cases q : ds[i]? with
      | none => rw [q] at e; simp at e
      | some x =>
        rw [q] at e
        simp at e
        subst e
        obtain ⟨v, e1, e2⟩ := o3 i x q
        refine ⟨v, ?_, e2⟩
        rw [List.getElem?_append_left (by rw [List.length_map, ← hl]; exact hi), List.getElem?_map, e1]
        rfl
    · rw [List.getElem?_append_right (by rw [List.length_map]; omega), List.getElem?_replicate] at e
      split at e <;> simp at e
  · have e := hP p hp
    have hi : p.1 < vs.length := (List.getElem?_eq_some_iff.mp e).1
    rw [List.getElem?_append_left (by rw [List.length_map]; exact hi), List.getElem?_map, e]
    rfl
/-- what the in-and-out parameters hold at the end -/
theorem outs_ok {F : Hp} {P : List (Nat × V)} {io : List Nat} {env : Env} {σ : L2.St} {S : AS} (er : EnvR K F H P env σ S) : ∀ {vs : List V} {outs : List D} {k : Nat}, (∀ i v, vs[i]? = some v → io.contains (k + i) = true → σ[k + i]? = some (some v)) → outs? env io k vs.length = some outs → RepL K F H outs (pick io k vs) S := by
  obtain ⟨⟨o, h1, h2, h3⟩, l, pn⟩ := er
  have main : ∀ {vs : List V} {outs : List D} {k : Nat}, (∀ i v, vs[i]? = some v → io.contains (k + i) = true → σ[k + i]? = some (some v)) → outs? env io k vs.length = some outs → RepL K F H outs (pick io k vs) (fun a => ∃ j, k ≤ j ∧ o j a) := by
    intro vs
    induction vs with
    | nil => intro outs k _ e; cases e; exact rfl
    | cons v vs ih =>
      intro outs k hs e
      have hs' : ∀ i w, vs[i]? = some w → io.contains (k + 1 + i) = true → σ[k + 1 + i]? = some (some w) := fun i w q c => by
        have := hs (i + 1) w (by simpa using q) (by rw [show k + (i + 1) = k + 1 + i by omega]; exact c)
        rwa [show k + (i + 1) = k + 1 + i by omega] at this
      rw [List.length_cons] at e
      unfold outs? at e
      unfold pick
      by_cases hk : io.contains k = true
      · rw [if_pos hk] at e ⊢
        cases q1 : get env k with
        | none => rw [q1] at e; cases e
        | some d =>
          cases q2 : outs? env io (k + 1) vs.length with
          | none => rw [q1, q2] at e; cases e
          | some ds =>
            rw [q1, q2] at e
            cases e
            obtain ⟨w, e1, r⟩ := h3 k d q1
            have e2 := hs 0 v rfl hk
            rw [Nat.add_zero] at e2
            rw [e1] at e2
            cases e2
            exact ⟨v, _, o k, _, rfl, fun a z => ⟨k, Nat.le_refl _, z⟩, fun a ⟨j, hj, z⟩ => ⟨j, by omega, z⟩, fun a x ⟨j, hj, y⟩ => by have := h2 k j a x y; omega, r, ih hs' q2⟩
      · rw [if_neg hk] at e ⊢
        exact RepL.keep .refl _ (fun a ⟨j, hj, z⟩ => ⟨j, by omega, z⟩) (fun _ _ _ z => z) (ih hs' e)
  exact fun {vs outs k} hs e => RepL.keep .refl _ (fun a ⟨j, hj, z⟩ => h1 j a z) (fun _ _ _ z => z) (main hs e)
end
def ioPins (io : List Nat) (vs : List V) : List (Nat × V) := io.filterMap fun i => vs[i]?.map fun v => (i, v)
theorem ioPins_at {io : List Nat} {vs : List V} {p : Nat × V} (h : p ∈ ioPins io vs) : p.1 ∈ io ∧ vs[p.1]? = some p.2 := by
  obtain ⟨i, hi, e⟩ := List.mem_filterMap.mp h
  obtain ⟨v, e1, e2⟩ := Option.map_eq_some_iff.mp e
  subst e2
  exact ⟨hi, e1⟩
theorem ioPins_has {io : List Nat} {vs : List V} {i : Nat} {v : V} (h : io.contains i = true) (e : vs[i]? = some v) : (i, v) ∈ ioPins io vs :=
  List.mem_filterMap.mpr ⟨i, by simpa [List.contains_eq_mem] using h, by rw [e]; rfl⟩
/-- module-wide facts -/
structure ModX (K : PySem.W.Frag) (mg : Str → Option Value) (G : Glb) : Prop where
  blt : ∀ x ∈ bltNames, mg x = none
  cst : ∀ c d, G.cst c = some d → noPlc d = true ∧ ∃ v u, mg (G.nm c) = some u ∧ RelV v u ∧ ∀ F H, Rep K F H d v No
  sub : ∀ k x b, G.sub k x = some b → ∃ Ck Cx : Addr, mg (G.nm k) = some (.ref Ck) ∧ mg (G.nm x) = some (.ref Cx) ∧ PySem.W.exmOne K (.ref Ck) (.ref Cx) = some b
structure FnM (P : Program) (w : World) (K : PySem.W.Frag) (mg : Str → Option Value) (base : Heap) (G : Glb) (f : Nat) (g : List D → FR) (k : Nat) : Prop where
  ex : ∃ (a : Addr) (fd : FuncData) (ps : List Str) (k' : Nat), k' ≤ k ∧ mg (G.nm f) = some (.ref a) ∧ PySem.W.keepIn K (.ref a) = true ∧ Binds K fd ps [] ∧ FnG P w K mg base k' a fd ps (spF K mg G (G.io f) ps.length g) ∧ ∀ ds, g ds ≠ .bad → ds.length = ps.length
structure ExM (K : PySem.W.Frag) (mg : Str → Option Value) (G : Glb) (x : Nat) : Prop where
  ex : ∃ (C : Addr) (bmB : List Value) (B newId initId : String), ExcBaseFacts B newId initId bmB ∧ PySem.W.excIn K C bmB newId = true ∧ mg (G.nm x) = some (.ref C) ∧ PySem.W.keepIn K (.ref C) = true ∧ PySem.W.subIn K (.ref C) (.type "BaseException") = some true ∧ PySem.W.typeIn K (.ref C) = some (.type "type")
structure LeM (P : Program) (w : World) (K : PySem.W.Frag) (mg : Str → Option Value) (base : Heap) (G : Glb) (x j : Nat) (d : D) (k : Nat) : Prop where
  ex : ∃ (Cx Dc f : Addr) (z : Str) (fd : FuncData) (kk : Nat), kk ≤ k ∧ d = .str z ∧ PyData.strOk z = true ∧ mg (G.nm x) = some (.ref Cx) ∧ mg (G.nm j) = some (.ref Dc) ∧ PySem.W.exmOne K (.ref Dc) (.ref Cx) = some true ∧ mg "_law_error" = some (.ref f) ∧ PySem.W.keepIn K (.ref f) = true ∧
    Binds K fd ["e"] [] ∧ FnE P w K mg base kk f fd Dc z
theorem spF_mirror {K : PySem.W.Frag} {mg : Str → Option Value} {G : Glb} {io : List Nat} {n : Nat} {g g' : List D → FR} (h : ∀ ds, g' ds ≠ .bad → g ds = g' ds) {vs : List V} {H : Hp} {Q : VK} {E : XK} (s : spF K mg G io n g' vs H Q E) : spF K mg G io n g vs H Q E := by
  obtain ⟨F, S, ds, ok, r, hl, p⟩ := s
  refine ⟨F, S, ds, ok, r, hl, ?_⟩
  have : g' ds ≠ .bad := fun z => by rw [z] at p; exact p
  rw [h ds this]
  exact p
theorem fnG_imp {P : Program} {w : World} {K : PySem.W.Frag} {mg : Str → Option Value} {base : Heap} {k : Nat} {f : Addr} {fd : FuncData} {ps : List Str} {sp sp' : Sp} (h : FnG P w K mg base k f fd ps sp) (q : ∀ vs H Q E, sp' vs H Q E → sp vs H Q E) : FnG P w K mg base k f fd ps sp' :=
  ⟨fun vs H Q E s => h.len vs H Q E (q _ _ _ _ s), fun A outer s H args us vs Q E hr gd e0 hb r hs => h.run A outer s H args us vs Q E hr gd e0 hb r (q _ _ _ _ hs)⟩
theorem FnG.mono {P : Program} {w : World} {K : PySem.W.Frag} {mg : Str → Option Value} {base : Heap} {k k' : Nat} {f : Addr} {fd : FuncData} {ps : List Str} {sp : Sp} (h : FnG P w K mg base k f fd ps sp) (q : k ≤ k') : FnG P w K mg base k' f fd ps sp :=
  ⟨h.len, fun A outer s H args us vs Q E hr => h.run A outer s H args us vs Q E (hr.mono q)⟩
section
variable {P : Program} {w : World} {K : PySem.W.Frag} {mg : Str → Option Value} {base : Heap} {G : Glb} {x qual : Str} {params : Arguments} {body : List Stmt} {scope : Scope} {f : Addr} {fd : FuncData} {N ps : List Str} {io : List Nat} {k : Nat}
/-- a def by its body -/
theorem defG_ok {sp : Sp} (F : FunD K x qual params body scope [] [] f fd) (S : FnScope N ps scope) (len : ∀ vs H Q E, sp vs H Q E → vs.length = ps.length)
    (hbody : ∀ (cdv : Value) (A : Around) (outer : List PySem.Env) (s : Shared) (H : Hp) (vs : List V) (Q : VK) (E : XK), A.guards = some [] → Room k (A.deeper (envOfC qual scope s.heap.objs.size f cdv)) → sp vs H Q E →
      ∃ t, PSs (cxOf (L2N.CX P w) P w K mg base N qual scope f cdv A outer s H E) body t ∧ t { nx := fun _ H' => Q .non H', rt := Q } (L2.start N vs) H) : FnG P w K mg base (k + 1) f fd ps sp := by
  obtain ⟨oc, od, dV, kV, doc, pm, an, cdv, ct, osl, rfl, lk, hcd, _, _⟩ := F.ex
  refine ⟨len, fun A outer s H args us vs Q E hr gd e0 hb r hsp => ?_⟩
  have hl := len _ _ _ _ hsp
  have inK : K.In s.heap := e0.mod.kin.keeps fun b o e => (e0.bs b o e).1
  have nolim : s.heap.NoLimit := e0.mod.nolimit.keeps fun b o e => (e0.bs b o e).1
  have kinds : ∀ y ∈ ps.zip us, scope.names.lookup y.1 = some .local ∨ (scope.names.lookup y.1 = some .cell ∧ ((cellsFrom (s.heap.objs.size + 1) scope.names []).lookup y.1).isSome = true) := fun y hy =>
    (S.par y.1 (List.of_mem_zip hy).1).imp id fun q => ⟨q, PySem.W.cellsFrom_some _ _ _ (.inl q)⟩
  refine codeAny_call_function hr.depth (inK _ _ lk) rfl S.co S.gen rfl (PySem.W.codeRec_of inK hcd) (hb _ _ _ _ ?_)
  refine wpAny_newFunctionEnv_cells S.kind kinds fun env he s1 xx => ?_
  subst he
  refine ⟨nolim.keeps xx.toInCall.keep, codeAny_func ?_⟩
  obtain ⟨t, ht, hq⟩ := hbody cdv A outer s H vs Q E gd (hr.deeper _) hsp
  have I : Inv (cxOf (L2N.CX P w) P w K mg base N qual scope f cdv A outer s H E) [] (L2.start N vs) H s1 := inv_start S hr.hd e0 hl r xx
  have done : ∀ {σ' : L2.St} {H' : Hp} {s' : Shared} {v : V} {u : Value}, Inv (cxOf (L2N.CX P w) P w K mg base N qual scope f cdv A outer s H E) [] σ' H' s' → RelV v u → Q v H' → CE outer P w H s Q u s' :=
    fun {σ' H' s' v u} J rv q => ⟨v, H', J.os, J.bare, J.base, J.hok, rv, q⟩
  refine wpAny_mono (ht.run [] s1 _ H _ I hq) (fun fl s' hs => ?_) fun e s' hs => hs
  cases fl with
  | ret u => obtain ⟨v, σ', H', J, rv, q⟩ := hs; exact done J rv q
  | next => obtain ⟨σ', H', J, q⟩ := hs; exact done (v := V.non) (u := Value.none) J rfl q
  | brk => obtain ⟨_, _, _, q⟩ := hs; exact q.elim
  | cont => obtain ⟨_, _, _, q⟩ := hs; exact q.elim
/-- THE RULE for a def -/
theorem fn_sound {stms : Stms} {df ex : Nat → Bool} {nm : Nat → Str} {lo : Bool} (hnm : G.nm = nm) (F : FunD K x qual params body scope [] [] f fd) (S : FnScope N ps scope) (M : ModX K mg G) (hf : ∀ f, df f = true → ∃ g, G.fn f = some g ∧ FnM P w K mg base G f g k) (he : ∀ x, ex x = true → ExM K mg G x) (hle : lo = true → ∀ x j d, G.le x j = some d → LeM P w K mg base G x j d k)
    (hb : ∀ (X : Cx) (P : List (Nat × V)) (W : WX), Ctx X G io P W → SCtx X → CCok X G ⟨N, scope, fun _ => true, nm, df, ex, true, lo⟩ → SSs X G io P W stms body) :
    FnG P w K mg base (k + 1) f fd ps (spF K mg G io ps.length (runDef G io stms N.length ps.length)) := by
  refine defG_ok F S (fun vs H Q E ⟨F, S, ds, ok, r, hl, p⟩ => by rw [← repL_len r, hl]) fun cdv A outer s H vs Q E gd hr ⟨F0, S0, ds, ok, r, hl, p⟩ => ?_
  have nd : (cxOf (L2N.CX P w) P w K mg base N qual scope f cdv A outer s H E).N.Nodup := S.nd
  have Cx1 : Ctx (cxOf (L2N.CX P w) P w K mg base N qual scope f cdv A outer s H E) G io (ioPins io vs) (fun cls d _ H => E cls d H) :=
    ⟨S.nd, by have h1 := hr.un; exact Nat.lt_of_le_of_lt (Nat.add_le_add_right (Nat.le_add_right _ _) _) h1, L2N.takes_of rfl rfl rfl rfl, M.blt, M.cst, M.sub, fun p hp => (ioPins_at hp).1, gd⟩
  have CC1 : CCok (cxOf (L2N.CX P w) P w K mg base N qual scope f cdv A outer s H E) G ⟨N, scope, fun _ => true, nm, df, ex, true, lo⟩ :=
    ⟨rfl, rfl, rfl, hnm, fun f hd => by
      obtain ⟨g, e, FM⟩ := hf f hd
      obtain ⟨a, fd, ps, k', hk, h1, h2, h3, h4, h5⟩ := FM.ex
      exact ⟨g, e, ⟨a, fd, ps, k', h1, h2, hr.mono hk, h3, h4, h5⟩⟩, fun y hd => by
      obtain ⟨C, bmB, B, n1, n2, h1, h2, h3, h4, h5, h6⟩ := (he y hd).ex
      exact ⟨C, bmB, B, n1, n2, h1, h2, h3, h4, raises_own h5 h6⟩, fun _ => rfl, fun z => Bool.noConfusion z, fun hl x j d e => by
      obtain ⟨Cx, Dc, f, z, fd, kk, hk, h0, h1, h2, h3, h4, h5, h6, h7, h8⟩ := (hle hl x j d e).ex
      exact ⟨Cx, Dc, f, z, fd, kk, h0, h1, h2, h3, h4, h5, h6, h7, hr.mono hk, h8⟩⟩
  have SB := hb _ _ _ Cx1 ⟨PassesOwn.leaving, rfl, rfl⟩ CC1
  obtain ⟨F1, S1, f1, f2, f3, f4, f5⟩ := handIn_ok io (k := 0) ok.sub (fun a z => ok.off a z) r
  have hvl : vs.length = ps.length := by rw [← repL_len r, hl]
  refine ⟨_, SB ((handIn io 0 ds).map some ++ List.replicate (N.length - vs.length) none), F1, S1, ⟨f2, fun a z => (f4 a z).2, fun a z => ok.al a (f4 a z).1⟩, repL_env _ (fun p hp => (ioPins_at hp).2) f5, ?_⟩
  have st0 : Step F0 H S0 F1 H S1 := ⟨f1, fun _ _ _ e => e, fun _ z => z, fun a z => (f3 a z).imp id .inl, fun a z => .inl (f4 a z).1⟩
  have p' : PostF K mg G F0 H S0 io vs (ends io ps.length (evSs G io stms ((handIn io 0 ds).map some ++ List.replicate (N.length - vs.length) none))) Q E := by
    have p2 := p
    unfold runDef at p2
    rw [if_pos hl, ← hvl] at p2
    rw [← hvl]
    exact p2
  generalize evSs G io stms ((handIn io 0 ds).map some ++ List.replicate (N.length - vs.length) none) = res at p'
  have outsOk : ∀ {env : Env} {σ' : L2.St} {F' H' : Hp} {S' : AS} {outs : List D}, EnvR K F' H' (ioPins io vs) env σ' S' → outs? env io 0 ps.length = some outs → RepL K F' H' outs (pick io 0 vs) S' := fun {env σ' F' H' S' outs} er e => by
    rw [← hvl] at e
    exact outs_ok er (fun i v e1 c => by rw [Nat.zero_add] at c ⊢; exact er.pin _ (ioPins_has c e1)) e
  cases res with
  | bad => exact p'
  | exc y env =>
    unfold ends at p'
    cases q : outs? env io 0 ps.length with
    | none => simp only [q] at p'; exact p'.elim
    | some outs =>
      simp only [q] at p'
      exact fun σ' F' H' S' cls ok' st' er' hm => p' F' H' S' cls ok' (st0.trans0 st') (outsOk er' q) hm
  | ok fl env =>
    cases fl with
    | nx =>
      unfold ends at p'
      cases q : outs? env io 0 ps.length with
      | none => simp only [q] at p'; exact p'.elim
      | some outs =>
        simp only [q] at p'
        exact fun σ' F' H' S' ok' st' er' => p' .non F' H' S' No (ok'.mono fun a z => z.elim id False.elim) (fun _ _ z => z) ((st0.trans0 st').weak fun a z => z.elim id False.elim) (outsOk er' q) rfl
    | rt d =>
      unfold ends at p'
      cases q : outs? env io 0 ps.length with
      | none => simp only [q] at p'; exact p'.elim
      | some outs =>
        simp only [q] at p'
        exact fun v σ' F' H' S' T ok' dj' st' er' rv => p' v F' H' S' T ok' dj' (st0.trans0 st') (outsOk er' q) rv
    | bk => exact p'.elim
    | ct => exact p'.elim
end
end DD

set_option Elab.async false
set_option linter.all false
set_option maxRecDepth 100000
set_option maxHeartbeats 1000000
namespace DD
open PySem PySem.Spec PyProof.Rows L2
/-! ### the checker: a text is a compact term -/
def isStar : Expr → Bool
  | .Starred _ _ => true
  | _ => false
def isSet : Expr → Bool
  | .Set _ _ _ => true
  | _ => false
def isSlice : Expr → Bool
  | .Slice _ _ _ _ => true
  | _ => false
def isIf : Expr → Bool
  | .IfExp _ _ _ _ => true
  | _ => false
def isComp : Expr → Bool
  | .ListComp _ _ _ _ => true
  | .SetComp _ _ _ _ => true
  | .DictComp _ _ _ _ _ => true
  | _ => false
def isTup : Expr → Bool
  | .Tuple _ _ _ => true
  | _ => false
def isUnpack : Expr → Bool
  | .Tuple _ _ _ => true
  | .List _ _ => true
  | _ => false
/-- its truth is that of its value -/
def plainT : Expr → Bool
  | .UnaryOp .Not _ _ => false
  | .BoolOp _ _ _ => false
  | .IfExp _ _ _ _ => false
  | .Compare _ _ _ _ => false
  | _ => true
def bltNm : Blt → Str
  | .len => "len" | .abs => "abs" | .min => "min" | .max => "max" | .sum => "sum" | .all => "all" | .any => "any" | .int => "int" | .list => "list" | .tuple => "tuple" | .str => "str" | .bool => "bool" | .repr => "repr"
def bltOn (calm : Bool) : Blt → Bool
  | .str => false
  | .sum => calm
  | .all => calm
  | .any => calm
  | .min => calm
  | .max => calm
  | _ => true
def CC.blk (c : CC) (scope : Scope) : CC := { c with sc := relS scope c.sc, fn := fun x => scope.names.lookup x == some .cell }
def ownNm (c : CC) (own : List Nat) : List (Str × Nat) := own.map fun i => (c.N.getD i "", i)
/-- no call: nothing special stands ahead of the point -/
def isPlainE : Expr → Bool
  | .Call _ _ _ _ => false
  | _ => true
theorem plain_base {ea : Expr} {x : Str} {env : PySem.Env} (h : isPlainE ea = true) : attributeBase ea x env (eval ea env) = eval ea env := by
  cases ea <;> first | rfl | cases h
mutual
def chkE (io : List Nat) (c : CC) : Ex → Expr → Bool
  | .nop, _ => false
  | .cst d, e => (match e with | .Constant k _ _ => cstB d k | _ => false)
  | .var i, e => (match e with | .Name x _ => nameB c i x | _ => false)
  | .mv i, e => (match e with | .Name x _ => nameB c i x | _ => false)
  | .plc i, e => (match e with | .Name x _ => nameB c i x | _ => false)
  | .glo g, e => (match e with | .Name x _ => decide (c.nm g = x) && gloB c x | _ => false)
  | .bin o a b, e => (match e with | .BinOp ea op eb _ => decide (op = boOp o) && chkE io c a ea && chkE io c b eb | _ => false)
  | .fz a, e => plainT e && chkE io c a e
  | .neg a, e => (match e with | .UnaryOp .USub ea _ => chkE io c a ea | _ => false)
  | .cmp o a b, e => (match e with | .Compare ea [op] [eb] _ => decide (op = cmOp o) && !behindInMarks op eb && chkE io c a ea && chkE io c b eb | _ => false)
  | .chn o o' a b d, e => (match e with | .Compare ea [op, op'] [eb, ed] _ => decide (op = cmOp o) && decide (op' = cmOp o') && !lastMarks [op, op'] [eb, ed] && chkE io c a ea && chkE io c b eb && chkE io c d ed | _ => false)
  | .and es, e => (match e with | .BoolOp .And vs _ => chkB io c es vs | _ => false)
  | .or es, e => (match e with | .BoolOp .Or vs _ => chkB io c es vs | _ => false)
  | .not a, e => (match e with | .UnaryOp .Not ea _ => !isIf ea && chkE io c a ea | _ => false)
  | .ife t a b, e => (match e with | .IfExp et ea eb _ => !isIf et && chkE io c t et && chkE io c a ea && chkE io c b eb | _ => false)
  | .ix a i, e => (match e with | .Subscript ea ei _ => !isSlice ei && chkE io c a ea && chkE io c i ei | _ => false)
  | .sl a lo hi, e => (match e with | .Subscript ea (.Slice elo ehi none _) _ => chkE io c a ea && (match elo with | none => lo.isNop | some x => !lo.isNop && chkE io c lo x) && (match ehi with | none => hi.isNop | some x => !hi.isNop && chkE io c hi x) | _ => false)
  | .tup es, e => (match e with | .Tuple as _ _ => chkL io c es as | _ => false)
  | .lst es, e => (match e with | .List as _ => chkL io c es as | _ => false)
  | .blt f es, e => (match e with | .Call (.Name x _) (a :: as) [] _ => bltOn c.calm f && decide (bltNm f = x) && gloB c x && (a :: as).all (!isStar ·) && chkA io c es (a :: as) | _ => false)
  | .lrng es, e => (match e with | .Call (.Name l _) [.Call (.Name r _) as [] _] [] _ => c.calm && decide (l = "list") && decide (r = "range") && gloB c l && gloB c r && as.all (!isStar ·) && decide (as.length = 1 ∨ as.length = 2) && chkA io c es as | _ => false)
  | .call f es, e => (match e with | .Call (.Name x _) (a :: as) [] _ => decide (c.nm f = x) && c.df f && gloB c x && (a :: as).all (!isStar ·) && chkA io c es (a :: as) | _ => false)
  | .lc elt tg it cond own, e => (match e with
    | .ListComp eE [⟨eT, eI, ifs, k⟩] scope _ => c.calm && decide (k = 0) && blkC c.N c.sc scope (ownNm c own) && tg.slots.all (own.contains ·) && own.all (!io.contains ·) && !isSet eI && chkI io c it eT eI && chkG io (c.blk scope) tg eT && chkC io (c.blk scope) cond ifs && chkE io (c.blk scope) elt eE
    | _ => false)
  | .app i a, e => (match e with | .Call (.Attribute (.Name x _) attr apos) [ea] [] cpos => decide (attr = "append") && nameB c i x && (apos.endLine == cpos.line) && !isStar ea && chkE io c a ea | _ => false)
  | .pop i, e => (match e with | .Call (.Attribute (.Name x _) attr apos) [] [] cpos => decide (attr = "pop") && nameB c i x && (apos.endLine == cpos.line) | _ => false)
  | .op1 o a, e => (match o, e with
    | .rev, .Subscript ea (.Slice none none (some (.UnaryOp .USub (.Constant (.int 1) _ _) _)) _) _ => chkE io c a ea
    | .sset, .Call (.Name x1 _) [.Call (.Name x2 _) [ea] [] _] [] _ => c.calm && decide (x1 = "sorted") && decide (x2 = "set") && gloB c x1 && gloB c x2 && !isStar ea && chkE io c a ea
    | _, _ => false)
  | .sidx z a, e => (match e with | .Call (.Attribute (.Constant (.str z') _ _) attr apos) [ea] [] cpos => decide (z' = z) && decide (attr = "index") && (apos.endLine == cpos.line) && !isStar ea && chkE io c a ea | _ => false)
  | .dget kvs k d, e => (match e with | .Call (.Attribute (.Dict ks vs _) attr apos) [ek, ed] [] cpos => decide (attr = "get") && chkD c kvs ks vs && decide (kvs.length ≤ 15) && !kvs.isEmpty && (apos.endLine == cpos.line) && !isStar ek && !isStar ed && chkE io c k ek && chkE io c d ed | _ => false)
  | .fidx _ x y, e => (match e with | .Call (.Attribute ea attr apos) [eb] [] cpos => decide (attr = "index") && isPlainE ea && (apos.endLine == cpos.line) && !isStar eb && chkE io c x ea && chkE io c y eb | _ => false)
  | .callAt fs i es, e => (match e with | .Call (.Subscript (.List fes _) ei _) (a :: as) [] _ => chkFs c fs fes && decide (fs.length ≤ 1000) && !isSlice ei && (a :: as).all (!isStar ·) && chkE io c i ei && chkA io c es (a :: as) | _ => false)
  | .ext i a, e => (match e with | .Call (.Attribute (.Name x _) attr apos) [ea] [] cpos => decide (attr = "extend") && nameB c i x && (apos.endLine == cpos.line) && !isStar ea && chkE io c a ea | _ => false)
/-- the parts of and, or -/
def chkB (io : List Nat) (c : CC) : Exs → List Expr → Bool
  | .nil, _ => false
  | .star _ _, _ => false
  | .cons e r, as => (match as with
    | [] => false
    | a :: as => !isIf a && chkE io c e a && (match as with
      | [] => r.isNil
      | _ :: _ => !r.isNil && chkB io c r as))
/-- items -/
def chkL (io : List Nat) (c : CC) : Exs → List Expr → Bool
  | .nil, as => as.isEmpty
  | .cons e r, as => (match as with
    | a :: as => !isStar a && chkE io c e a && chkL io c r as
    | [] => false)
  | .star e r, as => (match as with
    | .Starred a _ :: as => chkE io c e a && chkL io c r as
    | _ => false)
/-- arguments -/
def chkA (io : List Nat) (c : CC) : Exs → List Expr → Bool
  | .nil, as => as.isEmpty
  | .cons e r, as => (match as with
    | a :: as => !isStar a && chkE io c e a && chkA io c r as
    | [] => false)
  | .star _ _, _ => false
def chkC (io : List Nat) (c : CC) : Exs → List Expr → Bool
  | .nil, as => as.isEmpty
  | .cons e r, as => (match as with
    | [a] => r.isNil && !isIf a && chkE io c e a
    | _ => false)
  | .star _ _, _ => false
def chkG (io : List Nat) (c : CC) : Tg → Expr → Bool
  | .nm i, e => (match e with | .Name x _ => storeB c i x | _ => false)
  | .tup ts, e => (match e with | .Tuple as _ _ => c.calm && as.all (!isStar ·) && chkGs io c ts as | _ => false)
  | .sub i a, e => (match e with | .Subscript (.Name x _) ea _ => nameB c i x && !isSlice ea && chkE io c a ea | _ => false)
def chkGs (io : List Nat) (c : CC) : Tgs → List Expr → Bool
  | .nil, as => as.isEmpty
  | .cons t r, as => (match as with
    | a :: as => chkG io c t a && chkGs io c r as
    | [] => false)
def chkI (io : List Nat) (c : CC) : It → Expr → Expr → Bool
  | .val e, _, a => chkE io c e a
  | .rng es, _, a => (match a with | .Call (.Name r _) as [] _ => decide (r = "range") && gloB c r && as.all (!isStar ·) && decide (as.length = 1 ∨ as.length = 2 ∨ as.length = 3) && chkA io c es as | _ => false)
  | .enum e, t, a => (match t, a with | .Tuple _ _ _, .Call (.Name x _) [ea] [] _ => decide (x = "enumerate") && gloB c x && !isStar ea && chkE io c e ea | _, _ => false)
  | .zip a b, t, e => (match t, e with | .Tuple _ _ _, .Call (.Name x _) [ea, eb] [] _ => decide (x = "zip") && gloB c x && !isStar ea && !isStar eb && chkE io c a ea && chkE io c b eb | _, _ => false)
end
/-! ### what the forms give -/
section
variable {X : Cx}
theorem star_of {e : Expr} (h : isStar e = false) (es : List Expr) (env : PySem.Env) : starEach (e :: es) env = (false, eval e env) :: starEach es env := by
  cases e <;> first | rfl | simp [isStar] at h
theorem stars_of {es : List Expr} {env : PySem.Env} {pos : Pos} (h : es.all (!isStar ·) = true) : (backTo pos (starEach es env)).any (·.1) = false := by
  induction es with
  | nil => rfl
  | cons e es ih =>
    rw [List.all_cons, Bool.and_eq_true, Bool.not_eq_true'] at h
    rw [star_of h.1]
    show (false || (backTo pos (starEach es env)).any (·.1)) = false
    rw [ih h.2]; rfl
theorem few_one {e : Expr} {env : PySem.Env} {pos : Pos} (h : isStar e = false) :
    ((backTo pos (starEach [e] env)).all (fun x => !x.1) && (backToKw pos (keywordEach [] env)).all (fun x => x.1.isSome) && decide ([e].length + ([] : List Keyword).length + (if ([] : List Keyword).isEmpty then 0 else 1) < 30)) = true := by
  rw [star_of h]; rfl
theorem few_two {e f : Expr} {env : PySem.Env} {pos : Pos} (h : isStar e = false) (h' : isStar f = false) :
    ((backTo pos (starEach [e, f] env)).all (fun x => !x.1) && (backToKw pos (keywordEach [] env)).all (fun x => x.1.isSome) && decide (([e, f] : List Expr).length + ([] : List Keyword).length + (if ([] : List Keyword).isEmpty then 0 else 1) < 30)) = true := by
  rw [star_of h, star_of h']; rfl
theorem fold_of {e : Expr} (h : isSet e = false) (env : PySem.Env) : ∀ x, foldedSetIterable e env x = pure x := by
  intro x
  cases e <;> first | rfl | simp [isSet] at h
theorem slice_of {e : Expr} (h : isSlice e = false) : PlainIx e := by
  intro o i
  cases e <;> first | rfl | simp [isSlice] at h
theorem asg_sub_of {o i : Expr} {pos : Pos} {env : PySem.Env} (h : isSlice i = false) : ∀ v, assign (.Subscript o i pos) env v = (do
      let ov ← holding [v] (eval o env)
      let iv ← holding [v, ov] (eval i env)
      standAt pos
      holding [v, ov, iv] (setItem ov iv v)
      release [v, ov, iv] []) := by
  intro v
  cases i <;> first | rfl | simp [isSlice] at h
theorem truth_of {e : Expr} {env : PySem.Env} (h : plainT e = true) : ∀ whole, isTrue e env whole = (do let v ← whole; standAt e.pos; holding [v] (truthy v)) := by
  intro w
  cases e <;> first | rfl | (simp [plainT] at h; done) | skip
  rename_i op a p
  cases op <;> first | rfl | simp [plainT] at h
theorem each_of {e : Expr} (h : isStar e = false) (es : List Expr) (env : PySem.Env) : assignEach (e :: es) env = (false, assign e env) :: assignEach es env := by
  cases e <;> first | rfl | simp [isStar] at h
theorem eachs_of {env : PySem.Env} : ∀ {es : List Expr}, es.all (!isStar ·) = true → (assignEach es env).length = es.length ∧ (assignEach es env).findIdx? (·.1) = none
  | [], _ => ⟨rfl, rfl⟩
  | e :: es, h => by
    rw [List.all_cons, Bool.and_eq_true, Bool.not_eq_true'] at h
    obtain ⟨h1, h2⟩ := eachs_of (env := env) h.2
    rw [each_of h.1]
    refine ⟨by rw [List.length_cons, h1, List.length_cons], ?_⟩
    rw [List.findIdx?_cons, h2]; rfl
end
end DD

set_option Elab.async false
set_option linter.all false
set_option maxRecDepth 100000
set_option maxHeartbeats 1000000
namespace DD
open PySem PySem.Spec PyProof.Rows L2
section
variable {X : Cx} {G : Glb} {io : List Nat} {P : List (Nat × V)} {W : WX} {c : CC}
theorem Ctx.blk (C : Ctx X G io P W) (s : Shared) (H : Hp) (scope : Scope) (ce : PySem.Env) (fp : List Addr) : Ctx (X.blk s H scope ce fp) G io P NoW :=
  ⟨C.nd, C.un, takes_no, C.blt, C.cst, C.sub, C.pins, C.gd⟩
theorem CCok.blk (k : CCok X G c) (hc : c.calm = true) (s : Shared) (H : Hp) (scope : Scope) (cl : List (Str × Addr)) (Ca : Addr) (fp : List Addr) : CCok (X.blk s H scope (compEnvC scope cl Ca X.env) fp) G (c.blk scope) :=
  ⟨k.N, by rw [CC.blk, ← k.sc]; rfl, rfl, k.nm, fun f h => by obtain ⟨g, e, F⟩ := k.fns f h; exact ⟨g, e, ⟨F.ex⟩⟩, fun x h => ⟨(k.exs x h).ex⟩, k.calm, (fun z => by rw [CC.blk, hc] at z; cases z), fun h x j d e => ⟨(k.les h x j d e).ex⟩⟩
theorem both {e : Ex} {a : Expr} (h : SE X G io P W e a) (ht : plainT a = true) (hv : evT G io e = truthOf (evE G io e)) : SE X G io P W e a ∧ (isIf a = false → ST X G io P W e a) :=
  ⟨h, fun _ => s_truth h (truth_of ht) hv⟩
theorem ownNm_snd (c : CC) (own : List Nat) : (ownNm c own).map (·.2) = own := by
  unfold ownNm
  rw [List.map_map]
  exact List.map_id _
theorem all_not {α : Type} {p : α → Bool} {l : List α} (h : l.all (!p ·) = true) : ∀ x ∈ l, p x = false := fun x hx => by
  have := List.all_eq_true.mp h x hx
  simpa using this
theorem slots_own {own : List Nat} {ls : List Nat} (h : ls.all (own.contains ·) = true) : ∀ j ∈ ls, j ∈ own := fun j hj => by
  have := List.all_eq_true.mp h j hj
  simpa [List.contains_eq_mem] using this
theorem own_io {own : List Nat} (h : own.all (!io.contains ·) = true) : ∀ j ∈ own, j ∉ io := fun j hj => by
  have := List.all_eq_true.mp h j hj
  simpa [List.contains_eq_mem] using this
theorem blt_gl (C : Ctx X G io P W) (k : CCok X G c) {x : Str} (h : gloB c x = true) (hx : x ∈ bltNames) : L2.Gl X x ∧ X.mg x = none := ⟨(glo_of k h).1, C.blt x hx⟩
theorem s_blt_all (C : Ctx X G io P W) (k : CCok X G c) {f : Blt} {x : Str} {es : Exs} {a : Expr} {as : List Expr} {p pos : Pos} (ho : bltOn c.calm f = true) (hx : bltNm f = x) (hg : gloB c x = true) (ha : SA X G io P W es (a :: as)) (he : isStar a = false) (hs : as.all (!isStar ·) = true) :
    SE X G io P W (.blt f es) (.Call (.Name x p) (a :: as) [] pos) := by
  obtain ⟨g1, g2, g3⟩ := glo_of k hg
  have s1 := star_of he as X.env
  have s2 := stars_of (env := X.env) (pos := pos) hs
  subst hx
  cases f with
  | len => exact s_bltB b_len g1 (C.blt _ (by decide)) boot_len ha g3 g2 s1 s2
  | abs => exact s_bltB b_abs g1 (C.blt _ (by decide)) PyProof.Rows.boot_abs ha g3 g2 s1 s2
  | min => exact s_bltB (b_min (k.calm ho)) g1 (C.blt _ (by decide)) PyProof.Rows.boot_min ha g3 g2 s1 s2
  | max => exact s_bltB (b_max (k.calm ho)) g1 (C.blt _ (by decide)) PyProof.Rows.boot_max ha g3 g2 s1 s2
  | sum => exact s_bltB (b_sum (k.calm ho)) g1 (C.blt _ (by decide)) PyProof.Rows.boot_sum ha g3 g2 s1 s2
  | all => exact s_bltB (b_all (k.calm ho)) g1 (C.blt _ (by decide)) PyProof.Rows.boot_all ha g3 g2 s1 s2
  | any => exact s_bltB (b_any (k.calm ho)) g1 (C.blt _ (by decide)) PyProof.Rows.boot_any ha g3 g2 s1 s2
  | int => exact s_bltT b_int g1 (C.blt _ (by decide)) PyProof.Rows.boot_int ha g3 g2 s1 s2
  | list => exact s_bltT b_list g1 (C.blt _ (by decide)) PyProof.Rows.boot_list ha g3 g2 s1 s2
  | tuple => exact s_bltT b_tuple g1 (C.blt _ (by decide)) PyProof.Rows.boot_tuple ha g3 g2 s1 s2
  | str => cases ho
  | repr => exact s_bltB (b_repr C.gd (by have := C.un; omega)) g1 (C.blt _ (by decide)) PyProof.Rows.boot_repr ha g3 g2 s1 s2
  | bool => exact s_bltT b_bool g1 (C.blt _ (by decide)) PyProof.Rows.boot_bool ha g3 g2 s1 s2
end
def OkE (G : Glb) (io : List Nat) (e : Ex) : Prop := ∀ {X : Cx} {c : CC} {P : List (Nat × V)} {W : WX} {a : Expr}, Ctx X G io P W → CCok X G c → chkE io c e a = true → SE X G io P W e a ∧ (isIf a = false → ST X G io P W e a)
def OkL (G : Glb) (io : List Nat) (es : Exs) : Prop := ∀ {X : Cx} {c : CC} {P : List (Nat × V)} {W : WX} {as : List Expr}, Ctx X G io P W → CCok X G c →
  (chkL io c es as = true → SL X G io P W es as) ∧ (chkA io c es as = true → SA X G io P W es as) ∧ (chkC io c es as = true → SC X G io P W es as) ∧
  (chkB io c es as = true → (∀ pos, SBA X G io P W es as pos) ∧ (∀ pos, SBO X G io P W es as pos) ∧ (∀ pos, SBAT X G io P W es as pos) ∧ ∀ pos, SBOT X G io P W es as pos)
def OkG (G : Glb) (io : List Nat) (t : Tg) : Prop := ∀ {X : Cx} {c : CC} {P : List (Nat × V)} {W : WX} {a : Expr}, Ctx X G io P W → CCok X G c → chkG io c t a = true → SG X G io P W t a
def OkGs (G : Glb) (io : List Nat) (ts : Tgs) : Prop := ∀ {X : Cx} {c : CC} {P : List (Nat × V)} {W : WX} {as : List Expr}, Ctx X G io P W → CCok X G c → as.all (!isStar ·) = true → chkGs io c ts as = true → SGs X G io P W ts as ∧ as.length = ts.len
def OkI (G : Glb) (io : List Nat) (i : It) : Prop := ∀ {X : Cx} {c : CC} {P : List (Nat × V)} {W : WX} {t a : Expr}, Ctx X G io P W → CCok X G c → chkI io c i t a = true → SI X G io P W i t a
theorem chk_name {c : CC} {e : Expr} {p : Str → Bool} (h : (match e with | .Name x _ => p x | _ => false) = true) : ∃ x pos, e = .Name x pos ∧ p x = true := by
  cases e <;> first | exact ⟨_, _, rfl, h⟩ | cases h
section
variable {G : Glb} {io : List Nat}
mutual
theorem okE : ∀ e : Ex, OkE G io e
  | .nop => fun C k h => by simp [chkE] at h
  | .cst d => fun C k h => by
    rename_i X c P W a
    cases a <;> simp only [chkE] at h <;> first | (cases h; done) | skip
    exact both (s_cst h) rfl rfl
  | .var i => fun C k h => by
    rename_i X c P W a
    cases a <;> simp only [chkE] at h <;> first | (cases h; done) | skip
    exact both (s_var k h) rfl rfl
  | .mv i => fun C k h => by
    rename_i X c P W a
    cases a <;> simp only [chkE] at h <;> first | (cases h; done) | skip
    exact both (s_mv k h) rfl rfl
  | .plc i => fun C k h => by
    rename_i X c P W a
    cases a <;> simp only [chkE] at h <;> first | (cases h; done) | skip
    exact both (s_plc k h) rfl rfl
  | .glo g => fun C k h => by
    rename_i X c P W a
    cases a <;> simp only [chkE] at h <;> first | (cases h; done) | skip
    rw [Bool.and_eq_true, decide_eq_true_eq] at h
    exact both (s_glo C k h.1 h.2) rfl rfl
  | .bin o x y => fun C k h => by
    rename_i X c P W a
    cases a <;> simp only [chkE] at h <;> first | (cases h; done) | skip
    simp only [Bool.and_eq_true, decide_eq_true_eq] at h
    obtain ⟨⟨rfl, h1⟩, h2⟩ := h
    exact both (s_bin (okE x C k h1).1 (okE y C k h2).1) rfl rfl
  | .fz x => fun C k h => by
    rename_i X c P W a
    unfold chkE at h
    rw [Bool.and_eq_true] at h
    exact both (s_fz (okE x C k h.2).1) h.1 rfl
  | .neg x => fun C k h => by
    rename_i X c P W a
    unfold chkE at h
    split at h
    · exact both (s_neg (okE x C k h).1) rfl rfl
    · cases h
  | .cmp o x y => fun C k h => by
    rename_i X c P W a
    unfold chkE at h
    split at h
    · simp only [Bool.and_eq_true, decide_eq_true_eq, Bool.not_eq_true'] at h
      obtain ⟨⟨⟨rfl, h0⟩, h1⟩, h2⟩ := h
      exact ⟨s_cmp C (okE x C k h1).1 (okE y C k h2).1 h0, fun _ => s_cmpT C (okE x C k h1).1 (okE y C k h2).1 h0⟩
    · cases h
  | .chn o o' x y z => fun C k h => by
    rename_i X c P W a
    unfold chkE at h
    split at h
    · simp only [Bool.and_eq_true, decide_eq_true_eq, Bool.not_eq_true'] at h
      obtain ⟨⟨⟨⟨⟨rfl, rfl⟩, h0⟩, h1⟩, h2⟩, h3⟩ := h
      exact ⟨s_chn C (okE x C k h1).1 (okE y C k h2).1 (okE z C k h3).1 h0, fun _ => s_chnT C (okE x C k h1).1 (okE y C k h2).1 (okE z C k h3).1 h0⟩
    · cases h
  | .and es => fun C k h => by
    rename_i X c P W a
    unfold chkE at h
    split at h
    · obtain ⟨h1, h2, h3, h4⟩ := (okL es C k).2.2.2 h
      exact ⟨h1 _, fun _ env => (h3 _ env).pt⟩
    · cases h
  | .or es => fun C k h => by
    rename_i X c P W a
    unfold chkE at h
    split at h
    · obtain ⟨h1, h2, h3, h4⟩ := (okL es C k).2.2.2 h
      exact ⟨h2 _, fun _ env => (h4 _ env).pt⟩
    · cases h
  | .not x => fun C k h => by
    rename_i X c P W a
    unfold chkE at h
    split at h
    · rw [Bool.and_eq_true, Bool.not_eq_true'] at h
      obtain ⟨h1, h2⟩ := okE x C k h.2
      exact ⟨s_notV h1, fun _ => s_not (h2 h.1)⟩
    · cases h
  | .ife t x y => fun C k h => by
    rename_i X c P W a
    unfold chkE at h
    split at h
    · simp only [Bool.and_eq_true, Bool.not_eq_true'] at h
      obtain ⟨⟨⟨h0, h1⟩, h2⟩, h3⟩ := h
      exact ⟨s_ife ((okE t C k h1).2 h0) (okE x C k h2).1 (okE y C k h3).1, fun z => by simp [isIf] at z⟩
    · cases h
  | .ix x i => fun C k h => by
    rename_i X c P W a
    unfold chkE at h
    split at h
    · simp only [Bool.and_eq_true, Bool.not_eq_true'] at h
      obtain ⟨⟨h0, h1⟩, h2⟩ := h
      exact both (s_ix (okE x C k h1).1 (okE i C k h2).1 (slice_of h0)) rfl rfl
    · cases h
  | .sl x lo hi => fun C k h => by
    rename_i X c P W a
    unfold chkE at h
    split at h
    · rename_i ea elo ehi p2 pos
      simp only [Bool.and_eq_true] at h
      obtain ⟨⟨h0, h1⟩, h2⟩ := h
      refine both (s_sl (okE x C k h0).1 ?_ ?_) rfl rfl
      · cases elo with
        | none => simp only [] at h1 ⊢; cases lo <;> first | rfl | simp [Ex.isNop] at h1
        | some e => simp only [Bool.and_eq_true, Bool.not_eq_true'] at h1; exact ⟨h1.1, (okE lo C k h1.2).1⟩
      · cases ehi with
        | none => simp only [] at h2 ⊢; cases hi <;> first | rfl | simp [Ex.isNop] at h2
        | some e => simp only [Bool.and_eq_true, Bool.not_eq_true'] at h2; exact ⟨h2.1, (okE hi C k h2.2).1⟩
    · cases h
  | .tup es => fun C k h => by
    rename_i X c P W a
    unfold chkE at h
    split at h
    · exact both (s_tup ((okL es C k).1 h)) rfl rfl
    · cases h
  | .lst es => fun C k h => by
    rename_i X c P W a
    unfold chkE at h
    split at h
    · exact both (s_lst ((okL es C k).1 h)) rfl rfl
    · cases h
  | .blt f es => fun C k h => by
    rename_i X c P W a
    unfold chkE at h
    split at h
    · simp only [Bool.and_eq_true, decide_eq_true_eq, List.all_cons, Bool.not_eq_true'] at h
      obtain ⟨⟨⟨⟨h0, h1⟩, h2⟩, h3, h4⟩, h5⟩ := h
      exact both (s_blt_all C k h0 h1 h2 ((okL es C k).2.1 h5) h3 h4) rfl rfl
    · cases h
  | .lrng es => fun C k h => by
    rename_i X c P W a
    unfold chkE at h
    split at h
    · rename_i l p1 r p2 as p3 p4
      simp only [Bool.and_eq_true, decide_eq_true_eq] at h
      obtain ⟨⟨⟨⟨⟨⟨⟨hc, rfl⟩, rfl⟩, h1⟩, h2⟩, h3⟩, h4⟩, h5⟩ := h
      obtain ⟨g1, m1⟩ := blt_gl C k h1 (by decide)
      obtain ⟨g2, m2⟩ := blt_gl C k h2 (by decide)
      match as, h3, h4, h5 with
      | [a1], h3, _, h5 =>
        rw [List.all_cons, Bool.and_eq_true, Bool.not_eq_true'] at h3
        match es, h5 with
        | .cons x .nil, h5 =>
          simp only [chkA, Bool.and_eq_true] at h5
          exact both (s_lrng1 (k.calm hc) g1 m1 g2 m2 (okE x C k h5.1.2).1 (star_of h3.1 [] _)) rfl rfl
        | .cons x (.cons y r), h5 => simp [chkA] at h5
        | .cons x (.star y r), h5 => simp [chkA] at h5
        | .nil, h5 => simp [chkA] at h5
        | .star _ _, h5 => simp [chkA] at h5
      | [a1, a2], h3, _, h5 =>
        rw [List.all_cons, List.all_cons, Bool.and_eq_true, Bool.and_eq_true, Bool.not_eq_true', Bool.not_eq_true'] at h3
        match es, h5 with
        | .cons x (.cons y .nil), h5 =>
          simp only [chkA, Bool.and_eq_true] at h5
          exact both (s_lrng2 (k.calm hc) g1 m1 g2 m2 (okE x C k h5.1.2).1 (okE y C k h5.2.1.2).1 (star_of h3.1 _ _) (star_of h3.2.1 [] _) (stars_of (by rw [List.all_cons, h3.2.1]; rfl))) rfl rfl
        | .cons x .nil, h5 => simp [chkA] at h5
        | .cons x (.cons y (.cons z r)), h5 => simp [chkA] at h5
        | .cons x (.cons y (.star z r)), h5 => simp [chkA] at h5
        | .cons x (.star y r), h5 => simp [chkA] at h5
        | .nil, h5 => simp [chkA] at h5
        | .star _ _, h5 => simp [chkA] at h5
      | [], _, h4, _ => simp at h4
      | _ :: _ :: _ :: _, _, h4, _ => simp at h4
    · cases h
  | .call f es => fun C k h => by
    rename_i X c P W a
    unfold chkE at h
    split at h
    · simp only [Bool.and_eq_true, decide_eq_true_eq, List.all_cons, Bool.not_eq_true'] at h
      obtain ⟨⟨⟨⟨h0, h1⟩, h2⟩, h3, h4⟩, h5⟩ := h
      exact both (s_call C k h0 h1 h2 ((okL es C k).2.1 h5) (star_of h3 _ _) (stars_of h4)) rfl rfl
    · cases h
  | .lc elt tg it cond own => fun C k h => by
    rename_i X c P W a
    unfold chkE at h
    split at h
    · rename_i eE eT eI ifs kk scope pos
      simp only [Bool.and_eq_true, decide_eq_true_eq, Bool.not_eq_true'] at h
      obtain ⟨⟨⟨⟨⟨⟨⟨⟨⟨hc, rfl⟩, h1⟩, h2⟩, h3⟩, h4⟩, h5⟩, h6⟩, h7⟩, h8⟩ := h
      have hs : ∀ j ∈ tg.slots, j ∈ (ownNm c own).map (·.2) := by rw [ownNm_snd]; exact slots_own h2
      have hp : ∀ j ∈ (ownNm c own).map (·.2), j ∉ io := by rw [ownNm_snd]; exact own_io h3
      have z := s_lc (pos := pos) C (k.calm hc) hs hp (okI it C k h5) (blkOk_by (by rw [k.N, k.sc]; exact h1))
        ⟨fun s H Ca cl fp => okG tg (C.blk s H scope _ fp) (k.blk hc s H scope cl Ca fp) h6, fun s H Ca cl fp => (okL cond (C.blk s H scope _ fp) (k.blk hc s H scope cl Ca fp)).2.2.1 h7, fun s H Ca cl fp => (okE elt (C.blk s H scope _ fp) (k.blk hc s H scope cl Ca fp) h8).1⟩ (fold_of h4 _)
      rw [ownNm_snd] at z
      exact both z rfl rfl
    · cases h
  | .app i x => fun C k h => by
    rename_i X c P W a
    unfold chkE at h
    split at h
    · simp only [Bool.and_eq_true, decide_eq_true_eq, Bool.not_eq_true'] at h
      obtain ⟨⟨⟨⟨rfl, h1⟩, h2⟩, h3⟩, h4⟩ := h
      exact both (s_app k h1 (okE x C k h4).1 h2 (star_of h3 [] _) (few_one h3)) rfl rfl
    · cases h
  | .fidx t x y => fun C k h => by
    rename_i X c P W a
    unfold chkE at h
    split at h
    · simp only [Bool.and_eq_true, decide_eq_true_eq, Bool.not_eq_true'] at h
      obtain ⟨⟨⟨⟨⟨rfl, h1⟩, h2⟩, h3⟩, h4⟩, h5⟩ := h
      cases t with
      | true => exact both (s_fidxT (okE x C k h4).1 (okE y C k h5).1 (star_of h3 [] _) h2 (few_one h3) (plain_base h1)) rfl rfl
      | false => exact both (s_fidxL (okE x C k h4).1 (okE y C k h5).1 (star_of h3 [] _) h2 (few_one h3) (plain_base h1)) rfl rfl
    · cases h
  | .pop i => fun C k h => by
    rename_i X c P W a
    unfold chkE at h
    split at h
    · simp only [Bool.and_eq_true, decide_eq_true_eq] at h
      obtain ⟨⟨rfl, h1⟩, h2⟩ := h
      exact both (s_pop k h1 h2) rfl rfl
    · cases h
  | .op1 o x => fun C k h => by
    rename_i X c P W a
    unfold chkE at h
    split at h
    · exact both (s_rev (okE x C k h).1) rfl rfl
    · simp only [Bool.and_eq_true, decide_eq_true_eq, Bool.not_eq_true'] at h
      obtain ⟨⟨⟨⟨⟨⟨hc, e1⟩, e2⟩, h1⟩, h2⟩, h3⟩, h4⟩ := h
      exact both (s_sset C k hc e1 e2 h1 h2 (okE x C k h4).1 (star_of h3 [] _)) rfl rfl
    · cases h
  | .sidx z x => fun C k h => by
    rename_i X c P W a
    unfold chkE at h
    split at h
    · simp only [Bool.and_eq_true, decide_eq_true_eq, Bool.not_eq_true'] at h
      obtain ⟨⟨⟨⟨rfl, rfl⟩, h1⟩, h2⟩, h3⟩ := h
      exact both (s_sidx (okE x C k h3).1 (star_of h2 [] _) h1) rfl rfl
    · cases h
  | .dget kvs x y => fun C k h => by
    rename_i X c P W a
    unfold chkE at h
    split at h
    · simp only [Bool.and_eq_true, decide_eq_true_eq, Bool.not_eq_true', List.isEmpty_eq_false_iff] at h
      obtain ⟨⟨⟨⟨⟨⟨⟨⟨rfl, h1⟩, h2⟩, h3⟩, h4⟩, h5⟩, h6⟩, h7⟩, h8⟩ := h
      exact both (s_dget C k h1 h2 h3 (okE x C k h7).1 (okE y C k h8).1 ⟨rfl, few_two h5 h6, h4, by rw [star_of h5, star_of h6]; rfl⟩) rfl rfl
    · cases h
  | .callAt fs i es => fun C k h => by
    rename_i X c P W a
    unfold chkE at h
    split at h
    · simp only [Bool.and_eq_true, decide_eq_true_eq, Bool.not_eq_true', List.all_cons] at h
      obtain ⟨⟨⟨⟨⟨h1, h2⟩, h3⟩, h4, h5⟩, h6⟩, h7⟩ := h
      exact both (s_callAt C k h1 h2 (okE i C k h6).1 (slice_of h3) ((okL es C k).2.1 h7) (star_of h4 _ _) (stars_of h5)) rfl rfl
    · cases h
  | .ext i x => fun C k h => by
    rename_i X c P W a
    unfold chkE at h
    split at h
    · simp only [Bool.and_eq_true, decide_eq_true_eq, Bool.not_eq_true'] at h
      obtain ⟨⟨⟨⟨rfl, h1⟩, h2⟩, h3⟩, h4⟩ := h
      exact both (s_ext k h1 (okE x C k h4).1 h2 (star_of h3 [] _) (few_one h3)) rfl rfl
    · cases h
theorem okL : ∀ es : Exs, OkL G io es
  | .nil => fun C k => by
    rename_i X c P W as
    refine ⟨fun h => ?_, fun h => ?_, fun h => ?_, fun h => by simp [chkB] at h⟩
    · cases as with
      | nil => exact s_Lnil
      | cons a as => simp [chkL] at h
    · cases as with
      | nil => exact s_Anil
      | cons a as => simp [chkA] at h
    · cases as with
      | nil => exact s_c0
      | cons a as => simp [chkC] at h
  | .cons e r => fun C k => by
    rename_i X c P W as
    refine ⟨fun h => ?_, fun h => ?_, fun h => ?_, fun h => ?_⟩
    · cases as with
      | nil => simp [chkL] at h
      | cons a as =>
        simp only [chkL, Bool.and_eq_true, Bool.not_eq_true'] at h
        exact s_Lcons (okE e C k h.1.2).1 ((okL r C k).1 h.2) (star_of h.1.1 _ _)
    · cases as with
      | nil => simp [chkA] at h
      | cons a as =>
        simp only [chkA, Bool.and_eq_true, Bool.not_eq_true'] at h
        exact s_Acons (okE e C k h.1.2).1 ((okL r C k).2.1 h.2) (star_of h.1.1 _ _)
    · unfold chkC at h
      split at h
      · simp only [Bool.and_eq_true, Bool.not_eq_true'] at h
        obtain ⟨⟨h1, h2⟩, h3⟩ := h
        have hr : r = .nil := by cases r <;> first | rfl | simp [Exs.isNil] at h1
        subst hr
        exact s_c1 ((okE e C k h3).2 h2)
      · cases h
    · cases as with
      | nil => simp [chkB] at h
      | cons a as =>
        cases as with
        | nil =>
          simp only [chkB, Bool.and_eq_true, Bool.not_eq_true'] at h
          obtain ⟨⟨h1, h2⟩, h3⟩ := h
          have hr : r = .nil := by cases r <;> first | rfl | simp [Exs.isNil] at h3
          subst hr
          obtain ⟨q1, q2⟩ := okE e C k h2
          exact ⟨fun pos => s_and1 q1, fun pos => s_or1 q1, fun pos => s_andT1 (q2 h1), fun pos => s_orT1 (q2 h1)⟩
        | cons b as =>
          simp only [chkB, Bool.and_eq_true, Bool.not_eq_true'] at h
          obtain ⟨⟨h1, h2⟩, h3, h4⟩ := h
          obtain ⟨q1, q2⟩ := okE e C k h2
          obtain ⟨r1, r2, r3, r4⟩ := (okL r C k).2.2.2 h4
          cases r with
          | nil => simp [Exs.isNil] at h3
          | star _ _ => simp [chkB] at h4
          | cons b' r' => exact ⟨fun pos => s_andC q1 (r1 pos), fun pos => s_orC q1 (r2 pos), fun pos => s_andTC (q2 h1) (r3 pos), fun pos => s_orTC (q2 h1) (r4 pos)⟩
  | .star e r => fun C k => by
    rename_i X c P W as
    refine ⟨fun h => ?_, fun h => by simp [chkA] at h, fun h => by simp [chkC] at h, fun h => by simp [chkB] at h⟩
    unfold chkL at h
    split at h
    · simp only [Bool.and_eq_true] at h
      exact s_Lstar (okE e C k h.1).1 ((okL r C k).1 h.2)
    · cases h
theorem okG : ∀ t : Tg, OkG G io t
  | .nm i => fun C k h => by
    rename_i X c P W a
    unfold chkG at h
    split at h
    · exact s_gnm C k h
    · cases h
  | .tup ts => fun C k h => by
    rename_i X c P W a
    unfold chkG at h
    split at h
    · simp only [Bool.and_eq_true] at h
      obtain ⟨z, hl⟩ := okGs ts C k h.1.2 h.2
      exact s_gtup (k.calm h.1.1) z (by rw [(eachs_of h.1.2).1, hl]) (eachs_of h.1.2).2
    · cases h
  | .sub i x => fun C k h => by
    rename_i X c P W a
    unfold chkG at h
    split at h
    · simp only [Bool.and_eq_true, Bool.not_eq_true'] at h
      obtain ⟨⟨h1, h2⟩, h3⟩ := h
      exact s_gsub k h1 (okE x C k h3).1 (asg_sub_of h2)
    · cases h
theorem okGs : ∀ ts : Tgs, OkGs G io ts
  | .nil => fun C k hs h => by
    rename_i X c P W as
    cases as with
    | nil => exact ⟨s_gnil, rfl⟩
    | cons a as => simp [chkGs] at h
  | .cons t r => fun C k hs h => by
    rename_i X c P W as
    cases as with
    | nil => simp [chkGs] at h
    | cons a as =>
      rw [List.all_cons, Bool.and_eq_true, Bool.not_eq_true'] at hs
      simp only [chkGs, Bool.and_eq_true] at h
      obtain ⟨z, hl⟩ := okGs r C k hs.2 h.2
      exact ⟨s_gcons (okG t C k h.1) z (by rw [each_of hs.1]; rfl), by rw [List.length_cons, hl]; rfl⟩
theorem okI : ∀ i : It, OkI G io i
  | .val e => fun C k h => s_ival (okE e C k h).1
  | .rng es => fun C k h => by
    rename_i X c P W t a
    unfold chkI at h
    split at h
    · rename_i r p2 as p4
      simp only [Bool.and_eq_true, decide_eq_true_eq] at h
      obtain ⟨⟨⟨⟨rfl, h1⟩, h3⟩, h4⟩, h5⟩ := h
      obtain ⟨g1, m1⟩ := blt_gl C k h1 (by decide)
      have hA := (okL es C k).2.1 h5
      match as, h3, h4, h5, hA with
      | [a1], h3, _, h5, hA =>
        rw [List.all_cons, Bool.and_eq_true, Bool.not_eq_true'] at h3
        match es, h5, hA with
        | .cons x .nil, h5, hA => exact s_irng1 g1 m1 hA (star_of h3.1 [] _)
        | .cons x (.cons y r), h5, _ => simp [chkA] at h5
        | .cons x (.star y r), h5, _ => simp [chkA] at h5
        | .nil, h5, _ => simp [chkA] at h5
        | .star _ _, h5, _ => simp [chkA] at h5
      | [a1, a2], h3, _, h5, hA =>
        rw [List.all_cons, List.all_cons, Bool.and_eq_true, Bool.and_eq_true, Bool.not_eq_true', Bool.not_eq_true'] at h3
        match es, h5, hA with
        | .cons x (.cons y .nil), h5, hA => exact s_irng2 g1 m1 hA (by rw [star_of h3.1, star_of h3.2.1]; rfl) (star_of h3.2.1 [] _)
        | .cons x .nil, h5, _ => simp [chkA] at h5
        | .cons x (.cons y (.cons z r)), h5, _ => simp [chkA] at h5
        | .cons x (.cons y (.star z r)), h5, _ => simp [chkA] at h5
        | .cons x (.star y r), h5, _ => simp [chkA] at h5
        | .nil, h5, _ => simp [chkA] at h5
        | .star _ _, h5, _ => simp [chkA] at h5
      | [a1, a2, a3], h3, _, h5, hA =>
        rw [List.all_cons, List.all_cons, List.all_cons, Bool.and_eq_true, Bool.and_eq_true, Bool.and_eq_true, Bool.not_eq_true', Bool.not_eq_true', Bool.not_eq_true'] at h3
        match es, h5, hA with
        | .cons x (.cons y (.cons z .nil)), h5, hA => exact s_irng3 g1 m1 hA (star_of h3.1 _ _) (stars_of (by rw [List.all_cons, List.all_cons, h3.2.1, h3.2.2.1]; rfl))
        | .cons x .nil, h5, _ => simp [chkA] at h5
        | .cons x (.cons y .nil), h5, _ => simp [chkA] at h5
        | .cons x (.cons y (.cons z (.cons u r))), h5, _ => simp [chkA] at h5
        | .cons x (.cons y (.cons z (.star u r))), h5, _ => simp [chkA] at h5
        | .cons x (.cons y (.star z r)), h5, _ => simp [chkA] at h5
        | .cons x (.star y r), h5, _ => simp [chkA] at h5
        | .nil, h5, _ => simp [chkA] at h5
        | .star _ _, h5, _ => simp [chkA] at h5
      | [], _, h4, _, _ => simp at h4
      | _ :: _ :: _ :: _ :: _, _, h4, _, _ => simp at h4
    · cases h
  | .enum e => fun C k h => by
    rename_i X c P W t a
    unfold chkI at h
    split at h
    · simp only [Bool.and_eq_true, decide_eq_true_eq, Bool.not_eq_true'] at h
      obtain ⟨⟨⟨rfl, h1⟩, h2⟩, h3⟩ := h
      obtain ⟨g1, m1⟩ := blt_gl C k h1 (by decide)
      exact s_ienum g1 m1 (okE e C k h3).1 (star_of h2 [] _)
    · cases h
  | .zip a b => fun C k h => by
    rename_i X c P W t e
    unfold chkI at h
    split at h
    · simp only [Bool.and_eq_true, decide_eq_true_eq, Bool.not_eq_true'] at h
      obtain ⟨⟨⟨⟨⟨rfl, h1⟩, h2⟩, h3⟩, h4⟩, h5⟩ := h
      obtain ⟨g1, m1⟩ := blt_gl C k h1 (by decide)
      exact s_izip g1 m1 (okE a C k h4).1 (okE b C k h5).1 (star_of h2 _ _) (star_of h3 [] _) (stars_of (by rw [List.all_cons, h3]; rfl))
    · cases h
end
end
end DD

set_option Elab.async false
set_option linter.all false
set_option maxRecDepth 100000
set_option maxHeartbeats 1000000
namespace DD
open PySem PySem.Spec PyProof.Rows L2
/-! ### statements: the checker -/
def isNm : Expr → Bool
  | .Name _ _ => true
  | _ => false
/-- a comprehension's value goes straight into the name -/
def swCond (c : CC) (t : Str) (p : Pos) (scope : Scope) (vpos : Pos) : Bool := c.sc.names.lookup t == some .local && p.line == vpos.line && !(scope.names.any fun (n, k) => n == t && (k == .local || k == .cell))
def swB (c : CC) (tg v : Expr) : Bool := match tg, v with
  | .Name t p, .ListComp _ _ s vp => swCond c t p s vp
  | .Name t p, .SetComp _ _ s vp => swCond c t p s vp
  | .Name t p, .DictComp _ _ _ s vp => swCond c t p s vp
  | _, _ => false
/-- the stores are not swapped -/
def swNone (tg v : Expr) : Bool := match tg, v with
  | .Tuple ts _ _, .Tuple vs _ _ => vs.all (foldedForSure 8) || ts.any (!isNm ·) || ts.length != vs.length
  | .List _ _, _ => false
  | _, _ => true
def swPar (c : CC) (x y : Str) (px py : Pos) (ea eb : Expr) : Bool :=
  c.sc.names.lookup x == some .local && c.sc.names.lookup y == some .local && px.line == py.line && x != y && !isStar ea && !isStar eb && !([ea, eb].all (foldedForSure 8)) && !([ea, eb].all (constantsAlone 8))
def isDoc : Ex → Bool
  | .cst _ => true
  | _ => false
def fnK (c : CC) : Bool := match c.sc.kind with
  | .function => true
  | _ => false
/-- a written constant -/
def cstE : D → Expr → Bool
  | .non, .Constant .none _ _ => true
  | .bl b, .Constant (.bool b') _ _ => decide (b = b')
  | .int i, .Constant (.int i') _ _ => decide (i = i')
  | .str z, .Constant (.str z') _ _ => decide (z = z') && PyData.strOk z
  | _, _ => false
def chkHs (io : List Nat) (c : CC) : List (Nat × Option Nat × D) → List ExceptHandler → Bool
  | [], [] => true
  | (x, some i, d) :: r, .ExceptHandler (some (.Name y _)) none [.Assign [.Name n _] e _] _ :: hs => decide (c.nm x = y) && c.ex x && gloB c y && decide (c.N[i]? = some n) && decide (c.sc.names.lookup n = some .local) && !io.contains i && cstE d e && chkHs io c r hs
  | (x, none, d) :: r, .ExceptHandler (some (.Name y _)) none [.Return (some e) _] _ :: hs => decide (c.nm x = y) && c.ex x && gloB c y && cstE d e && chkHs io c r hs
  | _, _ => false
mutual
def chkS (io : List Nat) (c : CC) : Stm → Stmt → Bool
  | .expr e, s => (match s with | .Expr (.Constant (.str _) _ _) _ => isDoc e | .Expr ea _ => !isComp ea && chkE io c e ea | _ => false)
  | .asg t e, s => (match s with
    | .Assign [tg] ea _ => fnK c && (match t, e, tg, ea with
      | .nm i, .lc elt tg2 it cond own, .Name y py, .ListComp eE [⟨eT, eI, ifs, k⟩] scope vp =>
        if swCond c y py scope vp then storeB c i y && chkE io c (.lc elt tg2 it cond own) (.ListComp eE [⟨eT, eI, ifs, k⟩] scope vp)
        else chkG io c (.nm i) (.Name y py) && chkE io c (.lc elt tg2 it cond own) (.ListComp eE [⟨eT, eI, ifs, k⟩] scope vp)
      | .tup (.cons (.nm i) (.cons (.nm j) .nil)), .tup (.cons a (.cons b .nil)), .Tuple [.Name x px, .Name y py] k1 p1, .Tuple [ea, eb] k2 p2 =>
        if swPar c x y px py ea eb then c.calm && decide (c.N[i]? = some x) && decide (c.N[j]? = some y) && decide (i ≠ j) && chkL io c (.cons a (.cons b .nil)) [ea, eb]
        else swNone (.Tuple [.Name x px, .Name y py] k1 p1) (.Tuple [ea, eb] k2 p2) && chkG io c (.tup (.cons (.nm i) (.cons (.nm j) .nil))) (.Tuple [.Name x px, .Name y py] k1 p1) && chkE io c (.tup (.cons a (.cons b .nil))) (.Tuple [ea, eb] k2 p2)
      | t, e, tg, ea => !isStar tg && !swB c tg ea && swNone tg ea && chkG io c t tg && chkE io c e ea)
    | _ => false)
  | .aug i o e, s => (match s with | .AugAssign (.Name x _) op ea _ => (decide (o = .add ∧ op = .Add) || decide (o = .sub ∧ op = .Sub)) && storeB c i x && chkE io c e ea | _ => false)
  | .ret e, s => (match s with | .Return (some ea) _ => chkE io c e ea | _ => false)
  | .retN, s => (match s with | .Return none _ => true | _ => false)
  | .ife t a b, s => (match s with | .If et sa sb _ => !isIf et && chkE io c t et && chkSs io c a sa && chkSs io c b sb | _ => false)
  | .whl t b, s => (match s with | .While et sb [] _ => !isIf et && chkE io c t et && chkSs io c b sb | _ => false)
  | .for_ t it b, s => (match s with | .For et ei sb [] _ => c.calm && !isSet ei && chkI io c it et ei && chkG io c t et && chkSs io c b sb | _ => false)
  | .brk, s => (match s with | .Break _ => true | _ => false)
  | .cnt, s => (match s with | .Continue _ => true | _ => false)
  | .pss, s => (match s with | .Pass _ => true | _ => false)
  | .tryC b hd, s => (match s with | .Try body (h₀ :: hs) [] [] _ => c.calm && chkSs io c b body && chkHs io c hd (h₀ :: hs) | _ => false)
  | .raise e, s => (match s with | .Raise (some (.Call (.Name x _) [.Constant (.str _) _ _] [] _)) none _ => c.calm && decide (c.nm e = x) && c.ex e && gloB c x | _ => false)
  | .tryL b x i, s => (match s with
    | .Try body [.ExceptHandler (some (.Name y _)) (some n) [.Return (some (.Call (.Name l _) [.Name n2 _] [] _)) _] _] [] [] _ =>
      c.calm && c.leOn && c.ex x && decide (c.nm x = y) && gloB c y && decide (c.N[i]? = some n) && decide (n2 = n) && decide (c.sc.names.lookup n = some .local) && decide (l = "_law_error") && gloB c l && visB c.sc n && !(n == ("__debug__" : Str)) && !(n == ("__classdict__" : Str)) && chkSs io c b body
    | _ => false)
def chkSs (io : List Nat) (c : CC) : Stms → List Stmt → Bool
  | .nil, ss => ss.isEmpty
  | .fgt _ r, ss => chkSs io c r ss
  | .cons s r, ss => (match ss with
    | a :: as => chkS io c s a && chkSs io c r as
    | [] => false)
end
section
variable {X : Cx} {G : Glb} {io : List Nat} {P : List (Nat × V)} {W : WX} {c : CC}
theorem comp_none {e : Expr} {t : Option Expr} {l : Nat} {env : PySem.Env} (h : isComp e = false) : swapsWith e t l env = pure false := by
  cases e <;> first | rfl | simp [isComp] at h
theorem fnK_of (k : CCok X G c) (h : fnK c = true) : X.env.blockKind = .function := by
  unfold fnK at h
  split at h
  · rename_i e
    unfold PySem.Env.blockKind
    rw [k.sc, e]; rfl
  · cases h
theorem sw_lc (k : CCok X G c) (h : fnK c = true) {eE : Expr} {gs : List Comprehension} {scope : Scope} {vp py : Pos} {y : Str} {l : Nat} : swapsWith (.ListComp eE gs scope vp) (some (.Name y py)) l X.env = pure (swCond c y py scope vp) := by
  show pure (X.env.blockKind == .function && X.env.kindOf y == some .local && py.line == vp.line && !(scope.names.any fun (n, k) => n == y && (k == .local || k == .cell))) = _
  rw [fnK_of k h]
  unfold PySem.Env.kindOf swCond
  rw [k.sc]
  rfl
theorem swB_of (k : CCok X G c) (h : fnK c = true) {tg v : Expr} {l : Nat} (hb : swB c tg v = false) : swapsWithSole [tg] v l X.env = pure false := by
  show swapsWith v (some tg) l X.env = pure false
  by_cases hc : isComp v = true
  · cases v <;> first | (simp [isComp] at hc; done) | skip
    all_goals
      cases tg <;> first | rfl | skip
      unfold swB at hb
      show pure (X.env.blockKind == .function && X.env.kindOf _ == some .local && _ && _) = _
      rw [fnK_of k h]
      unfold PySem.Env.kindOf
      rw [k.sc]
      unfold swCond at hb
      rw [← hb]
      rfl
  · exact comp_none (by simpa using hc)
theorem swNone_of {tg v : Expr} {env : PySem.Env} (h : swNone tg v = true) : swappedStores [tg] v env = pure none := by
  cases tg <;> first | (simp [swNone] at h; done) | rfl | skip
  cases v <;> first | rfl | skip
  rename_i ts k1 p1 vs k2 p2
  unfold swNone at h
  simp only [] at h
  unfold swappedStores
  simp only [pure_bind]
  rw [Bool.or_eq_true, Bool.or_eq_true] at h
  split
  · rfl
  · rename_i c1
    split
    · rfl
    · rename_i c2
      split
      · rfl
      · rename_i c3
        rcases h with (h | h) | h
        · rw [if_pos h]
        · exfalso
          simp only [Bool.or_eq_true, not_or] at c3
          obtain ⟨t, ht, hn⟩ := List.any_eq_true.mp h
          have q := c3.1
          simp at q
          refine q t ht ?_
          cases t <;> first | rfl | simp [isNm] at hn
        · exfalso
          simp only [Bool.or_eq_true, not_or, bne_iff_ne, ne_eq] at c1 h
          exact c1.1.2 (fun e => h e.symm)
theorem swPar_of (k : CCok X G c) (h : fnK c = true) {x y : Str} {px py pt pt2 : Pos} {kt k2 : Nat} {ea eb : Expr} (hp : swPar c x y px py ea eb = true) :
    swappedStores [.Tuple [.Name x px, .Name y py] kt pt] (.Tuple [ea, eb] k2 pt2) X.env = pure (some [x, y]) := by
  unfold swPar at hp
  simp only [Bool.and_eq_true, Bool.not_eq_true', beq_iff_eq, bne_iff_ne, ne_eq] at hp
  obtain ⟨⟨⟨⟨⟨⟨⟨hx, hy⟩, hl⟩, hne⟩, ha⟩, hb⟩, hf⟩, hc⟩ := hp
  have kx : X.env.kindOf x = some .local := by unfold PySem.Env.kindOf; rw [k.sc]; exact hx
  have ky : X.env.kindOf y = some .local := by unfold PySem.Env.kindOf; rw [k.sc]; exact hy
  have hne' : (y == x) = false := by simpa using fun e : y = x => hne e.symm
  unfold swappedStores
  simp only [pure_bind]
  rw [fnK_of k h]
  split
  · rename_i c1
    simp at c1
  · split
    · rename_i c2
      exfalso
      obtain ⟨z, hz, hs⟩ := List.any_eq_true.mp c2
      rcases List.mem_cons.mp hz with e | hz
      · subst e
        cases z <;> first | (simp at hs; done) | (simp [isStar] at ha; done)
      · have e := List.mem_singleton.mp hz
        subst e
        cases z <;> first | (simp at hs; done) | (simp [isStar] at hb; done)
    · split
      · rename_i c3
        exfalso
        simp [kx, ky, Expr.pos, hl, List.eraseDups, List.eraseDupsBy, List.eraseDupsBy.loop, hne'] at c3
      · rw [if_neg (by rw [hf]; exact Bool.false_ne_true), if_neg (by rw [hc]; exact Bool.false_ne_true)]
        simp [kx, ky, Expr.pos, hl]
end
end DD

set_option Elab.async false
set_option linter.all false
set_option maxRecDepth 100000
set_option maxHeartbeats 2000000
namespace DD
open PySem PySem.Spec PyProof.Rows L2
section
variable {X : Cx} {G : Glb} {io : List Nat} {P : List (Nat × V)} {W : WX} {c : CC}
/-- what the suite does: it gives the law's word -/
def tsL (X : Cx) (i : Nat) (a : Addr) (cls : Value) (d : Option Addr) : TS := fun D0 σ H => ∃ (Dc f : Addr) (z : Str) (fd : FuncData) (kk : Nat) (F : Hp), cls = .ref Dc ∧ d = none ∧ σ[i]? = some (some (.ref a)) ∧ X.mg "_law_error" = some (.ref f) ∧ PySem.W.keepIn X.K (.ref f) = true ∧ Binds X.K fd ["e"] [] ∧ Room kk X.A ∧
  FnE X.prog X.w X.K X.mg X.base kk f fd Dc z ∧ Sub F H ∧ ∀ F' H', Sub F F' → Sub F' H' → Sub H H' → (∀ b, F' b ≠ none → F b ≠ none ∨ H b = none) → D0.rt (.str z) H'
theorem ps_word (gd : X.A.guards = some []) (k : CCok X G c) {i : Nat} {n l : Str} {lp np cp rp : Pos} {a : Addr} {oe : Obj} {cls : Value} {d : Option Addr} {pn : List (Addr × Obj)} (hn : nameB c i n = true) (hl : l = "_law_error") (hg : gloB c l = true) (hz : L2N.Zn cls d oe) (hf : ∃ vs, oe.data = .fields vs) :
    PSs (X.suite a ((a, oe) :: pn)) [.Return (some (.Call (.Name l lp) [.Name n np] [] cp)) rp] (tsL X i a cls d) := by
  have hn2 := hn
  simp only [nameB, Bool.and_eq_true, decide_eq_true_eq, Bool.not_eq_true'] at hn2
  obtain ⟨g1, g2, g3⟩ := glo_of k hg
  refine pss_one ⟨fun pins s σ H D0 I h => ?_⟩
  obtain ⟨Dc, f, z, fd, kk, F, rfl, rfl, hs, hm, hk, hb, hr, FE, sF, hq⟩ := h
  subst hl
  have pn1 : PE (X.suite a ((a, oe) :: pn)) (.Name n np) (tVar i) := pe_var (by show X.N[i]? = _; rw [k.N]; exact hn2.1.1.1) (by show Vis X.env.scope n; rw [k.sc]; exact vis_of hn2.1.1.2) hn2.1.2 hn2.2
  have call : PE (X.suite a ((a, oe) :: pn)) (.Call (.Name "_law_error" lp) [.Name n np] [] cp) (fun σ H Q => σ[i]? = some (some (.ref a)) ∧ Sub F H ∧ ∀ F' H', Sub F F' → Sub F' H' → Sub H H' → (∀ b, F' b ≠ none → F b ≠ none ∨ H b = none) → Q (.str z) H') := by
    refine ⟨fun pins s σ H Q I ⟨e1, sF, hq⟩ => ?_⟩
    refine wpAny_Call_Name_kw (ld_glob I (show L2.Gl (X.suite a ((a, oe) :: pn)) "_law_error" from g1) hm ?_ g2)
    refine PySem.W.callWith_K (h₀ := X.base) I.ok.mod.kin hk (thn ((pa_cons pn1 pa_nil rfl).run cp pins s σ H (fun vs H1 => vs = [.ref a] ∧ H1 = H) I ⟨.ref a, e1, rfl, rfl⟩) fun us s1 ⟨vs, H1, I1, r, ev, eH⟩ => ⟨I1.kIn, ?_⟩) rfl rfl
    subst ev eH
    have hlen : us.length = [("e" : Str)].length := by rw [← r.length]; rfl
    have bt := hb s1 us I1.kIn (by rw [List.append_nil]; exact hlen)
    rw [List.append_nil] at bt
    obtain ⟨p1, p2, p3, p4, p5⟩ := I1.pin (a, oe) (List.mem_append_left _ List.mem_cons_self)
    have hpin : L2H.PinOk X.stack H1 s1 (a, oe) := ⟨p1, p2, fun hm' => (List.mem_cons.mp (I1.stkSub a hm')).elim p3 p4, p5⟩
    have hot : L2H.Hot1 (X.A.mark (some (.ref a))) (a, oe) := ⟨rfl, by
      obtain ⟨vs, hv⟩ := hf
      exact ⟨vs, hv, hz.2.2 vs hv⟩⟩
    refine wpAny_call (codeAny_mono (FE.run (X.A.mark (some (.ref a))) X.stack s1 H1 F ⟨us, []⟩ us (a, oe) Q (fun _ _ _ => False) ⟨hr.dp, hr.un⟩ gd hot hpin ⟨hz.1, hz.2.1⟩ hf I1.env0 bt r sF hq) fun r s' hq => ?_)
    cases r with
    | error e =>
      obtain ⟨_, _, _, _, _, _, _, _, _, _, _, _, w⟩ := hq
      exact w.elim
    | ok fl =>
      cases fl with
      | ret u => exact I1.after hq
      | next => exact False.elim hq
      | brk => exact False.elim hq
      | cont => exact False.elim hq
  exact (ps_ret call).run pins s σ H D0 I ⟨hs, sF, hq⟩
theorem s_try (C : Ctx X G io P W) (k : CCok X G c) (SX : SCtx X) {b : Stms} {xi i : Nat} {body : List Stmt} {y n : Str} {yp lp np cp rp hp tp : Pos} (hc : c.calm = true) (hlo : c.leOn = true) (hex : c.ex xi = true) (h1 : c.nm xi = y) (h2 : gloB c y = true) (h3 : c.N[i]? = some n) (h4 : c.sc.names.lookup n = some .local) (h5 : gloB c "_law_error" = true)
    (h6 : visB c.sc n = true) (h7 : (n == ("__debug__" : Str)) = false) (h8 : (n == ("__classdict__" : Str)) = false)
    (hb : ∀ (W : WX) (pn : List (Addr × Obj)) (xe : Value → Shared → Prop), L2N.Takes (X.tr pn xe) W → PassesOwn (model X.prog X.w) X.A X.env xe → SSs (X.tr pn xe) G io P W b body) :
    SS X G io P W (.tryL b xi i) (.Try body [.ExceptHandler (some (.Name y yp)) (some n) [.Return (some (.Call (.Name "_law_error" lp) [.Name n np] [] cp)) rp] hp] [] [] tp) := fun env => by
  obtain ⟨g1, g2, g3⟩ := glo_of k h2
  have hn : nameB c i n = true := by
    simp only [nameB, Bool.and_eq_true, decide_eq_true_eq, Bool.not_eq_true']
    exact ⟨⟨⟨h3, h6⟩, h7⟩, h8⟩
  by_cases hmg : ∃ Ca, X.mg y = some (.ref Ca)
  · obtain ⟨Ca, hmg⟩ := hmg
    have rule := L2N.ps_try_as (np := yp) (pos := tp) (pos' := hp) (b₀ := .Return (some (.Call (.Name "_law_error" lp) [.Name n np] [] cp)) rp) (suite := []) (ts := tsL X i) (tb := fun W => tS X G P W env (evSs G io b)) SX.stk SX.frm C.nd (by rw [k.N]; exact h3) (show X.env.scope.names.lookup n = _ by rw [k.sc]; exact h4) (⟨g1, g2, .inl hmg⟩ : Names X y (.ref Ca)) C.takes
      (fun W pn xe tk po => hb W pn xe tk po env) (fun a oe cls d pn hz hf => ps_word C.gd k hn rfl h5 hz hf)
    refine ps_imp rule fun D0 σ H ⟨F, S, ok, er, q⟩ => ⟨F, S, ok, er, ?_⟩
    have q' : PostS X G P W D0 F H S (tryTo (G.le xi) i (evSs G io b env)) := q
    show PostS X G P _ D0 F H S (evSs G io b env)
    cases e : evSs G io b env with
    | bad => rw [e] at q'; exact q'
    | ok fl e1 => rw [e] at q'; cases fl <;> exact q'
    | exc kx e1 =>
      rw [e] at q'
      simp only [tryTo] at q'
      by_cases hi : i < e1.length
      · rw [if_pos hi] at q'
        cases ed : G.le xi kx with
        | none => simp only [ed] at q'; exact q'.elim
        | some d =>
          simp only [ed] at q'
          obtain ⟨Cx2, Dc, f, z, fd, kk, rfl, hz, m1, m2, hx, m3, m4, m5, m6, m7⟩ := (k.les hlo xi kx d ed).ex
          rw [k.nm, h1, hmg] at m1
          cases m1
          intro σ' F' H' S' cls ok' st' er' hm
          rw [m2] at hm
          cases hm
          refine ⟨true, hx, fun _ a na => ?_, fun z => by cases z⟩
          refine ⟨Dc, f, z, fd, kk, F', rfl, rfl, List.getElem?_set_self (by rw [← er'.len]; exact hi), m3, m4, m5, m6, m7, ok'.sub, fun F2 H2 f1 f2 f3 f4 => ?_⟩
          show D0.rt (.str z) H2
          have st2 : Step F' H' S' F2 H2 S' := ⟨f1, fun b o _ e => f3 b o e, fun b z => by
            cases e : H' b with
            | none => exact (z e).elim
            | some o => rw [f3 b o e]; simp, fun b z => (f4 b z).imp id .inr, fun b z => .inl z⟩
          have ok2 : Ok F2 H2 S' := ⟨f2, fun b y => by
            cases e : F2 b with
            | none => rfl
            | some o => exact ((f4 b (by rw [e]; simp)).elim (fun w => w (ok'.off b y)) fun w => ok'.al b y w).elim, fun b y => st2.all b (ok'.al b y)⟩
          exact q' (.str z) σ' F2 H2 S' No (ok2.mono fun b y => y.elim id False.elim) (fun _ _ z => z) ((st'.trans0 st2).weak fun b y => y.elim id False.elim) (er'.keep f1 (fun _ z => z) fun b o _ e => f3 b o e) ⟨rfl, hz⟩
      · rw [if_neg hi] at q'
        exact q'.elim
  · obtain ⟨Ca, _, _, _, _, _, _, gC, _⟩ := (k.exs xi hex).ex
    rw [k.nm, h1] at gC
    exact (hmg ⟨Ca, gC⟩).elim
end
end DD

set_option Elab.async false
set_option linter.all false
set_option maxRecDepth 100000
set_option maxHeartbeats 2000000
namespace DD
open PySem PySem.Spec PyProof.Rows L2
/-! ### try: ... except X: a name is given a constant, or a constant is returned -/
theorem cst_pe {d : D} {e : Expr} (h : cstE d e = true) : ∃ v : V, (∀ X : Cx, PE X e (tC v)) ∧ (∀ K F H, Rep K F H d v No) ∧ noPlc d = true ∧ isComp e = false := by
  unfold cstE at h
  split at h
  · exact ⟨.non, fun X => pe_non, fun _ _ _ => rfl, rfl, rfl⟩
  · rw [decide_eq_true_eq] at h; subst h; exact ⟨.bl _, fun X => pe_bl, fun _ _ _ => rfl, rfl, rfl⟩
  · rw [decide_eq_true_eq] at h; subst h; exact ⟨.int _, fun X => pe_int, fun _ _ _ => rfl, rfl, rfl⟩
  · rw [Bool.and_eq_true, decide_eq_true_eq] at h; obtain ⟨rfl, h2⟩ := h; exact ⟨.str _, fun X => pe_str, fun _ _ _ => ⟨rfl, h2⟩, rfl, rfl⟩
  · cases h
section
variable {X : Cx} {G : Glb} {io : List Nat} {P : List (Nat × V)} {W : WX} {c : CC}
theorem hds_ok (C : Ctx X G io P W) (k : CCok X G c) : ∀ {hd : List (Nat × Option Nat × D)} {hs : List ExceptHandler}, chkHs io c hd hs = true → ∃ l, L2N.HdsOk X hs l ∧
    ∀ {D0 : Ends} {kx : Nat} {e1 : Env} {F0 H0 : Hp} {S0 : AS}, PostS X G P W D0 F0 H0 S0 (tryH G.sub kx e1 hd) → ∀ σ' F' H' S' cls, Ok F' H' S' → Step F0 H0 S0 F' H' S' → EnvR X.K F' H' P e1 σ' S' → X.mg (G.nm kx) = some cls → wMany X.K W D0 l cls none σ' H'
  | [], [], _ => ⟨[], .nil, fun h σ' F' H' S' cls ok st er hm => h σ' F' H' S' cls ok st er hm⟩
  | (x, some i, d) :: r, [], h => by simp [chkHs] at h
  | (x, none, d) :: r, [], h => by simp [chkHs] at h
  | [], h1 :: hs, h => by simp [chkHs] at h
  | (x, some i, d) :: r, h1 :: hs, h => by
    unfold chkHs at h
    split at h
    · rename_i q _; cases q
    · rename_i x2 i2 d2 r2 y yp n np e ap hp hs2 q1 q2
      cases q1
      cases q2
      simp only [Bool.and_eq_true, decide_eq_true_eq, Bool.not_eq_true'] at h
      obtain ⟨⟨⟨⟨⟨⟨⟨hn, hx⟩, hg⟩, hN⟩, hl⟩, hio⟩, hc⟩, hr⟩ := h
      obtain ⟨l, H1, H2⟩ := hds_ok C k hr
      obtain ⟨Ca, _, _, _, _, _, _, gC, _⟩ := (k.exs x hx).ex
      rw [k.nm, hn] at gC
      obtain ⟨g1, g2, g3⟩ := glo_of k hg
      obtain ⟨v, pe, rp, np0, nc⟩ := cst_pe hc
      refine ⟨(.ref Ca, fun _ _ _ => fun D σ H => D.nx (σ.set i (some v)) H) :: l, .cons (⟨g1, g2, .inl gC⟩ : Names X y (.ref Ca)) (fun a oe cls d' pn _ _ => ?_) H1, fun {D0 kx e1 F0 H0 S0} h σ' F' H' S' cls ok st er hm => ?_⟩
      · exact pss_one (ps_imp (ps_set (X := X.suite a ((a, oe) :: pn)) C.nd (by show X.N[i]? = _; rw [k.N]; exact hN) (by show Loc X.env.scope n; rw [k.sc]; exact .inl hl) (pe _) (comp_none nc) (.inr (by show X.env.scope.names.lookup n = _; rw [k.sc]; exact hl))) fun D0 σ H q => q)
      · unfold tryH at h
        cases hs : G.sub kx x with
        | none => simp only [hs] at h; exact h.elim
        | some b =>
          obtain ⟨Ck, Cx, m1, m2, m3⟩ := C.sub kx x b hs
          rw [hm] at m1
          cases m1
          rw [k.nm, hn, gC] at m2
          cases m2
          refine ⟨b, m3, fun hb a na => ?_, fun hb => ?_⟩
          · subst hb
            simp only [hs] at h
            split at h
            · rename_i hi
              have hp : ∀ p ∈ P, p.1 ≠ i := fun p hp e => by
                have := C.pins p hp
                rw [e] at this
                rw [List.contains_eq_mem, decide_eq_false_iff_not] at hio
                exact hio this
              have er2 := er.put (T := No) hi hp (rp X.K F' H') (fun _ _ z => z)
              exact h (σ'.set i (some v)) F' H' S' ok st (er2.keep .refl (fun a z => z.elim id False.elim) fun _ _ _ e => e)
            · exact h.elim
          · subst hb
            simp only [hs] at h
            exact H2 h σ' F' H' S' _ ok st er hm
    · first | (rename_i q _; cases q) | (rename_i q; cases q) | simp_all
    · cases h
  | (x, none, d) :: r, h1 :: hs, h => by
    unfold chkHs at h
    split at h
    · rename_i q _; cases q
    · first | (rename_i q _; cases q) | (rename_i q; cases q) | simp_all
    · rename_i x2 d2 r2 y yp e rp' hp hs2 q1 q2
      cases q1
      cases q2
      simp only [Bool.and_eq_true, decide_eq_true_eq] at h
      obtain ⟨⟨⟨⟨hn, hx⟩, hg⟩, hc⟩, hr⟩ := h
      obtain ⟨l, H1, H2⟩ := hds_ok C k hr
      obtain ⟨Ca, _, _, _, _, _, _, gC, _⟩ := (k.exs x hx).ex
      rw [k.nm, hn] at gC
      obtain ⟨g1, g2, g3⟩ := glo_of k hg
      obtain ⟨v, pe, rp, np0, nc⟩ := cst_pe hc
      refine ⟨(.ref Ca, fun _ _ _ => fun D σ H => D.rt v H) :: l, .cons (⟨g1, g2, .inl gC⟩ : Names X y (.ref Ca)) (fun a oe cls d' pn _ _ => ?_) H1, fun {D0 kx e1 F0 H0 S0} h σ' F' H' S' cls ok st er hm => ?_⟩
      · exact pss_one (ps_imp (ps_ret (pe (X.suite a ((a, oe) :: pn)))) fun D0 σ H q => q)
      · unfold tryH at h
        cases hs : G.sub kx x with
        | none => simp only [hs] at h; exact h.elim
        | some b =>
          obtain ⟨Ck, Cx, m1, m2, m3⟩ := C.sub kx x b hs
          rw [hm] at m1
          cases m1
          rw [k.nm, hn, gC] at m2
          cases m2
          refine ⟨b, m3, fun hb a na => ?_, fun hb => ?_⟩
          · subst hb
            simp only [hs] at h
            exact h v σ' F' H' S' No (ok.mono fun a z => z.elim id False.elim) (fun _ _ z => z) (st.weak fun a z => z.elim id False.elim) er (rp X.K F' H')
          · subst hb
            simp only [hs] at h
            exact H2 h σ' F' H' S' _ ok st er hm
    · cases h
theorem s_tryC (C : Ctx X G io P W) (k : CCok X G c) (SX : SCtx X) {b : Stms} {body : List Stmt} {hd : List (Nat × Option Nat × D)} {h₀ : ExceptHandler} {hs : List ExceptHandler} {tp : Pos} (hc : chkHs io c hd (h₀ :: hs) = true)
    (hb : ∀ (W : WX) (pn : List (Addr × Obj)) (xe : Value → Shared → Prop), L2N.Takes (X.tr pn xe) W → PassesOwn (model X.prog X.w) X.A X.env xe → SSs (X.tr pn xe) G io P W b body) :
    SS X G io P W (.tryC b hd) (.Try body (h₀ :: hs) [] [] tp) := fun env => by
  obtain ⟨l, H1, H2⟩ := hds_ok C k hc
  refine ps_imp (L2N.ps_try_many (tb := fun W => tS X G P W env (evSs G io b)) SX.stk SX.frm C.takes (fun W pn xe tk po => hb W pn xe tk po env) H1) fun D0 σ H ⟨F, S, ok, er, q⟩ => ⟨F, S, ok, er, ?_⟩
  have q' : PostS X G P W D0 F H S (tryK G.sub hd (evSs G io b env)) := q
  show PostS X G P _ D0 F H S (evSs G io b env)
  cases e : evSs G io b env with
  | bad => rw [e] at q'; exact q'
  | ok fl e1 => rw [e] at q'; cases fl <;> exact q'
  | exc kx e1 =>
    rw [e] at q'
    exact fun σ' F' H' S' cls ok' st' er' hm => H2 q' σ' F' H' S' cls ok' st' er' hm
end
end DD

set_option Elab.async false
set_option linter.all false
set_option maxRecDepth 100000
set_option maxHeartbeats 1000000
namespace DD
open PySem PySem.Spec PyProof.Rows L2
theorem one_of {e : Expr} {env : PySem.Env} (h : isStar e = false) : (assignEach [e] env).map (·.2) = [assign e env] := by
  rw [each_of h]; rfl
theorem sw_sole {X : Cx} {G : Glb} {c : CC} (k : CCok X G c) (h : fnK c = true) {eE : Expr} {gs : List Comprehension} {scope : Scope} {vp py : Pos} {y : Str} {l : Nat} (hs : swCond c y py scope vp = false) : swapsWithSole [.Name y py] (.ListComp eE gs scope vp) l X.env = pure false := by
  show swapsWith (.ListComp eE gs scope vp) (some (.Name y py)) l X.env = pure false
  rw [sw_lc k h, hs]
def OkS (G : Glb) (io : List Nat) (s : Stm) : Prop := ∀ {X : Cx} {c : CC} {P : List (Nat × V)} {W : WX} {a : Stmt}, Ctx X G io P W → SCtx X → CCok X G c → chkS io c s a = true → SS X G io P W s a
def OkSs (G : Glb) (io : List Nat) (s : Stms) : Prop := ∀ {X : Cx} {c : CC} {P : List (Nat × V)} {W : WX} {a : List Stmt}, Ctx X G io P W → SCtx X → CCok X G c → chkSs io c s a = true → SSs X G io P W s a
section
variable {G : Glb} {io : List Nat}
theorem ok_asg (t : Tg) (e : Ex) : OkS G io (.asg t e) := fun C SX k h => by
  rename_i X c P W a
  unfold chkS at h
  split at h
  · rename_i tg ea pos
    rw [Bool.and_eq_true] at h
    obtain ⟨hk, h⟩ := h
    split at h
    · rename_i i elt tg2 it cond own y py eE eT eI ifs kk scope vp
      split at h
      · rename_i hsw
        rw [Bool.and_eq_true] at h
        obtain ⟨h0, h⟩ := h
        simp only [chkE, Bool.and_eq_true, decide_eq_true_eq, Bool.not_eq_true'] at h
        obtain ⟨⟨⟨⟨⟨⟨⟨⟨⟨hc, rfl⟩, h1⟩, h2⟩, h3⟩, h4⟩, h5⟩, h6⟩, h7⟩, h8⟩ := h
        have hs : ∀ j ∈ tg2.slots, j ∈ (ownNm c own).map (·.2) := by rw [ownNm_snd]; exact slots_own h2
        have hp : ∀ j ∈ (ownNm c own).map (·.2), j ∉ io := by rw [ownNm_snd]; exact own_io h3
        simp only [storeB, Bool.and_eq_true, decide_eq_true_eq] at h0
        have hl : c.sc.names.lookup y = some .local := by
          have := hsw
          unfold swCond at this
          simp only [Bool.and_eq_true, beq_iff_eq] at this
          exact this.1.1
        have z := s_setLc (i := i) (spos := pos) C (k.calm hc) k h0.1.1 hl (by rw [sw_lc k hk, hsw]) hs hp (okI it C k h5) (blkOk_by (by rw [k.N, k.sc]; exact h1))
          ⟨fun s H Ca cl fp => okG tg2 (C.blk s H scope _ fp) (k.blk hc s H scope cl Ca fp) h6, fun s H Ca cl fp => (okL cond (C.blk s H scope _ fp) (k.blk hc s H scope cl Ca fp)).2.2.1 h7, fun s H Ca cl fp => (okE elt (C.blk s H scope _ fp) (k.blk hc s H scope cl Ca fp) h8).1⟩ (fold_of h4 _)
        rw [ownNm_snd] at z
        exact z
      · rename_i hsw
        rw [Bool.and_eq_true] at h
        refine s_asg (okE _ C k h.2).1 (okG _ C k h.1) ?_ rfl rfl
        rw [Bool.not_eq_true] at hsw
        exact sw_sole k hk hsw
    · rename_i i j a b x px y py k1 p1 ea eb k2 p2
      split at h
      · rename_i hsw
        simp only [Bool.and_eq_true, decide_eq_true_eq] at h
        obtain ⟨⟨⟨⟨hc, h1⟩, h2⟩, h3⟩, h4⟩ := h
        have hl := hsw
        unfold swPar at hl
        simp only [Bool.and_eq_true, beq_iff_eq] at hl
        exact s_par C (k.calm hc) k h1 h2 h3 hl.1.1.1.1.1.1.1 hl.1.1.1.1.1.1.2 ((okL _ C k).1 h4) (swPar_of k hk hsw)
      · simp only [Bool.and_eq_true] at h
        exact s_asg (okE _ C k h.2).1 (okG _ C k h.1.2) rfl (swNone_of h.1.1) rfl
    · simp only [Bool.and_eq_true, Bool.not_eq_true'] at h
      obtain ⟨⟨⟨⟨h1, h2⟩, h3⟩, h4⟩, h5⟩ := h
      exact s_asg (okE _ C k h5).1 (okG _ C k h4) (swB_of k hk h2) (swNone_of h3) (one_of h1)
  · cases h
mutual
theorem okS : ∀ s : Stm, OkS G io s
  | .expr e => fun C SX k h => by
    rename_i X c P W a
    unfold chkS at h
    split at h
    · cases e <;> first | (simp [isDoc] at h; done) | skip
      exact s_doc rfl
    · simp only [Bool.and_eq_true, Bool.not_eq_true'] at h
      exact s_expr (okE e C k h.2).1 (comp_none h.1)
    · cases h
  | .asg t e => ok_asg t e
  | .aug i o e => fun C SX k h => by
    rename_i X c P W a
    unfold chkS at h
    split at h
    · simp only [Bool.and_eq_true, Bool.or_eq_true, decide_eq_true_eq] at h
      exact s_aug C k h.1.1 h.1.2 (okE e C k h.2).1
    · cases h
  | .ret e => fun C SX k h => by
    rename_i X c P W a
    unfold chkS at h
    split at h
    · exact s_ret (okE e C k h).1
    · cases h
  | .retN => fun C SX k h => by
    rename_i X c P W a
    unfold chkS at h
    split at h
    · exact s_retN
    · cases h
  | .ife t a b => fun C SX k h => by
    rename_i X c P W ast
    unfold chkS at h
    split at h
    · simp only [Bool.and_eq_true, Bool.not_eq_true'] at h
      obtain ⟨⟨⟨h0, h1⟩, h2⟩, h3⟩ := h
      exact s_if ((okE t C k h1).2 h0) (okSs a C SX k h2) (okSs b C SX k h3)
    · cases h
  | .whl t b => fun C SX k h => by
    rename_i X c P W ast
    unfold chkS at h
    split at h
    · simp only [Bool.and_eq_true, Bool.not_eq_true'] at h
      obtain ⟨⟨h0, h1⟩, h2⟩ := h
      exact s_whl SX ((okE t C k h1).2 h0) (okSs b C SX k h2)
    · cases h
  | .for_ t it b => fun C SX k h => by
    rename_i X c P W ast
    unfold chkS at h
    split at h
    · simp only [Bool.and_eq_true, Bool.not_eq_true'] at h
      obtain ⟨⟨⟨⟨hc, h0⟩, h1⟩, h2⟩, h3⟩ := h
      exact s_for C (k.calm hc) SX (okI it C k h1) (okG t C k h2) (okSs b C SX k h3) (fold_of h0 _)
    · cases h
  | .brk => fun C SX k h => by
    rename_i X c P W a
    unfold chkS at h
    split at h
    · exact s_brk
    · cases h
  | .cnt => fun C SX k h => by
    rename_i X c P W a
    unfold chkS at h
    split at h
    · exact s_cnt
    · cases h
  | .pss => fun C SX k h => by
    rename_i X c P W a
    unfold chkS at h
    split at h
    · exact s_pss
    · cases h
  | .raise e => fun C SX k h => by
    rename_i X c P W a
    unfold chkS at h
    split at h
    · simp only [Bool.and_eq_true, decide_eq_true_eq] at h
      exact s_raise C (k.calm h.1.1.1) k h.1.1.2 h.1.2 h.2
    · cases h
  | .tryL b x i => fun C SX k h => by
    rename_i X c P W a
    unfold chkS at h
    split at h
    · rename_i body y yp n l lp n2 np2 cp rp hp tp
      simp only [Bool.and_eq_true, decide_eq_true_eq, Bool.not_eq_true'] at h
      obtain ⟨⟨⟨⟨⟨⟨⟨⟨⟨⟨⟨⟨⟨hc, hlo⟩, hx⟩, h1⟩, h2⟩, h3⟩, rfl⟩, h4⟩, rfl⟩, h5⟩, h6⟩, h7⟩, h8⟩, h9⟩ := h
      refine s_try C k SX hc hlo hx h1 h2 h3 h4 h5 h6 h7 h8 fun W pn xe tk po => ?_
      exact okSs b ⟨C.nd, C.un, tk, C.blt, C.cst, C.sub, C.pins, C.gd⟩ ⟨po, SX.stk, SX.frm⟩ ⟨k.N, k.sc, k.fn, k.nm, fun f h => by obtain ⟨g, e, F⟩ := k.fns f h; exact ⟨g, e, ⟨F.ex⟩⟩, fun x h => ⟨(k.exs x h).ex⟩, k.calm, (fun z => by rw [hc] at z; cases z), fun h x j d e => ⟨(k.les h x j d e).ex⟩⟩ h9
    · cases h
  | .tryC b hd => fun C SX k h => by
    rename_i X c P W a
    unfold chkS at h
    split at h
    · rename_i body h₀ hs tp
      simp only [Bool.and_eq_true] at h
      obtain ⟨⟨hc, h1⟩, h2⟩ := h
      refine s_tryC C k SX h2 fun W pn xe tk po => ?_
      exact okSs b ⟨C.nd, C.un, tk, C.blt, C.cst, C.sub, C.pins, C.gd⟩ ⟨po, SX.stk, SX.frm⟩ ⟨k.N, k.sc, k.fn, k.nm, fun f h => by obtain ⟨g, e, F⟩ := k.fns f h; exact ⟨g, e, ⟨F.ex⟩⟩, fun x h => ⟨(k.exs x h).ex⟩, k.calm, (fun z => by rw [hc] at z; cases z), fun h x j d e => ⟨(k.les h x j d e).ex⟩⟩ h1
    · cases h
theorem okSs : ∀ s : Stms, OkSs G io s
  | .nil => fun C SX k h => by
    rename_i X c P W a
    cases a with
    | nil => exact s_nil
    | cons a as => simp [chkSs] at h
  | .fgt own r => fun C SX k h => by
    rename_i X c P W a
    rw [chkSs] at h
    exact s_fgt (okSs r C SX k h)
  | .cons s r => fun C SX k h => by
    rename_i X c P W a
    cases a with
    | nil => simp [chkSs] at h
    | cons a as =>
      simp only [chkSs, Bool.and_eq_true] at h
      exact s_cons (okS s C SX k h.1) (okSs r C SX k h.2)
end
end
section
variable {P : Program} {w : World} {K : PySem.W.Frag} {mg : Str → Option Value} {base : Heap} {G : Glb} {x qual : Str} {params : Arguments} {body : List Stmt} {scope : Scope} {f : Addr} {fd : FuncData} {N ps : List Str} {io : List Nat} {k : Nat}
/-- a def by its checked term, told by what it does -/
theorem fn_chk {stms : Stms} {df ex : Nat → Bool} {lo : Bool} {g : List D → FR} {fi : Nat} (hf : ∀ f, df f = true → ∃ g, G.fn f = some g ∧ FnM P w K mg base G f g k) (he : ∀ x, ex x = true → ExM K mg G x) (hle : lo = true → ∀ x j d, G.le x j = some d → LeM P w K mg base G x j d k) (F : FunD K x qual params body scope [] [] f fd) (S : FnScope N ps scope) (M : ModX K mg G)
    (hio : G.io fi = io) (hc : chkSs io ⟨N, scope, fun _ => true, G.nm, df, ex, true, lo⟩ stms body = true) (hg : ∀ ds, g ds ≠ .bad → runDef G io stms N.length ps.length ds = g ds)
    (hm : mg (G.nm fi) = some (.ref f)) (hb : Binds K fd ps []) : FnM P w K mg base G fi g (k + 1) := by
  have z := fn_sound (io := io) (stms := stms) rfl F S M hf he hle fun X P W C SX k => okSs stms C SX k hc
  refine ⟨f, fd, ps, k + 1, Nat.le_refl _, hm, F.kp, hb, ?_, fun ds hd => ?_⟩
  · rw [hio]
    exact fnG_imp z fun vs H Q E => spF_mirror hg
  · have e := hg ds hd
    unfold runDef at e
    by_cases hl : ds.length = ps.length
    · exact hl
    · rw [if_neg hl] at e
      exact (hd e.symm).elim
end
end DD

set_option Elab.async false
set_option linter.all false
set_option maxRecDepth 100000
set_option maxHeartbeats 2000000
namespace DD
open PySem PySem.Spec PyProof.Rows L2
/-! ### a comprehension within an except suite -/
/-- its block, the handled error still held -/
abbrev blkH (X : Cx) (s : Shared) (H : Hp) (sc : Scope) (ce : PySem.Env) (fp : List Addr) : Cx := (X.blk s H sc ce fp).tr X.pn (fun _ _ => False)
theorem hot_blk {X : Cx} (hc : L2H.HotC X) {s : Shared} {H : Hp} {sc : Scope} {ce : PySem.Env} {fp : List Addr} : L2H.HotC (blkH X s H sc ce fp) := by
  obtain ⟨p, h1, h2⟩ := hc
  exact ⟨p, h1, h2⟩
section
variable {X : Cx}
/-- from the block's own start to blkH -/
theorem blk_hot {pins : List (Addr × Obj)} {σ σ' : L2.St} {H : Hp} {s s' : Shared} {sc : Scope} {ce : PySem.Env} {fp : List Addr} (I : Inv X pins σ H s) (J : Inv (X.blk s H sc ce fp) [] σ' H s') (hl : ce.locals = s.heap.objs.size) (kp : ∀ b o, s.heap.get? b = some o → s'.heap.get? b = some o) :
    Inv (blkH X s H sc ce fp) [] σ' H s' := by
  refine ⟨J.ok.toTry X.pn _, J.os, J.bare, J.base, J.loc, J.cell, J.free, J.freeC, fun q hq => ?_, J.hok, J.len⟩
  have hq' : q ∈ X.pn := by simpa using hq
  obtain ⟨a1, a2, a3, a4, a5⟩ := I.pin q (List.mem_append_left _ hq')
  refine ⟨kp _ _ a1, a2, ?_, fun hm => ?_, a5⟩
  · show q.1 ≠ ce.locals
    rw [hl]
    exact Nat.ne_of_lt (Heap.lt_size a1)
  · rcases List.mem_cons.mp (I.stkSub q.1 hm) with z | z
    · exact a3 z
    · exact a4 z
theorem lcH_core {pins : List (Addr × Obj)} {σ : L2.St} {H : Hp} {Q : VK} {s : Shared} {elt tg iter : Expr} {ifs : List Expr} {sc : Scope} {own : List (Str × Nat)} {pos pos' : Pos} {wi : TI} {g : TG} {tt : TT} {te : TE} {use : Option (Value → Sem Unit)} {Qf : Value → Shared → Prop}
    (hc : L2H.HotC X) (nd : X.N.Nodup) (I : Inv X pins σ H s) (hi : L2H.PIH X tg iter wi) (bo : BlkOk X.N X.env.scope sc own)
    (pg : ∀ (s : Shared) (H : Hp) (Ca : Addr) (cl : List (Str × Addr)) (fp : List Addr), PG (blkH X s H sc (compEnvC sc cl Ca X.env) fp) tg g)
    (pt : ∀ (s : Shared) (H : Hp) (Ca : Addr) (cl : List (Str × Addr)) (fp : List Addr), PTs (blkH X s H sc (compEnvC sc cl Ca X.env) fp) ifs tt)
    (pe : ∀ (s : Shared) (H : Hp) (Ca : Addr) (cl : List (Str × Addr)) (fp : List Addr), PE (blkH X s H sc (compEnvC sc cl Ca X.env) fp) elt te)
    (nf : ∀ x, foldedSetIterable iter X.env x = pure x) (h : tLc wi g tt te (own.map (·.2)) σ H Q)
    (hRR : ∀ L0 Ca s' m H', Inv X pins σ H' s' → Q (.ref L0) H' → s'.heap.Ns Ca m → FpOk X pins H' Ca → compPost (model X.prog X.w) X.A X.xe use Qf (.ref L0) Ca (.ok .next) s') :
    wpAny (model X.prog X.w) X.A (comprehension (.ListComp elt [⟨tg, iter, ifs, 0⟩] sc pos) sc X.env pos' (newList []) false (eval iter X.env) use) Qf X.xe s := by
  have caught : ∀ y ∈ sc.names, y.2 = .free → ∃ c, X.env.cells.lookup y.1 = some c := fun y hy e => I.ok.has _ (bo.free y hy e)
  refine wpAny_comprehension_free (use := use) rfl nf (closure_ok caught) bo.kind (fun y hy e => by rw [bo.uniq y hy, e]) (thn (hi.run pins s σ H _ I h) fun xv s1 hx => thn hx fun itv s2 h2 => ?_)
  obtain ⟨it, fp, tn, J, G2, e, I2, T, st2, f2, q⟩ := h2
  subst e
  refine wpAny_newObj_type (newEnv_comp ?_) (by show 0 ≤ sizeLine; decide)
  obtain ⟨L0, hL0⟩ : ∃ a, a = s2.heap.objs.size := ⟨_, rfl⟩
  rw [← hL0]
  have nL0 : G2 L0 = none := I2.hok.fresh (Nat.le_of_eq hL0.symm)
  obtain ⟨Wv, ⟨m0, w0⟩, turn⟩ := q L0 nL0
  obtain ⟨s3, es3⟩ : ∃ z : Shared, z = { s2 with heap := s2.heap.push { cls := .type "list", data := .seq ([] : List Value).toArray } } := ⟨_, rfl⟩
  rw [← es3]
  have h3 : s3.heap = s2.heap.push { cls := .type "list", data := .seq ([] : List Value).toArray } := by rw [es3]
  obtain ⟨G3, eG3⟩ : ∃ z, z = upd G2 L0 (.lst []) := ⟨_, rfl⟩
  rw [← eG3] at w0
  have I3 : Inv X pins σ G3 s3 := by
    rw [es3, eG3]
    refine I2.laid (t' := s2.toks) (fun b o e => Heap.get?_push_of_some _ e) (Nat.le_of_eq hL0.symm) ⟨Nat.zero_le _, [], 0, .nil, ?_⟩
    rw [hL0]
    exact Heap.get?_push_size _ rfl
  have ltf : ∀ b ∈ fp, b < s2.heap.objs.size := fun b hb => Heap.lt_size (T.obj _ _ st2 b hb).choose_spec.1
  have f3 : ∀ b ∈ fp, FpOk X pins G3 b ∧ b < s3.heap.objs.size := fun b hb => by
    have l := ltf b hb
    refine ⟨⟨?_, (f2 b hb).2⟩, by rw [h3, Heap.size_push]; exact Nat.lt_succ_of_lt l⟩
    rw [eG3, upd_ne (by rw [hL0]; exact Nat.ne_of_lt l)]
    exact (f2 b hb).1
  have st3 : tn 0 s3.heap := T.keep _ _ _ st2 fun b _ o e => by rw [h3]; exact Heap.get?_push_of_some _ e
  obtain ⟨cl, ecl⟩ : ∃ z, z = cellsFrom (s3.heap.objs.size + 1) sc.names (cloFrom X.env.cells sc.names []) := ⟨_, rfl⟩
  have kp4 : ∀ b o, s3.heap.get? b = some o → (pushCells (s3.heap.push { cls := .type "dict", data := .dict #[] }) sc.names).get? b = some o := fun b o e => pushCells_keeps _ _ _ _ (Heap.get?_push_of_some _ e)
  have I4 := block_start I3 bo nd f3
  rw [← ecl] at I4
  have I5 := blk_hot I3 I4 rfl kp4
  have hb : L2H.HotC (blkH X s3 G3 sc (compEnvC sc cl s3.heap.objs.size X.env) fp) := hot_blk hc
  show codeAny _ _ (.compStart (.ListComp elt [⟨tg, iter, ifs, 0⟩] sc pos) 0 (.ref it) (.ref L0) (compEnvC sc (cellsFrom (s3.heap.objs.size + 1) sc.names (cloFrom X.env.cells sc.names [])) s3.heap.objs.size X.env)) _ { s3 with heap := pushCells (s3.heap.push { cls := .type "dict", data := .dict #[] }) sc.names }
  rw [← ecl]
  have PGx := pg s3 G3 s3.heap.objs.size cl fp
  have PTx := pt s3 G3 s3.heap.objs.size cl fp
  have PEx := pe s3 G3 s3.heap.objs.size cl fp
  obtain ⟨ce, ece⟩ : ∃ z, z = compEnvC sc cl s3.heap.objs.size X.env := ⟨_, rfl⟩
  rw [← ece] at I5 hb PGx PTx PEx
  rw [← ece]
  have cL : ce.locals = s3.heap.objs.size := by rw [ece]; rfl
  obtain ⟨s4, es4⟩ : ∃ z : Shared, z = { s3 with heap := pushCells (s3.heap.push { cls := .type "dict", data := .dict #[] }) sc.names } := ⟨_, rfl⟩
  rw [← es4] at I5
  rw [← es4]
  have st4 : tn 0 s4.heap := T.keep _ _ _ st3 fun b _ o e => by rw [es4]; exact kp4 b o e
  have nfp : ∀ b ∈ fp, G3 b = none := fun b hb => (f3 b hb).1.1
  have notpin : ∀ {b : Addr}, b ∈ fp → ∀ p ∈ X.pn, p.1 ≠ b := fun {b} hb p hp => (f3 b hb).1.2.2.2.2.2 p (List.mem_append_left _ hp)
  have stat : ∀ {σ' : L2.St} {H' : Hp} {s' : Shared}, Inv (blkH X s3 G3 sc ce fp) [] σ' H' s' → (∀ b ∈ fp, H' b = none) → ∀ b ∈ fp, FpOk (blkH X s3 G3 sc ce fp) [] H' b := fun {σ' H' s'} I' hn b hb =>
    ⟨hn b hb, (I'.ok.exf b hb).1, I'.ok.exfs b hb, .inl hb, fun x c e => (I'.ok.exf b hb).2 x c e, fun p hp => notpin hb p (by simpa using hp)⟩
  have loop : codeAny (model X.prog X.w) X.A (.compLoop (.ListComp elt [⟨tg, iter, ifs, 0⟩] sc pos) 0 (.ref it) (.ref L0) ce) (compPost (model X.prog X.w) X.A X.xe use Qf (.ref L0) s3.heap.objs.size) s4 := by
    refine compLoop_any (fun n z => ∃ i H', Inv (blkH X s3 G3 sc ce fp) [] (wipe σ (own.map (·.2))) H' z ∧ tn i z.heap ∧ (∀ b ∈ fp, H' b = none) ∧ Wv i n H') ?_ m0 ⟨0, G3, I5, st4, nfp, w0⟩
    rintro n s5 ⟨i, H5, J5, st5, n5, w5⟩
    rcases turn i n H5 w5 with ⟨stop, qq⟩ | ⟨go, Nx, hNx, step⟩
    · refine thnF (T.done (blkH X s3 G3 sc ce fp) rfl rfl rfl hb i [] s5 _ H5 (fun _ _ => False) J5 (stat J5 n5) st5 stop) fun r s6 ⟨hr, J6⟩ => ?_
      subst hr
      have J7 : Inv X pins σ H5 s6 := I3.call' (ch := fp) J6.os J6.base J6.hok J6.bare fun b hb => ⟨(f3 b hb).1.2.2.2.1, (f3 b hb).1.2.1, (f3 b hb).1.2.2.2.2.1, (f3 b hb).1.2.2.2.2.2⟩
      have nC : H5 s3.heap.objs.size = none := by
        have z : H5 ce.locals = none := J6.free
        rwa [cL] at z
      obtain ⟨m, hm, _⟩ := J6.loc
      have hm' : s6.heap.Ns ce.locals m := hm
      rw [cL] at hm'
      exact hRR L0 _ s6 m H5 J7 qq hm' (I3.fpOk (Nat.le_refl _) nC)
    · refine thnF (T.item (blkH X s3 G3 sc ce fp) rfl rfl rfl hb i [] s5 _ H5 (fun _ _ => False) J5 (stat J5 n5) st5 go) fun r s6 ⟨u, hr, h6⟩ => ?_
      subst hr
      refine thnF h6 fun _ s7 ⟨x, H7, J7, r7, y7, st7, n7⟩ => ?_
      have J8 := J7.pinned (stat J7 n7) (T.obj _ _ st7)
      refine thnF (PGx.run _ s7 _ H7 x u _ J8 r7 (step x H7 y7)) fun _ s8 ⟨σ8, H8, J9, hw, q8⟩ => ?_
      refine thnF (PTx.run _ s8 σ8 H8 _ J9 q8) fun b s9 ⟨H9, K9, q9⟩ => ?_
      have fin : ∀ {z : Shared} {H' : Hp}, Inv (blkH X s3 G3 sc ce fp) ([] ++ pinsAt fp s7.heap) σ8 H' z → Nx H' → ∃ m, m < n ∧ ∃ i H', Inv (blkH X s3 G3 sc ce fp) [] (wipe σ (own.map (·.2))) H' z ∧ tn i z.heap ∧ (∀ b ∈ fp, H' b = none) ∧ Wv i m H' := fun {z H'} J' nx => by
        obtain ⟨m', hm, w'⟩ := hNx H' nx
        have held : ∀ b ∈ fp, ∀ o, s7.heap.get? b = some o → z.heap.get? b = some o ∧ H' b = none := fun b hb o e =>
          let y := J'.pin (b, o) (List.mem_append_right _ (List.mem_append_right _ (mem_pinsAt hb e)))
          ⟨y.1, y.2.1⟩
        refine ⟨m', hm, i + 1, H', (J'.unpinned (pins := [])).weak (by rw [← hw, wipe_length]) (fun j v e => ?_), T.keep _ _ _ st7 fun b hb o e => (held b hb o e).1, fun b hb => ?_, w'⟩
        · rw [← hw] at e
          exact (wipe_some e).1
        · obtain ⟨o, e, _⟩ := T.obj _ _ st7 b hb
          exact (held b hb o e).2
      cases b with
      | false =>
        rw [if_neg Bool.false_ne_true] at q9
        rw [if_neg Bool.false_ne_true]
        exact fin K9 q9
      | true =>
        rw [if_pos rfl] at q9
        rw [if_pos rfl]
        refine thnF (PEx.run _ s9 σ8 H9 _ K9 q9) fun z s10 ⟨yv, H10, J10, r10, acc, hD10, hz10, nx⟩ => ?_
        exact app_ok (X := blkH X s3 G3 sc ce fp) J10 hD10 hz10 r10 fun s11 J11 => fin J11 nx
  exact codeAny_compStart_list loop (T.self X.A 0 _ _ _ st4 loop)
theorem pe_lcH {elt tg iter : Expr} {ifs : List Expr} {sc : Scope} {own : List (Str × Nat)} {pos : Pos} {wi : TI} {g : TG} {tt : TT} {te : TE} (hc : L2H.HotC X) (nd : X.N.Nodup) (hi : L2H.PIH X tg iter wi) (bo : BlkOk X.N X.env.scope sc own)
    (pg : ∀ (s : Shared) (H : Hp) (Ca : Addr) (cl : List (Str × Addr)) (fp : List Addr), PG (blkH X s H sc (compEnvC sc cl Ca X.env) fp) tg g)
    (pt : ∀ (s : Shared) (H : Hp) (Ca : Addr) (cl : List (Str × Addr)) (fp : List Addr), PTs (blkH X s H sc (compEnvC sc cl Ca X.env) fp) ifs tt)
    (pe : ∀ (s : Shared) (H : Hp) (Ca : Addr) (cl : List (Str × Addr)) (fp : List Addr), PE (blkH X s H sc (compEnvC sc cl Ca X.env) fp) elt te)
    (nf : ∀ x, foldedSetIterable iter X.env x = pure x) : PE X (.ListComp elt [⟨tg, iter, ifs, 0⟩] sc pos) (tLc wi g tt te (own.map (·.2))) := by
  refine ⟨fun pins s σ H Q I h => ?_⟩
  rw [eval_ListComp]
  refine lcH_core hc nd I hi bo pg pt pe nf h fun L0 Ca s' m H' J q hn f => ⟨m, hn, fun h2 sb => ?_⟩
  exact ⟨.ref L0, H', J.turned (t' := s'.toks) (fun b o hb e => (sb.2 b hb).trans e) f.1 f.2.1 f.2.2.2.1 f.2.2.2.2.1 f.2.2.2.2.2, rfl, q⟩
end
end DD

set_option Elab.async false
set_option linter.all false
set_option maxRecDepth 100000
set_option maxHeartbeats 2000000
namespace DD
open PySem PySem.Spec PyProof.Rows L2
section
variable {X : Cx} {G : Glb} {io : List Nat} {P : List (Nat × V)} {W : WX} {c : CC}
/-- name = [..] within an except suite -/
theorem ps_setLcH {i : Nat} {y : Str} {py : Pos} {elt tg iter : Expr} {ifs : List Expr} {sc : Scope} {own : List (Str × Nat)} {pos spos : Pos} {wi : TI} {g : TG} {tt : TT} {te : TE} (hc : L2H.HotC X) (nd : X.N.Nodup) (hy : X.N[i]? = some y) (hyl : X.env.scope.names.lookup y = some .local)
    (used : swapsWith (.ListComp elt [⟨tg, iter, ifs, 0⟩] sc pos) (some (.Name y py)) spos.line X.env = pure true) (hi : L2H.PIH X tg iter wi) (bo : BlkOk X.N X.env.scope sc own)
    (pg : ∀ (s : Shared) (H : Hp) (Ca : Addr) (cl : List (Str × Addr)) (fp : List Addr), PG (blkH X s H sc (compEnvC sc cl Ca X.env) fp) tg g)
    (pt : ∀ (s : Shared) (H : Hp) (Ca : Addr) (cl : List (Str × Addr)) (fp : List Addr), PTs (blkH X s H sc (compEnvC sc cl Ca X.env) fp) ifs tt)
    (pe : ∀ (s : Shared) (H : Hp) (Ca : Addr) (cl : List (Str × Addr)) (fp : List Addr), PE (blkH X s H sc (compEnvC sc cl Ca X.env) fp) elt te)
    (nf : ∀ x, foldedSetIterable iter X.env x = pure x) : PS X (.Assign [.Name y py] (.ListComp elt [⟨tg, iter, ifs, 0⟩] sc pos) spos) (tAsg (tLc wi g tt te (own.map (·.2))) (gName i)) := by
  refine ⟨fun pins s σ H D0 I h => ?_⟩
  rw [exec_Assign_Name_used _ _ _ _ used]
  refine wpAny_bind (wpAny_standAt (wpAny_bind ?_))
  show wpAny _ X.A (comprehension (.ListComp elt [⟨tg, iter, ifs, 0⟩] sc pos) sc X.env (firstIterPos [⟨tg, iter, ifs, 0⟩] pos) (newList []) false (eval iter X.env) (some (assign (.Name y py) X.env)) >>= fun _ => pure ()) _ _ s
  have h' : tLc wi g tt te (own.map (·.2)) σ H (fun x H1 => gName i x σ H1 D0.nx) := h
  refine wpAny_bind (thn (lcH_core (Qf := fun _ s' => SP X pins D0 .next s') hc nd I hi bo pg pt pe nf h' fun L0 Ca s' m H' J q hn f => ?_) fun _ s' hq => wpAny_pure (wpAny_pure hq))
  show wpAny _ _ (assign (.Name y py) X.env (.ref L0)) _ _ _
  refine wpAny_assign_Name (store_ok2 (v := V.ref L0) J nd hy (.inl hyl) rfl (fun t2 K2 ⟨a, sb, ha⟩ => ?_) (.inr hyl))
  have ne : Ca ≠ a := ha.elim (fun z => by rw [z]; exact f.2.1) fun z e => f.2.2.2.2.1 y a z e.symm
  exact ⟨m, hn.sameBut sb ne, fun h3 sb3 => ⟨_, H', K2.turned (t' := t2.toks) (fun b o hb e => (sb3.2 b hb).trans e) f.1 f.2.1 f.2.2.2.1 f.2.2.2.2.1 f.2.2.2.2.2, q⟩⟩
/-- range(n) within an except suite -/
theorem s_irng1H {a : Ex} {tg ea : Expr} {p pos : Pos} (hg : L2.Gl X "range") (hm : X.mg "range" = none) (ha : SA X G io P W (.cons a .nil) [ea]) (hs : starEach [ea] X.env = [(false, eval ea X.env)]) (env : Env) :
    L2H.PIH X tg (.Call (.Name "range" p) [ea] [] pos) (tI X G P W env (evI G io (.rng (.cons a .nil)))) := by
  have z := L2H.pi_range1H (tg := tg) (p := p) (pos := pos) hg hm (ha env) hs
  refine ⟨fun pins s σ H Rq I h => z.run pins s σ H Rq I ?_⟩
  have M : Mid X P σ env [] [] H fun F0 H0 S0 => PostI X G P W σ F0 H0 S0 (withL (evA G io (.cons a .nil)) (fun xs env => liftO (rng? xs) env) env) Rq := Mid.ofI h
  refine tL_mono (Mid.nextL (m := evA G io (.cons a .nil)) (post := fun F0 H0 S0 r => PostI X G P W σ F0 H0 S0 r Rq) pstI M) fun vs H1 ⟨ds, env1, e1, M1⟩ => ?_
  rw [List.append_nil] at M1
  rw [List.append_nil] at M1
  cases q1 : resL env1 ds with
  | none => simp only [q1] at M1; exact (M1.no fun F H S z => z).elim
  | some ds' =>
    cases q2 : rng? ds' with
    | none => simp only [q1, q2, liftO] at M1; exact (M1.no fun F H S z => z).elim
    | some xs =>
      simp only [q1, q2, liftO] at M1
      obtain ⟨F0, H0, S0, F, S, a0, b, cc, er, rc⟩ := M1.res q1
      have one : ds'.length = 1 := by
        rw [resL_len q1]
        have hh' : ((evE G io a env).bind fun d env => (R.ok [] env).bind fun ds env => .ok (d :: ds) env) = .ok ds env1 := e1
        cases q : evE G io a env with
        | ok d e2 => rw [q] at hh'; cases hh'; rfl
        | exc => rw [q] at hh'; cases hh'
        | bad => rw [q] at hh'; cases hh'
      match ds', one, q2, rc with
      | [d], _, q2, rc =>
        obtain ⟨j, rfl, b1, b2, rfl⟩ := rng_one q2
        obtain ⟨v, rfl, r⟩ := rcl1 rc
        refine ⟨j, by rw [rc_int r], b1, b2, ?_⟩
        have z := jok_rng (K := X.K) (F := F) 0 j
        rw [Int.sub_zero] at z
        exact a0 _ F H1 S cc b er z
theorem Ctx.blkH (C : Ctx X G io P W) (s : Shared) (H : Hp) (scope : Scope) (ce : PySem.Env) (fp : List Addr) : Ctx (DD.blkH X s H scope ce fp) G io P NoW :=
  ⟨C.nd, C.un, takes_no, C.blt, C.cst, C.sub, C.pins, C.gd⟩
theorem CCok.blkH (k : CCok X G c) (hc : L2H.HotC X) (h0 : c.calm = false) (s : Shared) (H : Hp) (scope : Scope) (cl : List (Str × Addr)) (Ca : Addr) (fp : List Addr) : CCok (DD.blkH X s H scope (compEnvC scope cl Ca X.env) fp) G (c.blk scope) :=
  ⟨k.N, by rw [CC.blk, ← k.sc]; rfl, rfl, k.nm, fun f h => by obtain ⟨g, e, F⟩ := k.fns f h; exact ⟨g, e, ⟨F.ex⟩⟩, fun x h => ⟨(k.exs x h).ex⟩, (fun z => by rw [CC.blk, h0] at z; cases z), (fun _ => hot_blk hc), fun h x j d e => ⟨(k.les h x j d e).ex⟩⟩
/-- name = [elt for n in range(e) if ..] within an except suite, checked -/
def chkLcH (io : List Nat) (c : CC) (i : Nat) (elt : Ex) (j : Nat) (a : Ex) (cond : Exs) (s : Stmt) : Bool := match s with
  | .Assign [.Name y py] (.ListComp eE [⟨eT, .Call (.Name r _) [ea] [] _, ifs, k⟩] scope vp) _ =>
    fnK c && !c.calm && decide (k = 0) && swCond c y py scope vp && storeB c i y && blkC c.N c.sc scope (ownNm c [j]) && decide (j ∉ io) && decide (r = "range") && gloB c r && !isStar ea && chkE io c a ea && chkG io (c.blk scope) (.nm j) eT && chkC io (c.blk scope) cond ifs && chkE io (c.blk scope) elt eE
  | _ => false
theorem s_setLcH (C : Ctx X G io P W) (k : CCok X G c) {i j : Nat} {elt a : Ex} {cond : Exs} {s : Stmt} (h : chkLcH io c i elt j a cond s = true) : SS X G io P W (.asg (.nm i) (.lc elt (.nm j) (.rng (.cons a .nil)) cond [j])) s := fun env => by
  unfold chkLcH at h
  split at h
  · rename_i y py eE eT r rp ea rpos ifs kk scope vp spos
    simp only [Bool.and_eq_true, decide_eq_true_eq, Bool.not_eq_true'] at h
    obtain ⟨⟨⟨⟨⟨⟨⟨⟨⟨⟨⟨⟨⟨hk, h0⟩, rfl⟩, hsw⟩, hst⟩, h1⟩, h2⟩, rfl⟩, h3⟩, h4⟩, h5⟩, h6⟩, h7⟩, h8⟩ := h
    have hot := k.hot h0
    obtain ⟨g1, m1⟩ := blt_gl C k h3 (by decide)
    have hs : ∀ l ∈ (Tg.nm j).slots, l ∈ (ownNm c [j]).map (·.2) := by rw [ownNm_snd]; exact fun l z => z
    have hp : ∀ l ∈ (ownNm c [j]).map (·.2), l ∉ io := by rw [ownNm_snd]; exact fun l z => by rw [List.mem_singleton.mp z]; exact h2
    simp only [storeB, Bool.and_eq_true, decide_eq_true_eq] at hst
    have hl : c.sc.names.lookup y = some .local := by
      have q := hsw
      unfold swCond at q
      simp only [Bool.and_eq_true, beq_iff_eq] at q
      exact q.1.1
    have hA : SA X G io P W (.cons a .nil) [ea] := s_Acons (okE a C k h5).1 s_Anil (star_of h4 [] _)
    have z := ps_setLcH (i := i) (y := y) (py := py) (elt := eE) (tg := eT) (pos := vp) (spos := spos) hot C.nd (by rw [k.N]; exact hst.1.1) (by rw [k.sc]; exact hl) (by rw [sw_lc k hk, hsw]) (s_irng1H g1 m1 hA (star_of h4 [] _) env) (blkOk_by (by rw [k.N, k.sc]; exact h1))
      (fun s H Ca cl fp => pg_all (t := fun q : Env × D => tG X G P NoW (Tg.nm j).slots q.1 q.2 (asgT G io (.nm j))) fun q => okG (.nm j) (C.blkH s H scope _ fp) (k.blkH hot h0 s H scope cl Ca fp) h6 q.1 q.2) (fun s H Ca cl fp => pts_all (t := fun e => tT X G P NoW e (evC G io cond)) ((okL cond (C.blkH s H scope _ fp) (k.blkH hot h0 s H scope cl Ca fp)).2.2.1 h7)) (fun s H Ca cl fp => pe_all (t := fun e => tE X G P NoW e (evE G io elt)) (okE elt (C.blkH s H scope _ fp) (k.blkH hot h0 s H scope cl Ca fp) h8).1) (fold_of (e := .Call (.Name "range" rp) [ea] [] rpos) rfl _)
    refine ps_imp z fun D0 σ H h => ?_
    have hs' : ∀ l ∈ (Tg.nm j).slots, l ∈ [j] := fun l z => z
    rw [ownNm_snd]
    refine lc_read (W := W) (elt := elt) (tg := .nm j) (it := .rng (.cons a .nil)) (cond := cond) (env := env) hs' (fun p hp' z => absurd (C.pins p hp') (by rw [List.mem_singleton.mp z]; exact h2)) ?_
    refine tE_mono (Mid.next (m := evE G io (.lc elt (.nm j) (.rng (.cons a .nil)) cond [j])) (post := fun F0 H0 S0 r => PostS X G P W D0 F0 H0 S0 r) pstS (Mid.ofS h)) fun v H1 ⟨d, env1, e1, M1⟩ => ?_
    exact Mid.store (W := W) (G := G) C.pins (Mid.asg (t := .nm i) M1)
  · cases h
end
end DD

set_option Elab.async false
set_option linter.all false
set_option maxRecDepth 100000
set_option maxHeartbeats 2000000
namespace DD
open PySem PySem.Spec PyProof.Rows L2
/-! ### the law's word for an error -/
theorem isE_any {X : Cx} {a D0 : Addr} {oe : Obj} (C : ExcC X.K D0) (hz : Zc (.ref D0) none oe) (hf : ∃ vs, oe.data = .fields vs) (hp : (a, oe) ∈ X.pn) : CallR X (.builtin "isinstance") (rIsE X.K D0 a) := by
  intro pins s σ H xs us Q I r h
  obtain ⟨cv, u, b, rfl, hu, e, q⟩ := h
  obtain ⟨u1, u2, rfl, r1, r2⟩ := r.two
  obtain rfl : u1 = .ref a := r1
  rw [hu _ r2]
  obtain ⟨got, _⟩ := I.pin (a, oe) (List.mem_append_left _ hp)
  obtain ⟨vs, hv⟩ := hf
  have J : PySem.W.InstAt s.heap a oe D0 none := by
    obtain ⟨oc, od, oda, osl⟩ := oe
    obtain ⟨h1, h2⟩ := hz
    simp only at h1 h2 hv
    cases h1; cases h2; cases hv
    exact ⟨got, rfl, rfl, trivial⟩
  exact PySem.W.kia_one (PySem.W.handS_kitx_exc C.hg C.hk C.hs C.hd C.ha C.hn C.ht C.hm) I.kIn J e (fun z => nomatch z) fun tk => ⟨.bl b, H, I.kept (t' := tk) fun _ _ z => z, rfl, q⟩
/-- [isinstance(x, C), ..] -/
def chkIs (c : CC) (i : Nat) : List Str → List Expr → Bool
  | [], as => as.isEmpty
  | y :: ys, as => (match as with
    | .Call (.Name f _) [.Name x _, .Name z _] [] _ :: as => decide (f = "isinstance") && gloB c f && nameB c i x && decide (z = y) && gloB c z && chkIs c i ys as
    | _ => false)
section
variable {X : Cx} {G : Glb} {c : CC}
theorem is_list (k : CCok X G c) (hb : X.mg "isinstance" = none) {i : Nat} {a D0 : Addr} {oe : Obj} (C : ExcC X.K D0) (hz : Zc (.ref D0) none oe) (hf : ∃ vs, oe.data = .fields vs) (hp : (a, oe) ∈ X.pn) :
    ∀ (ys : List Str) (bs : List Bool) (as : List Expr), chkIs c i ys as = true → ys.length = bs.length → (∀ (j : Nat) y b, ys[j]? = some y → bs[j]? = some b → ∃ Ca, X.mg y = some (.ref Ca) ∧ PySem.W.kitOne X.K (.ref D0) (.ref Ca) = some b) →
      ∃ t, PA X as t ∧ ∀ σ H (Q : List V → Hp → Prop), σ[i]? = some (some (.ref a)) → Q (bs.map .bl) H → t σ H Q
  | [], [], as, h, _, _ => by
    cases as with
    | nil => exact ⟨_, pa_nil, fun σ H Q _ q => q⟩
    | cons e es => cases h
  | [], _ :: _, as, _, l, _ => by cases l
  | _ :: _, [], as, _, l, _ => by cases l
  | y :: ys, b :: bs, as, h, l, hk => by
    unfold chkIs at h
    split at h
    · rename_i f fp x xp z zp cp as'
      simp only [Bool.and_eq_true, decide_eq_true_eq] at h
      obtain ⟨⟨⟨⟨⟨rfl, h1⟩, h2⟩, rfl⟩, h3⟩, h4⟩ := h
      obtain ⟨t, ht, q⟩ := is_list k hb C hz hf hp ys bs as' h4 (by simpa using l) fun j y b e1 e2 => hk (j + 1) y b (by simpa using e1) (by simpa using e2)
      obtain ⟨Ca, m1, m2⟩ := hk 0 z b rfl rfl
      obtain ⟨g1, g2, g3⟩ := glo_of k h1
      obtain ⟨g4, g5, g6⟩ := glo_of k h3
      have pa : PA X [.Name x xp, .Name z zp] _ := pa_cons (name_pe k h2) (pa_cons (pe_glob (v := .ref Ca) g4 m1 rfl g5) pa_nil rfl) rfl
      exact ⟨_, pa_cons (pe_callB (isE_any C hz hf hp) g1 hb PyProof.Rows.boot_isinstance pa g3 g2 rfl rfl) ht rfl, fun σ H Q e qq => ⟨.ref a, e, .ref Ca, .ref Ca, b, rfl, fun u r => r, m2, q σ H _ e qq⟩⟩
    · cases h
end
/-- the law's word: its three statements -/
def leRest (n : Nat) (ws : List Str) : Stms :=
  .cons (.asg (.nm 2) (.lc (.ix (.lst (ws.foldr (fun w r => .cons (.cst (.str w)) r) .nil)) (.var 3)) (.nm 3) (.rng (.cons (.cst (.int n)) .nil)) (.cons (.ix (.plc 1) (.var 3)) .nil) [3]))
  (.cons (.ret (.ix (.lst (.cons (.cst (.str "odd")) (.cons (.ix (.bin .add (.plc 2) (.lst (.cons (.cst (.str "")) .nil))) (.cst (.int 0))) .nil))) (.blt .int (.cons (.cmp .eq (.blt .len (.cons (.plc 2) .nil)) (.cst (.int 1))) .nil)))) .nil)
abbrev leN : List Str := ["e", "kinds", "names", "k"]
def leC (nm : Nat → Str) (scope : Scope) : CC := ⟨leN, scope, fun _ => true, nm, fun _ => false, fun _ => false, false, false⟩
def chkLe (nm : Nat → Str) (ys ws : List Str) (scope : Scope) (body : List Stmt) : Bool := match body with
  | [.Assign [.Name y py] (.List as lp) p, s2, s3] => nameB (leC nm scope) 1 y && storeB (leC nm scope) 1 y && chkIs (leC nm scope) 0 ys as &&
    chkLcH [] (leC nm scope) 2 (.ix (.lst (ws.foldr (fun w r => .cons (.cst (.str w)) r) .nil)) (.var 3)) 3 (.cst (.int (ys.length : Nat))) (.cons (.ix (.plc 1) (.var 3)) .nil) s2 &&
    chkS [] (leC nm scope) (.ret (.ix (.lst (.cons (.cst (.str "odd")) (.cons (.ix (.bin .add (.plc 2) (.lst (.cons (.cst (.str "")) .nil))) (.cst (.int 0))) .nil))) (.blt .int (.cons (.cmp .eq (.blt .len (.cons (.plc 2) .nil)) (.cst (.int 1))) .nil)))) s3
  | _ => false
/-- what the two last statements make of the kinds -/
def leRun (G : Glb) (bs : List Bool) (ws : List Str) : R Fl := evSs G [] (leRest bs.length ws) [none, some (.lst true (bs.map .bl)), none, none]
def Fl.word : R Fl → Option Str
  | .ok (.rt (.str w)) _ => some w
  | _ => none
theorem word_of {r : R Fl} {z : Str} (h : Fl.word r = some z) : ∃ env, r = .ok (.rt (.str z)) env := by
  cases r with
  | ok fl env =>
    cases fl with
    | rt d =>
      cases d with
      | str w => exact ⟨env, by rw [show w = z from Option.some.inj h]⟩
      | _ => cases h
    | _ => cases h
  | _ => cases h
def leWord (G : Glb) (bs : List Bool) (ws : List Str) : Option Str := Fl.word (leRun G bs ws)
section
variable {X : Cx} {G : Glb} {W : WX} {scope : Scope} {body : List Stmt}
theorem le_start {K : PySem.W.Frag} {F H : Hp} {a : Addr} {v0 : V} (bs : List Bool) (sF : Sub F H) (na : H a = none) :
    Ok F (upd H a (.lst (bs.map V.bl))) (fun b => b = a) ∧ EnvR K F (upd H a (.lst (bs.map V.bl))) [] [none, some (.lst true (bs.map .bl)), none, none] [some v0, some (.ref a), none, none] (fun b => b = a) := by
  have nF := none_sub sF na
  have hk2 : ∀ b o, H b = some o → upd H a (.lst (bs.map V.bl)) b = some o := fun b o e => by rw [upd_ne (ne_of_none e na)]; exact e
  have rl : ∀ l : List Bool, RepL K F (upd H a (.lst (bs.map V.bl))) (l.map .bl) (l.map .bl) (fun b => b = a ∧ b ≠ a) := fun l => by
    induction l with
    | nil => rfl
    | cons b l ih => exact ⟨_, _, No, _, rfl, fun _ z => z.elim, fun _ z => z, fun _ z => z.elim, rfl, ih⟩
  refine ⟨⟨fun b o e => hk2 b o (sF b o e), fun b z => by rw [z]; exact nF, fun b z => by rw [z, upd_same]; simp⟩, ⟨fun i => if i = 1 then fun b => b = a else No, fun i b z => ?_, fun i j b x y => ?_, fun i d e => ?_⟩, rfl, fun p hp => by cases hp⟩
  · by_cases hi : i = 1
    · simp only [hi, if_true] at z; exact z
    · simp only [hi, if_false] at z; exact z.elim
  · by_cases hi : i = 1
    · by_cases hj : j = 1
      · rw [hi, hj]
      · simp only [hj, if_false] at y; exact y.elim
    · simp only [hi, if_false] at x; exact x.elim
  · match i, e with
    | 1, e =>
      have e' : d = .lst true (bs.map .bl) := by simpa [get] using e.symm
      subst e'
      exact ⟨.ref a, rfl, a, bs.map .bl, rfl, upd_same, rfl, rl bs⟩
    | 0, e => simp [get] at e
    | 2, e => simp [get] at e
    | 3, e => simp [get] at e
    | i + 4, e => simp [get] at e
theorem le_body {p : Addr × Obj} {D0 : Addr} {ys ws : List Str} {bs : List Bool} {z : Str} {H F : Hp} {Q : VK} (C1 : Ctx X G [] [] W) (SX : SCtx X) (k1 : CCok X G (leC G.nm scope)) (hp : p ∈ X.pn) (hcls : Zc (.ref D0) none p.2) (hfl : ∃ vs, p.2.data = .fields vs) (C : ExcC X.K D0) (hl : ys.length = bs.length) (hs : bs.length ≤ sizeLine)
    (hk : ∀ (j : Nat) y b, ys[j]? = some y → bs[j]? = some b → ∃ Ca, X.mg y = some (.ref Ca) ∧ PySem.W.kitOne X.K (.ref D0) (.ref Ca) = some b) (hc : chkLe G.nm ys ws scope body = true) (hz : Fl.word (leRun G bs ws) = some z) (sF : Sub F H)
    (hQ : ∀ F' H', Sub F F' → Sub F' H' → Sub H H' → (∀ a, F' a ≠ none → F a ≠ none ∨ H a = none) → Q (.str z) H') :
    ∃ t, PSs X body t ∧ t { nx := fun _ H' => Q .non H', rt := Q } (L2.start leN [.ref p.1]) H := by
  obtain ⟨env', hr⟩ : ∃ env, leRun G bs ws = .ok (.rt (.str z)) env := word_of hz
  have hr' : evSs G [] (leRest ys.length ws) [none, some (.lst true (bs.map .bl)), none, none] = .ok (.rt (.str z)) env' := by rw [hl]; exact hr
  clear hz hr
  unfold chkLe at hc
  split at hc
  · rename_i y py as lp pp s2 s3
    simp only [Bool.and_eq_true] at hc
    obtain ⟨⟨⟨⟨h1, h2⟩, h3⟩, h4⟩, h5⟩ := hc
    obtain ⟨t, ht, tq⟩ := is_list k1 (C1.blt _ (by decide +kernel)) C hcls hfl hp ys bs as h3 hl hk
    simp only [storeB, Bool.and_eq_true, decide_eq_true_eq] at h2
    have s1' : PS X (.Assign [.Name y py] (.List as lp) pp) (tAsg (tLst t) (gName 1)) := ps_set C1.nd (by rw [k1.N]; exact h2.1.1) (by rw [k1.sc]; exact loc_of h2.1.2) (pe_lst ht) rfl (by rw [k1.fn]; exact .inl rfl)
    have rest : SSs X G [] [] W (leRest ys.length ws) [s2, s3] := s_cons (s_setLcH C1 k1 h4) (s_cons (okS _ C1 SX k1 h5) s_nil)
    refine ⟨_, pss_cons s1' (rest [none, some (.lst true (bs.map .bl)), none, none]), ?_⟩
    refine tq _ _ _ rfl ⟨by rw [List.length_map]; exact hs, fun a na => ?_⟩
    obtain ⟨ok1, er1⟩ := le_start (K := X.K) (v0 := .ref p.1) bs sF na
    refine ⟨F, fun b => b = a, ok1, er1, ?_⟩
    show PostS X G [] W _ F (upd H a (.lst (bs.map V.bl))) (fun b => b = a) (evSs G [] (leRest ys.length ws) [none, some (.lst true (bs.map .bl)), none, none])
    rw [hr']
    have hk2 : ∀ b o, H b = some o → upd H a (.lst (bs.map V.bl)) b = some o := fun b o e => by rw [upd_ne (ne_of_none e na)]; exact e
    intro v σ' F' H' S' T ok' dj' st' er' rv
    have ev : v = .str z := (show Rep X.K F' H' (.str z) v T from rv).1
    subst ev
    refine hQ F' H' st'.fle ok'.sub (fun b o e => st'.keep b o (fun z => by rw [z, na] at e; cases e) (hk2 b o e)) fun b nb => ?_
    rcases st'.fnew b nb with y | y | y
    · exact .inl y
    · rw [y]; exact .inr na
    · refine .inr ?_
      cases e : H b with
      | none => rfl
      | some o => rw [hk2 b o e] at y; cases y
  · cases hc
end
section
variable {P : Program} {w : World} {K : PySem.W.Frag} {mg : Str → Option Value} {base : Heap} {G : Glb} {x qual : Str} {params : Arguments} {body : List Stmt} {scope : Scope} {f : Addr} {fd : FuncData} {k : Nat}
theorem fnE_of {D0 : Addr} {ys ws : List Str} {bs : List Bool} {z : Str} (Fd : FunD K x qual params body scope [] [] f fd) (S : FnScope leN [("e" : Str)] scope) (M : ModX K mg G) (C : ExcC K D0) (hl : ys.length = bs.length) (hs : bs.length ≤ sizeLine)
    (hk : ∀ (j : Nat) y b, ys[j]? = some y → bs[j]? = some b → ∃ Ca, mg y = some (.ref Ca) ∧ PySem.W.kitOne K (.ref D0) (.ref Ca) = some b) (hc : chkLe G.nm ys ws scope body = true) (hz : leWord G bs ws = some z) : FnE P w K mg base (k + 1) f fd D0 z := by
  obtain ⟨oc, od, dV, kV, doc, pm, an, cdv, ct, osl, rfl, lk, hcd, _, _⟩ := Fd.ex
  refine ⟨fun A outer s H F args us p Q E hr gd hot hpin hcls hfl e0 hb r sF hQ => ?_⟩
  have inK : K.In s.heap := e0.mod.kin.keeps fun b o e => (e0.bs b o e).1
  have nolim : s.heap.NoLimit := e0.mod.nolimit.keeps fun b o e => (e0.bs b o e).1
  have kinds : ∀ y ∈ [("e" : Str)].zip us, scope.names.lookup y.1 = some .local ∨ (scope.names.lookup y.1 = some .cell ∧ ((cellsFrom (s.heap.objs.size + 1) scope.names []).lookup y.1).isSome = true) := fun y hy =>
    (S.par y.1 (List.of_mem_zip hy).1).imp id fun q => ⟨q, PySem.W.cellsFrom_some _ _ _ (.inl q)⟩
  refine codeAny_call_function hr.depth (inK _ _ lk) rfl S.co S.gen rfl (PySem.W.codeRec_of inK hcd) (hb _ _ _ _ ?_)
  refine wpAny_newFunctionEnv_cells S.kind kinds fun env he s1 xx => ?_
  subst he
  refine ⟨nolim.keeps xx.toInCall.keep, codeAny_func ?_⟩
  have I : Inv (L2H.cxH (L2N.CX P w) P w K mg base leN qual scope f cdv A outer s H E p) [] (L2.start leN [.ref p.1]) H s1 := L2H.inv_startH S hpin e0 rfl r xx
  have C1 : Ctx (L2H.cxH (L2N.CX P w) P w K mg base leN qual scope f cdv A outer s H E p) G [] [] (fun cls d _ H => E cls d H) := ⟨S.nd, Nat.lt_of_le_of_lt (Nat.add_le_add_right (Nat.le_add_right _ _) _) (hr.deeper (envOfC qual scope s.heap.objs.size f cdv)).un, L2N.takes_of rfl rfl rfl rfl, M.blt, M.cst, M.sub, fun p hp => (by cases hp), gd⟩
  have k1 : CCok (L2H.cxH (L2N.CX P w) P w K mg base leN qual scope f cdv A outer s H E p) G (leC G.nm scope) := ⟨rfl, rfl, rfl, rfl, fun f h => (by cases h), fun x h => (by cases h), fun h => (by cases h), fun _ => ⟨p, hot, List.mem_cons_self⟩, fun h => (by cases h)⟩
  obtain ⟨t, ht, hq⟩ := le_body C1 ⟨PassesOwn.leaving, rfl, rfl⟩ k1 List.mem_cons_self hcls hfl C hl hs hk hc hz sF hQ
  have done : ∀ {σ' : L2.St} {H' : Hp} {s' : Shared} {v : V} {u : Value}, Inv (L2H.cxH (L2N.CX P w) P w K mg base leN qual scope f cdv A outer s H E p) [] σ' H' s' → RelV v u → Q v H' → CE outer P w H s Q u s' :=
    fun {σ' H' s' v u} J rv q => ⟨v, H', J.os, J.bare, J.base, J.hok, rv, q⟩
  refine wpAny_mono (ht.run [] s1 _ H _ I hq) (fun fl s' hs => ?_) fun e s' hs => hs
  cases fl with
  | ret u => obtain ⟨v, σ', H', J, rv, q⟩ := hs; exact done J rv q
  | next => obtain ⟨σ', H', J, q⟩ := hs; exact done (v := V.non) (u := Value.none) J rfl q
  | brk => obtain ⟨_, _, _, q⟩ := hs; exact q.elim
  | cont => obtain ⟨_, _, _, q⟩ := hs; exact q.elim
end
end DD

set_option Elab.async false
set_option linter.all false
set_option maxRecDepth 100000
set_option maxHeartbeats 2000000
namespace DD
open PySem PySem.Spec PyProof.Rows L2
/-! ### the head -/
/-- a call at whose end v is given and nothing raised -/
theorem top_ends {P : Program} {w : World} {K : PySem.W.Frag} {mg : Str → Option Value} {base : Heap} {k : Nat} {fa a : Addr} {fd : FuncData} {x : Str} {sp : Sp} {s : Shared} {H : Hp} (h : FnG P w K mg base k fa fd [x] sp) (hr : Room k callerA) (e0 : Env0 P w K mg base callerA [] s H)
    (hb : BindsTo s fd ⟨[.ref a], []⟩ [(x, .ref a)]) (hs : sp [.ref a] H (fun v _ => v = .bl true) fun _ _ _ => False) :
    codeAny (model P w) callerA (.call (.ref fa) ⟨[.ref a], []⟩) (fun r s' => r = .ok (.ret (.bool true)) ∧ CE [] P w H s (fun v _ => v = .bl true) (.bool true) s') s :=
  codeAny_mono (h.run callerA [] s H ⟨[.ref a], []⟩ [.ref a] [.ref a] _ _ hr rfl e0 hb (.cons rfl .nil) hs) fun r s' q => by
    cases r with
    | ok fl =>
      cases fl with
      | ret u =>
        have q2 : CE [] P w H s (fun v _ => v = .bl true) u s' := q
        obtain ⟨v, H', _, _, _, _, rv, ev⟩ := id q2
        have ev' : v = .bl true := ev
        subst ev'
        have eu : u = Value.bool true := rv
        subst eu
        exact ⟨rfl, q2⟩
      | next => exact False.elim q
      | brk => exact False.elim q
      | cont => exact False.elim q
    | error e =>
      obtain ⟨_, _, _, _, _, _, _, _, _, _, _, _, w⟩ := q
      exact w.elim
/-- the whole module beside what H tracks: the script's list at most -/
theorem ground {P : Program} {w : World} {K : PySem.W.Frag} {mg mb : Str → Option Value} {s : Shared} {H : Hp} {a : Addr} {vs : List Value} (KX : K.In s.heap) (hns : s.heap.Ns mainGlobals mg) (hb : s.heap.Ns builtinsNs mb) (hbb : ∀ x : Str, x ≠ "__name__" → mb x = bootBuiltins x) (hlim : s.heap.NoLimit) (hg : s.gens = #[])
    (ha : s.heap.get? a = some { cls := .type "list", data := .seq vs.toArray }) (hok : HOk P w H s.heap) (only : ∀ b, H b ≠ none → b = a ∧ K.lookup a = none) : K.In (hidT s.heap H) ∧ (hidT s.heap H).Ns mainGlobals mg ∧ Env0 P w K mg (hidT s.heap H) callerA [] s H := by
  have out : ∀ b, b ≠ a → H b = none := fun b hb => by
    cases q : H b with
    | none => rfl
    | some u => exact (hb (only b (by rw [q]; simp)).1).elim
  have space : ∀ {c : Addr} {m : Str → Option Value}, s.heap.Ns c m → (hidT s.heap H).Ns c m := fun {c m} ⟨o, es, ep, e, d, r⟩ => by
    refine ⟨o, es, ep, hidT_get e (out c fun z => ?_), d, r⟩
    rw [z, ha] at e
    cases e
    cases d
  have inK : K.In (hidT s.heap H) := fun b o e => by
    refine hidT_get (KX b o e) ?_
    cases q : H b with
    | none => rfl
    | some u =>
      obtain ⟨e1, e2⟩ := only b (by rw [q]; simp)
      rw [e1, e2] at e
      cases e
  exact ⟨inK, space hns, rfl, ⟨inK, space hns, ⟨mb, space hb, hbb⟩, hlim.elim fun mc z => ⟨mc, space z.1, z.2⟩⟩, fun b o e => of_hidT e, Nat.le_of_eq (hidT_size _ _), trivial, fun b z => (by cases z), hok, .of_eq hg⟩
theorem law_endG {P : Program} {w : World} {K : PySem.W.Frag} {mg mb : Str → Option Value} {k : Nat} {fa a : Addr} {fd : FuncData} {x : Str} {sp : Sp} {s : Shared} {vs : List Value} {ns : List Int}
    (KX : K.In s.heap) (hns : s.heap.Ns mainGlobals mg) (hb : s.heap.Ns builtinsNs mb) (hbb : ∀ x : Str, x ≠ "__name__" → mb x = bootBuiltins x) (hlim : s.heap.NoLimit) (hg : s.gens = #[])
    (ha : s.heap.get? a = some { cls := .type "list", data := .seq vs.toArray }) (hi : IntsAre vs ns) (hl : ns.length ≤ sizeLine) (hr : Room k callerA)
    (F : ∀ base : Heap, K.In base → base.Ns mainGlobals mg → FnG P w K mg base k fa fd [x] sp) (hbind : ∀ (s : Shared) (u : Value), BindsTo s fd ⟨[u], []⟩ [(x, u)])
    (hsp : ∀ H : Hp, SqL K H a (ns.map V.int) → sp [.ref a] H (fun v _ => v = .bl true) fun _ _ _ => False) :
    codeAny (model P w) callerA (.call (.ref fa) ⟨[.ref a], []⟩) (fun r s' => r = .ok (.ret (.bool true)) ∧ OldK s.heap s'.heap ∧ s'.os = s.os ∧ AllBare s'.gens) s := by
  have rv := vals_ints hi
  have go : ∀ H : Hp, (∀ b u, H b = some u → b = a ∧ K.lookup a = none ∧ u = .frz { cls := .type "list", data := .seq vs.toArray } (.lst (ns.map V.int))) → SqL K H a (ns.map V.int) → HOk P w H s.heap →
      codeAny (model P w) callerA (.call (.ref fa) ⟨[.ref a], []⟩) (fun r s' => r = .ok (.ret (.bool true)) ∧ OldK s.heap s'.heap ∧ s'.os = s.os ∧ AllBare s'.gens) s := by
    intro H only hS hok
    obtain ⟨g1, g2, e0⟩ := ground (w := w) KX hns hb hbb hlim hg ha hok fun b z => by
      cases q : H b with
      | none => exact (z q).elim
      | some u => exact ⟨(only b u q).1, (only b u q).2.1⟩
    refine codeAny_mono (top_ends (F _ g1 g2) hr e0 (hbind s (.ref a)) (hsp H hS)) fun r s' ⟨er, v, H', os, bare, un, hok', _, _⟩ => ⟨er, OldK.of_keep fun b o e => ?_, os, bare⟩
    cases q : H b with
    | none => exact un.keep b o e q (fun z => by cases z) (by simp)
    | some u =>
      obtain ⟨_, _, rfl⟩ := only b u q
      obtain ⟨e1, _⟩ := hok b _ q
      obtain ⟨e2, _⟩ := hok' b _ (un.frzs b _ _ q)
      rw [e] at e1
      cases e1
      exact e2
  cases hk : K.lookup a with
  | some o =>
    have e := KX a o hk
    rw [ha] at e
    cases e
    exact go (fun _ => none) (fun b u z => by cases z) (.inr ⟨_, vs.toArray, _, hk, rfl, rfl, rfl, by rw [List.size_toArray, hi.length]; exact hl, by simpa using rv⟩) fun b u z => by cases z
  | none =>
    have at_ : ∀ b u, (if b = a then some (HO.frz { cls := .type "list", data := .seq vs.toArray } (.lst (ns.map V.int))) else none) = some u → b = a ∧ u = .frz { cls := .type "list", data := .seq vs.toArray } (.lst (ns.map V.int)) := fun b u z => by
      by_cases hb : b = a
      · rw [if_pos hb] at z; cases z; exact ⟨hb, rfl⟩
      · rw [if_neg hb] at z; cases z
    refine go (fun b => if b = a then some (.frz { cls := .type "list", data := .seq vs.toArray } (.lst (ns.map V.int))) else none) (fun b u z => ⟨(at_ b u z).1, hk, (at_ b u z).2⟩) (.inl (.inr ⟨{ cls := .type "list", data := .seq vs.toArray }, if_pos rfl⟩)) fun b u z => ?_
    obtain ⟨rfl, rfl⟩ := at_ b u z
    exact ⟨ha, by rw [List.length_map]; exact hl, vs, _, rv, ha⟩
/-- a law at its end, over a head by facts -/
theorem walk_ofG {l : PySem.W.OpenLaw} {n k : Nat} {q : Program} {loose : List Str} {XP : (Str → Option Value) → Heap → Prop} {YP : World → Heap → Prop} {d : DefRec} {x : Str}
    (hn : l.most = some n) (hn2 : n ≤ sizeLine) (hdf : d.params.defaults = []) (hr : Room k callerA)
    (F : ∀ (w : World) (mg : Str → Option Value) (fa : Addr) (h : Heap), YP w h → h.Ns mainGlobals mg → mg d.name = some (.ref fa) →
      ∃ (K : PySem.W.Frag) (fd : FuncData) (sp : Sp), K.In h ∧ (∀ (s : Shared) (u : Value), BindsTo s fd ⟨[u], []⟩ [(x, u)]) ∧
        (∀ (H : Hp) (a : Addr) (ns : List Int), SqL K H a (ns.map V.int) → sp [.ref a] H (fun v _ => v = .bl true) fun _ _ _ => False) ∧
        ∀ base : Heap, K.In base → base.Ns mainGlobals mg → FnG l.prog w K mg base k fa fd [x] sp) :
    PySem.W.WalkO q loose XP YP l.row.toRowW d [] (fun f vs => PySem.call f vs) := by
  refine Att.attach_call hn hdf fun w s₀ s₁ mg mb fa o pm cd doc a vs ns G Y _ _ _ hmg hobj hints hlen hg => ?_
  obtain ⟨K, fd, sp, KX, hb, hsp, hF⟩ := F w mg fa _ Y G.T.g hmg
  exact law_endG KX G.T.g G.T.b G.T.builtins G.T.nolimit hg hobj hints (Nat.le_trans hlen hn2) hr hF hb fun H hS => hsp H a ns hS
/-- facts of an own class of errors, for isinstance -/
def excB (K : PySem.W.Frag) (x : Str) : Bool :=
  decide (PySem.W.findIn K (.ref (He.ga K x)) "__getattribute__" = some (some (.builtin "BaseException.__getattribute__"))) &&
  (decide (PySem.W.findIn K (.ref (He.ga K x)) "__getattr__" = some none) && (decide (PySem.W.subIn K (.ref (He.ga K x)) (.type "BaseException") = some true) && (PySem.W.hasDictIn K (He.ga K x) &&
  (decide (PySem.W.findIn K (.ref (He.ga K x)) "__class__" = some (some (.builtin "object.__class__"))) && (decide (PySem.W.specialIn K (.builtin "object.__class__") "__get__" = some (some (.builtin "getset_descriptor.__get__"))) &&
  (decide (PySem.W.takesIn K (.builtin "object.__class__") = some true) && decide (PySem.W.mroIn K (He.ga K x) (.type "object") = some true)))))))
theorem excB_ok {K : PySem.W.Frag} {x : Str} (h : excB K x = true) : ExcC K (He.ga K x) := by
  unfold excB at h
  simp only [Bool.and_eq_true, decide_eq_true_eq] at h
  obtain ⟨h1, h2, h3, h4, h5, h6, h7, h8⟩ := h
  exact ⟨h1, h2, h3, h4, h5, h6, h7, h8⟩
/-- .. for raise -/
def rsB (K : PySem.W.Frag) (x : Str) : Bool := PySem.W.excIn K (He.ga K x) [.type "Exception", .type "BaseException", .type "object"] "Exception.__new__" && (PySem.W.keepIn K (.ref (He.ga K x)) && (decide (PySem.W.subIn K (.ref (He.ga K x)) (.type "BaseException") = some true) && decide (PySem.W.typeIn K (.ref (He.ga K x)) = some (.type "type"))))
theorem rsB_ok {K : PySem.W.Frag} {mg : Str → Option Value} {G : Glb} {i : Nat} {x : Str} (hx : G.nm i = x) (hm : mg x = some (.ref (He.ga K x))) (h : rsB K x = true) : ExM K mg G i := by
  unfold rsB at h
  simp only [Bool.and_eq_true, decide_eq_true_eq] at h
  obtain ⟨h1, h2, h3, h4⟩ := h
  subst hx
  exact ⟨_, _, _, _, _, PySem.F.excBase_Exception, h1, hm, h2, h3, h4⟩
def isB (K : PySem.W.Frag) (x y : Str) (b : Bool) : Bool := decide (PySem.W.kitOne K (.ref (He.ga K x)) (.ref (He.ga K y)) = some b)
/-- the classes of errors: all facts of x among ys -/
def lawB (K : PySem.W.Frag) (xs ys : List Str) : Bool := xs.all fun x => rsB K x && (excB K x && ys.all fun y => isB K x y (x == y))
abbrev AlX : Type := Bool × He.AlD
def obsX (n : Nat) (fb : PySem.W.Frag → Bool) (fa : List He.Fa) (fn : List He.DefD) (g : Addr → Option Obj) : AlX := (fb (He.frG g (He.asD g n)), He.obsDG n fa fn g)
def hookX (n : Nat) (fb : PySem.W.Frag → Bool) (fa : List He.Fa) (fn : List He.DefD) : PySem.W.Hook where
  α := AlX
  obs := fun s => obsX n fb fa fn s.heap.get?
  val := fun _ => (true, He.valD fn)
  says := fun _ h => ∃ K : PySem.W.Frag, K.In h ∧ fb K = true ∧ He.SaysD fa fn K
  of := fun _ _ e => ⟨_, He.frG_in, congrArg Prod.fst e, congrArg Prod.snd e⟩
  keeps := fun _ _ _ ⟨K, hK, c, d⟩ k => ⟨K, PySem.W.Frag.In.keeps hK k, c, d⟩
theorem obsX_eq {n : Nat} {fb : PySem.W.Frag → Bool} {fa : List He.Fa} {fn : List He.DefD} {g : Addr → Option Obj} {s : Shared} (h : ∀ a, g a = s.heap.get? a) : obsX n fb fa fn g = (hookX n fb fa fn).obs s := by
  have e : g = s.heap.get? := funext h
  rw [e]; rfl
end DD

set_option Elab.async false
set_option linter.all false
set_option maxRecDepth 100000
set_option maxHeartbeats 1000000
namespace DD
open PySem PySem.Spec PyProof.Rows L2
/-! ### running the evaluator by simp -/
section
variable {α β γ : Type} {a : α} {env : Env} {f : α → Env → R β} {x : Nat}
/-- what comes next, where simp does not look -/
class Nx (α β : Type) where
  run : α → Env → R β
def R.nxt {α β : Type} (m : R α) [k : Nx α β] : R β := m.bind k.run
@[simp ↓] theorem bind_nxt (m : R α) (f : α → Env → R β) : m.bind f = @R.nxt α β m ⟨f⟩ := rfl
@[simp] theorem nxt_ok : @R.nxt α β (R.ok a env) ⟨f⟩ = f a env := rfl
@[simp] theorem nxt_exc : @R.nxt α β (R.exc x env) ⟨f⟩ = .exc x env := rfl
@[simp] theorem nxt_bad : @R.nxt α β (R.bad : R α) ⟨f⟩ = .bad := rfl
@[simp] theorem nxt_ite {c : Prop} [Decidable c] {p q : R α} : @R.nxt α β (if c then p else q) ⟨f⟩ = if c then @R.nxt α β p ⟨f⟩ else @R.nxt α β q ⟨f⟩ := by split <;> rfl
theorem bind_ok : (R.ok a env).bind f = f a env := rfl
theorem bind_exc : (R.exc x env : R α).bind f = .exc x env := rfl
theorem bind_bad : (R.bad : R α).bind f = .bad := rfl
@[simp] theorem calm_ok : (R.ok a env).calm = .ok a env := rfl
@[simp] theorem calm_bad : (R.bad : R α).calm = .bad := rfl
theorem bind_ite {c : Prop} [Decidable c] {p q : R α} : (if c then p else q).bind f = if c then p.bind f else q.bind f := by split <;> rfl
end
@[simp] theorem get_zero {d : Option D} {r : Env} : get (d :: r) 0 = d := by cases d <;> rfl
@[simp] theorem get_succ {d : Option D} {r : Env} {n : Nat} : get (d :: r) (n + 1) = get r n := rfl
@[simp] theorem fz_int (i : Int) : (D.int i).fz = .int i := rfl
@[simp] theorem fz_str (s : Str) : (D.str s).fz = .str s := rfl
@[simp] theorem fz_bl (b : Bool) : (D.bl b).fz = .bl b := rfl
@[simp] theorem fz_non : D.non.fz = .non := rfl
@[simp] theorem fz_tup (xs : List D) : (D.tup xs).fz = .tup (D.fzL xs) := rfl
@[simp] theorem fz_lst (o : Bool) (xs : List D) : (D.lst o xs).fz = .lst false (D.fzL xs) := rfl
@[simp] theorem fz_ext (xs : List D) : (D.ext xs).fz = .ext (D.fzL xs) := rfl
@[simp] theorem fzL_nil : D.fzL [] = [] := rfl
@[simp] theorem fzL_cons (x : D) (xs : List D) : D.fzL (x :: xs) = x.fz :: D.fzL xs := rfl
@[simp] theorem fzL_app : ∀ xs ys : List D, D.fzL (xs ++ ys) = D.fzL xs ++ D.fzL ys
  | [], _ => rfl
  | x :: xs, ys => by rw [List.cons_append, fzL_cons, fzL_app xs ys]; rfl
@[simp] theorem fzL_ints : ∀ ns : List Int, D.fzL (ns.map .int) = ns.map .int
  | [] => rfl
  | n :: ns => by rw [List.map_cons, fzL_cons, fzL_ints ns]; rfl
@[simp] theorem fzL_bls : ∀ ns : List Bool, D.fzL (ns.map .bl) = ns.map .bl
  | [] => rfl
  | n :: ns => by rw [List.map_cons, fzL_cons, fzL_bls ns]; rfl
@[simp] theorem isFzL_bls : ∀ ns : List Bool, D.isFzL (ns.map .bl) = true
  | [] => rfl
  | n :: ns => by rw [List.map_cons]; show ((D.bl n).isFz && D.isFzL (ns.map .bl)) = true; rw [isFzL_bls ns]; rfl
@[simp] theorem isFzL_nil : D.isFzL [] = true := rfl
@[simp] theorem isFzL_cons (x : D) (xs : List D) : D.isFzL (x :: xs) = (x.isFz && D.isFzL xs) := rfl
@[simp] theorem isFzL_app : ∀ xs ys : List D, D.isFzL (xs ++ ys) = (D.isFzL xs && D.isFzL ys)
  | [], _ => rfl
  | x :: xs, ys => by rw [List.cons_append, isFzL_cons, isFzL_app xs ys, isFzL_cons, Bool.and_assoc]
@[simp] theorem isFzL_ints : ∀ ns : List Int, D.isFzL (ns.map .int) = true
  | [] => rfl
  | n :: ns => by rw [List.map_cons, isFzL_cons, isFzL_ints ns]; rfl
@[simp] theorem isFz_int i : (D.int i).isFz = true := rfl
@[simp] theorem noPlc_int i : noPlc (.int i) = true := rfl
@[simp] theorem kids_int i : kidsFz (.int i) = true := rfl
@[simp] theorem res_int {env : Env} i : res env (.int i) = some (.int i) := rfl
@[simp] theorem isFz_str s : (D.str s).isFz = true := rfl
@[simp] theorem noPlc_str s : noPlc (.str s) = true := rfl
@[simp] theorem kids_str s : kidsFz (.str s) = true := rfl
@[simp] theorem res_str {env : Env} s : res env (.str s) = some (.str s) := rfl
@[simp] theorem isFz_bl b : (D.bl b).isFz = true := rfl
@[simp] theorem noPlc_bl b : noPlc (.bl b) = true := rfl
@[simp] theorem kids_bl b : kidsFz (.bl b) = true := rfl
@[simp] theorem res_bl {env : Env} b : res env (.bl b) = some (.bl b) := rfl
@[simp] theorem isFz_non : D.non.isFz = true := rfl
@[simp] theorem noPlc_non : noPlc .non = true := rfl
@[simp] theorem kids_non : kidsFz .non = true := rfl
@[simp] theorem res_non {env : Env} : res env .non = some .non := rfl
@[simp] theorem isFz_tup (xs : List D) : (D.tup xs).isFz = D.isFzL xs := rfl
@[simp] theorem isFz_lstE (o : Bool) (xs : List D) : (D.lst o xs).isFz = (!o && D.isFzL xs) := rfl
@[simp] theorem isFz_ext (xs : List D) : (D.ext xs).isFz = D.isFzL xs := rfl
@[simp] theorem kids_tup (xs : List D) : kidsFz (.tup xs) = D.isFzL xs := rfl
@[simp] theorem kids_lst (o : Bool) (xs : List D) : kidsFz (.lst o xs) = D.isFzL xs := rfl
@[simp] theorem kids_ext (xs : List D) : kidsFz (.ext xs) = D.isFzL xs := rfl
@[simp] theorem noPlc_tup (xs : List D) : noPlc (.tup xs) = true := rfl
@[simp] theorem noPlc_lst (o : Bool) (xs : List D) : noPlc (.lst o xs) = true := rfl
@[simp] theorem noPlc_ext (xs : List D) : noPlc (.ext xs) = true := rfl
@[simp] theorem noPlc_plc (i : Nat) : noPlc (.plc i) = false := rfl
@[simp] theorem res_tup {env : Env} (xs : List D) : res env (.tup xs) = some (.tup (D.fzL xs)) := rfl
@[simp] theorem res_lst {env : Env} (o : Bool) (xs : List D) : res env (.lst o xs) = some (.lst false (D.fzL xs)) := rfl
@[simp] theorem res_ext {env : Env} (xs : List D) : res env (.ext xs) = some (.ext (D.fzL xs)) := rfl
@[simp] theorem res_plc {env : Env} (i : Nat) : res env (.plc i) = (match get env i with | some d => if kidsFz d then some d else none | none => none) := rfl
@[simp] theorem resL_nil {env : Env} : resL env [] = some [] := rfl
@[simp] theorem resL_cons {env : Env} (d : D) (r : List D) : resL env (d :: r) = (match res env d, resL env r with | some x, some xs => some (x :: xs) | _, _ => none) := rfl
/-! ### operators -/
@[simp] theorem cop_eq (a b : D) : cop .eq a b = if dle 60 a && dle 60 b then some (deq a b) else none := rfl
@[simp] theorem cop_ne (a b : D) : cop .ne a b = if dle 60 a && dle 60 b then some (!deq a b) else none := rfl
@[simp] theorem cop_lt (a b : Int) : cop .lt (.int a) (.int b) = some (decide (a < b)) := rfl
@[simp] theorem cop_le (a b : Int) : cop .le (.int a) (.int b) = some (decide (a ≤ b)) := rfl
@[simp] theorem cop_gt (a b : Int) : cop .gt (.int a) (.int b) = some (decide (b < a)) := rfl
@[simp] theorem cop_ge (a b : Int) : cop .ge (.int a) (.int b) = some (decide (b ≤ a)) := rfl
@[simp] theorem cop_in (a b : D) : cop .in_ a b = isin a b := rfl
@[simp] theorem cop_nin (a b : D) : cop .nin a b = (isin a b).map (!·) := rfl
@[simp] theorem cop_isN (a : D) : cop .is_ a .non = some (isNonD a) := by cases a <;> rfl
@[simp] theorem cop_isnN (a : D) : cop .isnot a .non = some (!isNonD a) := by cases a <;> rfl
@[simp] theorem isin_str (s t : Str) : isin (.str s) (.str t) = if s.length = 1 then some (decide (s.cps.getD 0 0 ∈ t.cps.toList)) else none := rfl
@[simp] theorem isin_tup (a : D) (ys : List D) : isin a (.tup ys) = if dle 60 a && dleL 60 ys then some (ys.any fun y => deq y a) else none := by cases a <;> rfl
@[simp] theorem isin_lst (a : D) (o : Bool) (ys : List D) : isin a (.lst o ys) = if dle 60 a && dleL 60 ys then some (ys.any fun y => deq y a) else none := by cases a <;> rfl
@[simp] theorem dle_int (n : Nat) (i : Int) : dle n (.int i) = true := by cases n <;> rfl
@[simp] theorem dle_str (n : Nat) (s : Str) : dle n (.str s) = true := by cases n <;> rfl
@[simp] theorem dle_bl (n : Nat) (b : Bool) : dle n (.bl b) = true := by cases n <;> rfl
@[simp] theorem dle_non (n : Nat) : dle n .non = true := by cases n <;> rfl
@[simp] theorem dle_tup (n : Nat) (xs : List D) : dle (n + 1) (.tup xs) = dleL n xs := rfl
@[simp] theorem dle_lst (n : Nat) (o : Bool) (xs : List D) : dle (n + 1) (.lst o xs) = dleL n xs := rfl
@[simp] theorem dleL_nil (n : Nat) : dleL n [] = true := by cases n <;> rfl
@[simp] theorem dleL_cons (n : Nat) (x : D) (xs : List D) : dleL n (x :: xs) = (dle n x && dleL n xs) := by cases n <;> rfl
@[simp] theorem truth_bl (b : Bool) : truth (.bl b) = some b := rfl
@[simp] theorem truth_int (i : Int) : truth (.int i) = some (i != 0) := rfl
@[simp] theorem truth_tup (xs : List D) : truth (.tup xs) = some (!xs.isEmpty) := rfl
@[simp] theorem truth_lst (o : Bool) (xs : List D) : truth (.lst o xs) = some (!xs.isEmpty) := rfl
@[simp] theorem ixop_tup (xs : List D) (i : Int) : ixop (.tup xs) (.int i) = atI xs i := rfl
@[simp] theorem ixop_lst (o : Bool) (xs : List D) (i : Int) : ixop (.lst o xs) (.int i) = atI xs i := rfl
@[simp] theorem ixop_ext (xs : List D) (i : Int) : ixop (.ext xs) (.int i) = atI xs i := rfl
@[simp] theorem ixop_str (s : Str) (i : Int) : ixop (.str s) (.int i) = if s.length ≤ lim then (atI s.cps.toList i).map fun c => .str ⟨#[c]⟩ else none := rfl
@[simp] theorem bop_addI (a b : Int) : bop .add (.int a) (.int b) = some (.int (a + b)) := rfl
@[simp] theorem bop_subI (a b : Int) : bop .sub (.int a) (.int b) = some (.int (a - b)) := rfl
@[simp] theorem bop_mulI (a b : Int) : bop .mul (.int a) (.int b) = if small a || small b then some (.int (a * b)) else none := rfl
@[simp] theorem bop_fdivI (a b : Int) : bop .fdiv (.int a) (.int b) = if 0 < b ∧ inR b 1073741823 = true then some (.int (a / b)) else none := rfl
@[simp] theorem bop_modI (a b : Int) : bop .mod (.int a) (.int b) = if 0 < b then some (.int (a % b)) else none := rfl
@[simp] theorem bop_powI (a b : Int) : bop .pow (.int a) (.int b) = if 0 ≤ b ∧ inR b 1000000 = true ∧ small a = true then some (.int (a ^ b.toNat)) else none := rfl
@[simp] theorem bop_addT (a b : List D) : bop .add (.tup a) (.tup b) = if a.length + b.length ≤ lim then some (.tup (a ++ b)) else none := rfl
@[simp] theorem bop_addL (o o' : Bool) (a b : List D) : bop .add (.lst o a) (.lst o' b) = if a.length + b.length ≤ lim then some (.lst true (a ++ b)) else none := rfl
@[simp] theorem blt_len (d : D) : bltop .len [d] = lenD d := rfl
@[simp] theorem len_tup (xs : List D) : lenD (.tup xs) = some (.int xs.length) := rfl
@[simp] theorem len_lst (o : Bool) (xs : List D) : lenD (.lst o xs) = some (.int xs.length) := rfl
@[simp] theorem len_ext (xs : List D) : lenD (.ext xs) = some (.int xs.length) := rfl
@[simp] theorem len_str (s : Str) : lenD (.str s) = if s.length ≤ lim then some (.int s.length) else none := rfl
@[simp] theorem blt_intI (i : Int) : bltop .int [.int i] = some (.int i) := rfl
@[simp] theorem blt_intB (b : Bool) : bltop .int [.bl b] = some (.int (if b then 1 else 0)) := rfl
@[simp] theorem blt_abs (i : Int) : bltop .abs [.int i] = some (.int (if i < 0 then -i else i)) := rfl
@[simp] theorem blt_min (o : Bool) (xs : List D) : bltop .min [.lst o xs] = ((asI xs).bind minI).map .int := rfl
@[simp] theorem blt_max (o : Bool) (xs : List D) : bltop .max [.lst o xs] = ((asI xs).bind maxI).map .int := rfl
@[simp] theorem blt_sum (o : Bool) (xs : List D) : bltop .sum [.lst o xs] = (asI xs).map fun ns => .int ns.sum := rfl
@[simp] theorem blt_all (o : Bool) (xs : List D) : bltop .all [.lst o xs] = (asB xs).map fun bs => .bl (bs.all id) := rfl
@[simp] theorem blt_any (o : Bool) (xs : List D) : bltop .any [.lst o xs] = (asB xs).map fun bs => .bl (bs.any id) := rfl
@[simp] theorem blt_tuple (o : Bool) (xs : List D) : bltop .tuple [.lst o xs] = some (.tup xs) := rfl
@[simp] theorem blt_list (d : D) : bltop .list [d] = (seq? d).map (.lst true ·) := rfl
@[simp] theorem asI_nil : asI [] = some [] := rfl
@[simp] theorem asI_cons (i : Int) (r : List D) : asI (.int i :: r) = (asI r).map (i :: ·) := rfl
@[simp] theorem asI_ints : ∀ ns : List Int, asI (ns.map .int) = some ns
  | [] => rfl
  | n :: ns => by rw [List.map_cons, asI_cons, asI_ints ns]; rfl
@[simp] theorem asB_bls : ∀ ns : List Bool, asB (ns.map .bl) = some ns
  | [] => rfl
  | n :: ns => by rw [List.map_cons]; show (asB (ns.map .bl)).map (n :: ·) = _; rw [asB_bls ns]; rfl
/-! ### equality -/
def deqL (xs ys : List D) : Bool := PyData.eqvAll (D.pyL xs) (D.pyL ys)
@[simp] theorem deq_str (a b : Str) : deq (.str a) (.str b) = (a == b) := rfl
@[simp] theorem deq_int (a b : Int) : deq (.int a) (.int b) = (a == b) := rfl
@[simp] theorem deq_bl (a b : Bool) : deq (.bl a) (.bl b) = (a == b) := rfl
@[simp] theorem deq_tup (xs ys : List D) : deq (.tup xs) (.tup ys) = deqL xs ys := rfl
@[simp] theorem deq_lst (o o' : Bool) (xs ys : List D) : deq (.lst o xs) (.lst o' ys) = deqL xs ys := rfl
@[simp] theorem deqL_nil : deqL [] [] = true := rfl
@[simp] theorem deqL_cons (x y : D) (xs ys : List D) : deqL (x :: xs) (y :: ys) = (deq x y && deqL xs ys) := rfl
@[simp] theorem deqL_nc (y : D) (ys : List D) : deqL [] (y :: ys) = false := rfl
@[simp] theorem deqL_cn (x : D) (xs : List D) : deqL (x :: xs) [] = false := rfl
/-! ### forms -/
section
variable {G : Glb} {io : List Nat} {env : Env}
@[simp] theorem liftO_some {α : Type} (d : α) : liftO (some d) env = .ok d env := rfl
@[simp] theorem liftO_none {α : Type} : liftO (none : Option α) env = .bad := rfl
theorem two_eq {α : Type} {ma mb : Env → R D} {f : D → D → Env → R α} : two ma mb f env = (ma env).bind fun x env => (mb env).bind fun y env => match res env x, res env y with
  | some x, some y => f x y env
  | _, _ => .bad := rfl
theorem withL_eq {α : Type} {m : Env → R (List D)} {f : List D → Env → R α} : withL m f env = (m env).bind fun ds env => match resL env ds with
  | some xs => f xs env
  | none => .bad := rfl
theorem thT_eq {β : Type} {m : Env → R D} {k : D → Bool → Env → R β} : thT m k env = (m env).bind fun d env => match res env d with
  | some x => (match truth x with | some b => k d b env | none => .bad)
  | none => .bad := rfl
end
end DD

set_option Elab.async false
set_option linter.all false
set_option maxRecDepth 100000
set_option maxHeartbeats 1000000
namespace DD
open PySem PySem.Spec PyProof.Rows L2
/-! ### loops -/
theorem lc_fm {asg : D → Env → R Unit} {cond : Env → R Bool} {elt : Env → R D} {own : List Nat} {env0 : Env} {f : D → Option D} : ∀ {xs acc : List D},
    (∀ x ∈ xs, ∃ e1 b e2, asg x env0 = .ok () e1 ∧ cond e1 = .ok b e2 ∧ match f x with
      | some y => b = true ∧ ∃ e3, elt e2 = .ok y e3 ∧ noPlc y = true ∧ clear e3 own = env0
      | none => b = false ∧ clear e2 own = env0) → lcLoop asg cond elt own xs acc env0 = .ok (acc ++ xs.filterMap f) env0
  | [], acc, _ => by rw [List.filterMap_nil, List.append_nil]; rfl
  | x :: xs, acc, h => by
    obtain ⟨e1, b, e2, h1, h2, h3⟩ := h x List.mem_cons_self
    have ih := fun acc => lc_fm (own := own) (f := f) (acc := acc) fun y hy => h y (List.mem_cons_of_mem _ hy)
    unfold lcLoop
    rw [h1, bind_ok, h2, bind_ok]
    cases e : f x with
    | none =>
      rw [e] at h3
      obtain ⟨rfl, h4⟩ := h3
      rw [if_neg Bool.false_ne_true, h4, ih, List.filterMap_cons_none e]
    | some y =>
      rw [e] at h3
      obtain ⟨rfl, e3, h4, h5, h6⟩ := h3
      rw [if_pos rfl, h4, bind_ok, if_pos h5, h6, ih, List.filterMap_cons_some e, List.append_assoc]
      rfl
/-- without a test -/
theorem lc_map {G : Glb} {io : List Nat} {asg : D → Env → R Unit} {elt : Env → R D} {own : List Nat} {env0 : Env} {f : D → D} {xs acc : List D}
    (h : ∀ x ∈ xs, ∃ e1 e3, asg x env0 = .ok () e1 ∧ elt e1 = .ok (f x) e3 ∧ noPlc (f x) = true ∧ clear e3 own = env0) : lcLoop asg (evC G io .nil) elt own xs acc env0 = .ok (acc ++ xs.map f) env0 := by
  have z := lc_fm (asg := asg) (cond := evC G io .nil) (elt := elt) (own := own) (env0 := env0) (f := fun x => some (f x)) (xs := xs) (acc := acc) fun x hx => by
    obtain ⟨e1, e3, h1, h2, h3, h4⟩ := h x hx
    exact ⟨e1, true, e1, h1, rfl, rfl, e3, h2, h3, h4⟩
  rw [z, show xs.filterMap (fun x => some (f x)) = xs.map f from congrFun (List.filterMap_eq_map (f := f)) xs]
/-- elements that change the names -/
theorem lc_st {S : Type} {G : Glb} {io : List Nat} {asg : D → Env → R Unit} {elt : Env → R D} {own : List Nat} (st : S → Env) (f : S → D → D × S) : ∀ {xs acc : List D} {s : S},
    (∀ s, ∀ x ∈ xs, ∃ e1 e3, asg x (st s) = .ok () e1 ∧ elt e1 = .ok (f s x).1 e3 ∧ noPlc (f s x).1 = true ∧ clear e3 own = st (f s x).2) →
    lcLoop asg (evC G io .nil) elt own xs acc (st s) = .ok (acc ++ (xs.foldl (fun q x => (q.1 ++ [(f q.2 x).1], (f q.2 x).2)) (([] : List D), s)).1) (st (xs.foldl (fun q x => (q.1 ++ [(f q.2 x).1], (f q.2 x).2)) (([] : List D), s)).2)
  | [], acc, s, _ => by rw [List.foldl_nil, List.append_nil]; rfl
  | x :: xs, acc, s, h => by
    obtain ⟨e1, e3, h1, h2, h3, h4⟩ := h s x List.mem_cons_self
    have key : ∀ (xs : List D) (a : List D) (s : S), (xs.foldl (fun q x => (q.1 ++ [(f q.2 x).1], (f q.2 x).2)) (a, s)) = (a ++ (xs.foldl (fun q x => (q.1 ++ [(f q.2 x).1], (f q.2 x).2)) (([] : List D), s)).1, (xs.foldl (fun q x => (q.1 ++ [(f q.2 x).1], (f q.2 x).2)) (([] : List D), s)).2) := by
      intro xs
      induction xs with
      | nil => intro a s; simp
      | cons y ys ih => intro a s; rw [List.foldl_cons, List.foldl_cons, ih, ih ([] ++ _), List.nil_append, List.append_assoc]
    unfold lcLoop
    rw [h1, bind_ok]
    show (R.bind (.ok true e1) _) = _
    rw [bind_ok, if_pos rfl, h2, bind_ok, if_pos h3, h4, lc_st st f fun s y hy => h s y (List.mem_cons_of_mem _ hy), List.foldl_cons, key xs ([] ++ _), List.nil_append, List.append_assoc]
theorem for_rel {S : Type} {asg : D → Env → R Unit} {body : Env → R Fl} (Rl : S → Env → Prop) (step : S → D → S) : ∀ {xs : List D} {s : S} {env : Env},
    (∀ s env, ∀ x ∈ xs, Rl s env → ∃ e1 e2 f, asg x env = .ok () e1 ∧ body e1 = .ok f e2 ∧ (f = .nx ∨ f = .ct) ∧ Rl (step s x) e2) → Rl s env → ∃ env', forLoop asg body xs env = .ok .nx env' ∧ Rl (xs.foldl step s) env'
  | [], s, env, _, r => ⟨env, rfl, r⟩
  | x :: xs, s, env, h, r => by
    obtain ⟨e1, e2, f, h1, h2, h3, h4⟩ := h s env x List.mem_cons_self r
    obtain ⟨env', g1, g2⟩ := for_rel Rl step (xs := xs) (fun s env y hy => h s env y (List.mem_cons_of_mem _ hy)) h4
    refine ⟨env', ?_, g2⟩
    unfold forLoop
    rw [h1, bind_ok, h2, bind_ok]
    rcases h3 with rfl | rfl
    · exact g1
    · exact g1
/-! ### calls -/
theorem lend_nil : ∀ (ds : List D) {k : Nat} {env : Env}, ds.all noPlc = true → lend [] k env ds = some (ds, env, [])
  | [], k, env, _ => rfl
  | d :: ds, k, env, h => by
    rw [List.all_cons, Bool.and_eq_true] at h
    have ih := lend_nil ds (k := k + 1) (env := env) h.2
    unfold lend
    rw [ih]
    cases d <;> first | rfl | simp [noPlc] at h
theorem call_ret {G : Glb} {f : Nat} {g : List D → FR} {ds : List D} {d : D} {env : Env} (hf : G.fn f = some g) (hio : G.io f = []) (np : ds.all noPlc = true) (hg : g ds = .ret d []) : callTo G f ds env = .ok d env := by
  unfold callTo
  rw [hf, hio, lend_nil ds np]
  simp only [hg, afterCall, putBack]
theorem call_exc {G : Glb} {f : Nat} {g : List D → FR} {ds : List D} {x : Nat} {env : Env} (hf : G.fn f = some g) (hio : G.io f = []) (np : ds.all noPlc = true) (hg : g ds = .exc x []) : callTo G f ds env = .exc x env := by
  unfold callTo
  rw [hf, hio, lend_nil ds np]
  simp only [hg, afterCall, putBack]
/-- the first argument goes in and out, a name -/
theorem call_io {G : Glb} {f i : Nat} {g : List D → FR} {x x' d : D} {ds : List D} {env : Env} (hf : G.fn f = some g) (hio : G.io f = [0]) (np : ds.all noPlc = true) (hx : get env i = some x) (hg : g (x :: ds) = .ret d [x']) : callTo G f (.plc i :: ds) env = .ok d (env.set i (some x')) := by
  have key : ∀ (ds : List D) (k : Nat) (e : Env), 1 ≤ k → ds.all noPlc = true → lend [0] k e ds = some (ds, e, []) := by
    intro ds
    induction ds with
    | nil => intro k e _ _; rfl
    | cons d ds ih =>
      intro k e hk h
      rw [List.all_cons, Bool.and_eq_true] at h
      have hc : [0].contains k = false := by
        rw [List.contains_eq_mem, decide_eq_false_iff_not, List.mem_singleton]; omega
      unfold lend
      rw [hc, ih (k + 1) e (by omega) h.2]
      cases d <;> first | rfl | simp [noPlc] at h
  unfold callTo
  rw [hf, hio]
  have e : lend [0] 0 env (.plc i :: ds) = some (x :: ds, env.set i none, [some i]) := by
    unfold lend
    rw [if_pos (show [0].contains 0 = true by decide)]
    simp only [hx, key ds 1 _ (Nat.le_refl _) np]
    rfl
  rw [e]
  simp only [hg, afterCall, putBack, List.set_set]
/-- by the turn's number -/
theorem for_ix {S : Type} {asg : D → Env → R Unit} {body : Env → R Fl} (Rl : Nat → S → Env → Prop) (step : S → D → S) : ∀ {xs : List D} {i : Nat} {s : S} {env : Env},
    (∀ j s env x, xs[j]? = some x → Rl (i + j) s env → ∃ e1 e2 f, asg x env = .ok () e1 ∧ body e1 = .ok f e2 ∧ (f = .nx ∨ f = .ct) ∧ Rl (i + j + 1) (step s x) e2) → Rl i s env → ∃ env', forLoop asg body xs env = .ok .nx env' ∧ Rl (i + xs.length) (xs.foldl step s) env'
  | [], i, s, env, _, r => ⟨env, rfl, r⟩
  | x :: xs, i, s, env, h, r => by
    obtain ⟨e1, e2, f, h1, h2, h3, h4⟩ := h 0 s env x rfl r
    obtain ⟨env', g1, g2⟩ := for_ix Rl step (xs := xs) (i := i + 1) (fun j s env y hy hr => by
      have q := h (j + 1) s env y (by simpa using hy) (by rwa [show i + (j + 1) = i + 1 + j by omega])
      rwa [show i + (j + 1) + 1 = i + 1 + j + 1 by omega] at q) h4
    refine ⟨env', ?_, by rwa [List.length_cons, show i + (xs.length + 1) = i + 1 + xs.length by omega]⟩
    unfold forLoop
    rw [h1, bind_ok, h2, bind_ok]
    rcases h3 with rfl | rfl
    · exact g1
    · exact g1
theorem atI_nat {α : Type} {xs : List α} (n : Nat) : L2.atI xs (n : Int) = xs[n]? := by
  unfold L2.atI L2.ixN
  rw [if_pos (Int.natCast_nonneg n)]
  by_cases h : n < xs.length
  · rw [if_pos (by omega)]; rfl
  · rw [if_neg (by omega), List.getElem?_eq_none (by omega)]; rfl
@[simp] theorem atI_last {α : Type} {xs : List α} : L2.atI xs (-1) = xs.getLast? := by
  unfold L2.atI L2.ixN
  rw [if_neg (by omega)]
  cases xs with
  | nil => rfl
  | cons x r =>
    rw [if_pos (by rw [List.length_cons]; omega), List.getLast?_eq_getElem?]
    show ((x :: r)[(-1 + ((x :: r).length : Int)).toNat]?) = _
    rw [show (-1 + ((x :: r).length : Int)).toNat = (x :: r).length - 1 by rw [List.length_cons]; omega]
@[simp] theorem atI_0 {α : Type} {x : α} {xs : List α} : L2.atI (x :: xs) 0 = some x := by
  have := atI_nat (xs := x :: xs) 0
  simpa using this
@[simp] theorem atI_1 {α : Type} {x y : α} {xs : List α} : L2.atI (x :: y :: xs) 1 = some y := by
  have := atI_nat (xs := x :: y :: xs) 1
  simpa using this
end DD

set_option Elab.async false
set_option linter.all false
set_option maxRecDepth 100000
set_option maxHeartbeats 1000000
namespace DD
open PySem PySem.Spec PyProof.Rows L2
section
variable {G : Glb} {io : List Nat} {elt : Ex} {tg : Tg} {it : It} {cond : Exs} {own : List Nat} {env e1 e2 : Env} {xs acc : List D}
theorem lc_eval (hit : evI G io it env = .ok xs e1) (hl : xs.length ≤ lim) (hlp : lcLoop (asgT G io tg) (evC G io cond) (ev G io elt).v own xs [] (clear e1 own) = .ok acc e2) : (ev G io (.lc elt tg it cond own)).v env = .ok (.lst true acc) (giveBack e2 e1 own) := by
  show ((evI G io it env).bind fun xs env => if xs.length ≤ lim then (lcLoop (asgT G io tg) (evC G io cond) (ev G io elt).v own xs [] (clear env own)).calm.bind fun acc env' => R.ok (D.lst true acc) (giveBack env' env own) else .bad) = _
  rw [hit, bind_ok, if_pos hl, hlp]
  rfl
theorem for_eval {b : Stms} {r : R Fl} (hit : evI G io it env = .ok xs e1) (hlp : forLoop (asgT G io tg) (evSs G io b) xs e1 = r) : evS G io (.for_ tg it b) env = r := by
  show (evI G io it env).bind _ = _
  rw [hit, bind_ok, hlp]
theorem rng_eval {es : Exs} {ds ds' : List D} (h : evA G io es env = .ok ds e1) (hr : resL e1 ds = some ds') (h2 : rng? ds' = some xs) : evI G io (.rng es) env = .ok xs e1 := by
  show ((evA G io es env).bind fun ds env => match resL env ds with | some xs => liftO (rng? xs) env | none => .bad) = _
  rw [h, bind_ok, hr]
  show liftO (rng? ds') e1 = _
  rw [h2]
  rfl
theorem lrng_eval {es : Exs} {ds ds' : List D} (h : evA G io es env = .ok ds e1) (hr : resL e1 ds = some ds') (h2 : rng? ds' = some xs) (hl : xs.length ≤ lim) : (ev G io (.lrng es)).v env = .ok (.lst true xs) e1 := by
  show ((evA G io es env).bind fun ds env => match resL env ds with | some xs => (match rng? xs with | some d => if d.length ≤ lim then R.ok (D.lst true d) env else .bad | none => .bad) | none => .bad) = _
  rw [h, bind_ok, hr]
  show (match rng? ds' with | some d => if d.length ≤ lim then R.ok (D.lst true d) e1 else .bad | none => .bad) = _
  rw [h2]
  exact if_pos hl
end
theorem rng_1 {j : Int} (h : idx j = true) : rng? [.int j] = some (rngL 0 j) := by
  show (if idx j then some (rngL 0 j) else none) = _
  rw [if_pos h]
end DD

set_option Elab.async false
set_option linter.all false
set_option maxRecDepth 100000
set_option maxHeartbeats 2000000
namespace DD
open PySem PySem.Spec PyProof.Rows L2
/-! ### defs one after the other -/
section
variable {P : Program} {w : World} {K : PySem.W.Frag} {mg : Str → Option Value} {base : Heap} {G : Glb}
def FnS (P : Program) (w : World) (K : PySem.W.Frag) (mg : Str → Option Value) (base : Heap) (G : Glb) (l : List Nat) (k : Nat) : Prop := ∀ f, l.contains f = true → ∃ g, G.fn f = some g ∧ FnM P w K mg base G f g k
theorem FnM.mono {f : Nat} {g : List D → FR} {k k' : Nat} (h : FnM P w K mg base G f g k) (q : k ≤ k') : FnM P w K mg base G f g k' := by
  obtain ⟨a, fd, ps, j, h1, h2⟩ := h.ex
  exact ⟨a, fd, ps, j, Nat.le_trans h1 q, h2⟩
theorem FnS.nil {k : Nat} : FnS P w K mg base G [] k := fun f h => by cases h
theorem FnS.add {l : List Nat} {k f : Nat} {g : List D → FR} (h : FnS P w K mg base G l k) (hf : G.fn f = some g) (m : FnM P w K mg base G f g (k + 1)) : FnS P w K mg base G (l ++ [f]) (k + 1) := fun x hx => by
  rw [List.contains_eq_mem, decide_eq_true_eq] at hx
  rcases List.mem_append.mp hx with q | q
  · obtain ⟨g', e, m'⟩ := h x (by rw [List.contains_eq_mem]; exact decide_eq_true q)
    exact ⟨g', e, m'.mono (Nat.le_succ _)⟩
  · rw [List.mem_singleton] at q
    subst q
    exact ⟨g, hf, m⟩
theorem LeM.mono {x j k k' : Nat} {d : D} (h : LeM P w K mg base G x j d k) (q : k ≤ k') : LeM P w K mg base G x j d k' := by
  obtain ⟨Cx, Dc, f, z, fd, kk, h1, h2⟩ := h.ex
  exact ⟨Cx, Dc, f, z, fd, kk, Nat.le_trans h1 q, h2⟩
theorem lawB_at {xs ys : List Str} {x : Str} (h : lawB K xs ys = true) (hx : x ∈ xs) : rsB K x = true ∧ excB K x = true ∧ ∀ y ∈ ys, isB K x y (x == y) = true := by
  unfold lawB at h
  have z := List.all_eq_true.mp h x hx
  simp only [Bool.and_eq_true] at z
  exact ⟨z.1, z.2.1, fun y hy => List.all_eq_true.mp z.2.2 y hy⟩
theorem isB_ok {x y : Str} {b : Bool} (h : isB K x y b = true) : PySem.W.kitOne K (.ref (He.ga K x)) (.ref (He.ga K y)) = some b := of_decide_eq_true h
/-- a constant of the module -/
theorem cst_int {n : Str} {i : Int} (m : ∃ t, mg n = some (.int i t)) : noPlc (.int i) = true ∧ ∃ v u, mg n = some u ∧ RelV v u ∧ ∀ F H, Rep K F H (.int i) v No := by
  obtain ⟨t, m⟩ := m
  exact ⟨rfl, .int i, _, m, ⟨t, rfl⟩, fun _ _ => rfl⟩
theorem cst_str {n z : Str} (hz : PyData.strOk z = true) (m : ∃ t, mg n = some (.str z t)) : noPlc (.str z) = true ∧ ∃ v u, mg n = some u ∧ RelV v u ∧ ∀ F H, Rep K F H (.str z) v No := by
  obtain ⟨t, m⟩ := m
  exact ⟨rfl, .str z, _, m, ⟨t, rfl⟩, fun _ _ => ⟨rfl, hz⟩⟩
/-- a def that is called on the script alone, at the end of all -/
theorem script_sp {H : Hp} {a : Addr} {ns : List Int} {g : List D → FR} (hS : SqL K H a (ns.map V.int)) (hg : g [.ext (ns.map .int)] = .ret (.bl true) []) : spF K mg G [] 1 g [.ref a] H (fun v _ => v = .bl true) (fun _ _ _ => False) := by
  have rl : ∀ ns : List Int, RepL K H H (ns.map D.int) (ns.map V.int) No := by
    intro ns
    induction ns with
    | nil => rfl
    | cons n ns ih => exact ⟨_, _, No, No, rfl, fun _ z => z, fun _ z => z, fun _ z => z.elim, rfl, ih⟩
  refine ⟨H, No, [.ext (ns.map .int)], ⟨.refl, fun _ z => z.elim, fun _ z => z.elim⟩, ⟨_, _, No, No, rfl, fun _ z => z, fun _ z => z, fun _ z => z.elim, ⟨a, _, rfl, hS, rl ns⟩, rfl⟩, rfl, ?_⟩
  rw [hg]
  intro v F' H' S' T _ _ _ _ r
  exact r
end
end DD

set_option Elab.async false
set_option linter.all false
set_option maxRecDepth 100000
set_option maxHeartbeats 1000000
namespace DD
open PySem PySem.Spec PyProof.Rows L2
/-! ### comprehensions and loops over a row of things -/
section
variable {α : Type} {G : Glb} {io : List Nat} {elt : Ex} {tg : Tg} {it : It} {cond : Exs} {own : List Nat} {env e1 e2 : Env} {l : List α} {g : α → D}
theorem lc_fmT (p : α → Bool) (f : α → D) (hit : evI G io it env = .ok (l.map g) e1) (hl : l.length ≤ lim) (h : ∀ a ∈ l, ∃ ea eb, asgT G io tg (g a) (clear e1 own) = .ok () ea ∧ evC G io cond ea = .ok (p a) eb ∧ (p a = true → ∃ ec, (ev G io elt).v eb = .ok (f a) ec ∧ noPlc (f a) = true ∧ clear ec own = clear e1 own) ∧ (p a = false → clear eb own = clear e1 own)) (hgb : giveBack (clear e1 own) e1 own = e2) : (ev G io (.lc elt tg it cond own)).v env = .ok (.lst true ((l.filter p).map f)) e2 := by
  subst hgb
  refine lc_eval hit (by rw [List.length_map]; exact hl) ?_
  have key : ∀ (l : List α) (acc : List D), (∀ a ∈ l, ∃ ea eb, asgT G io tg (g a) (clear e1 own) = .ok () ea ∧ evC G io cond ea = .ok (p a) eb ∧ (p a = true → ∃ ec, (ev G io elt).v eb = .ok (f a) ec ∧ noPlc (f a) = true ∧ clear ec own = clear e1 own) ∧ (p a = false → clear eb own = clear e1 own)) → lcLoop (asgT G io tg) (evC G io cond) (ev G io elt).v own (l.map g) acc (clear e1 own) = .ok (acc ++ (l.filter p).map f) (clear e1 own) := by
    intro l
    induction l with
    | nil => intro acc _; rw [List.filter_nil, List.map_nil, List.map_nil, List.append_nil]; rfl
    | cons a l ih =>
      intro acc h
      obtain ⟨ea, eb, h1, h2, h3, h4⟩ := h a List.mem_cons_self
      have ih := fun acc => ih acc fun y hy => h y (List.mem_cons_of_mem _ hy)
      rw [List.map_cons]
      unfold lcLoop
      rw [h1, bind_ok, h2, bind_ok]
      cases e : p a with
      | false => rw [if_neg Bool.false_ne_true, h4 e, ih, List.filter_cons, if_neg (by rw [e]; exact Bool.false_ne_true)]
      | true =>
        obtain ⟨ec, h5, h6, h7⟩ := h3 e
        rw [if_pos rfl, h5, bind_ok, if_pos h6, h7, ih, List.filter_cons, if_pos e, List.map_cons, List.append_assoc]
        rfl
  have z := key l [] h
  rwa [List.nil_append] at z
theorem lc_mapT (f : α → D) (hit : evI G io it env = .ok (l.map g) e1) (hl : l.length ≤ lim) (h : ∀ a ∈ l, ∃ ea ec, asgT G io tg (g a) (clear e1 own) = .ok () ea ∧ (ev G io elt).v ea = .ok (f a) ec ∧ noPlc (f a) = true ∧ clear ec own = clear e1 own) (hgb : giveBack (clear e1 own) e1 own = e2) : (ev G io (.lc elt tg it .nil own)).v env = .ok (.lst true (l.map f)) e2 := by
  have z := lc_fmT (elt := elt) (cond := .nil) (fun _ => true) f hit hl (fun a ha => by
    obtain ⟨ea, ec, h1, h2, h3, h4⟩ := h a ha
    exact ⟨ea, ea, h1, rfl, fun _ => ⟨ec, h2, h3, h4⟩, fun e => by cases e⟩) hgb
  rwa [show l.filter (fun _ => true) = l from List.filter_eq_self.mpr fun _ _ => rfl] at z
/-- elements that change the names -/
theorem lc_stT {S : Type} (st : S → Env) (val : S → α → D) (step : S → α → S) {s : S} (run : List α → S → List D × S) (hr0 : ∀ s, run [] s = ([], s)) (hr1 : ∀ a l s, run (a :: l) s = (val s a :: (run l (step s a)).1, (run l (step s a)).2)) (hit : evI G io it env = .ok (l.map g) e1) (hl : l.length ≤ lim) (h0 : clear e1 own = st s) (h : ∀ s, ∀ a ∈ l, ∃ ea ec, asgT G io tg (g a) (st s) = .ok () ea ∧ (ev G io elt).v ea = .ok (val s a) ec ∧ noPlc (val s a) = true ∧ clear ec own = st (step s a)) (hgb : giveBack (st (run l s).2) e1 own = e2) : (ev G io (.lc elt tg it .nil own)).v env = .ok (.lst true (run l s).1) e2 := by
  subst hgb
  refine lc_eval hit (by rw [List.length_map]; exact hl) ?_
  rw [h0]
  have key : ∀ (l : List α) (acc : List D) (s : S), (∀ s, ∀ a ∈ l, ∃ ea ec, asgT G io tg (g a) (st s) = .ok () ea ∧ (ev G io elt).v ea = .ok (val s a) ec ∧ noPlc (val s a) = true ∧ clear ec own = st (step s a)) → lcLoop (asgT G io tg) (evC G io .nil) (ev G io elt).v own (l.map g) acc (st s) = .ok (acc ++ (run l s).1) (st (run l s).2) := by
    intro l
    induction l with
    | nil => intro acc s _; rw [hr0, List.map_nil, List.append_nil]; rfl
    | cons a l ih =>
      intro acc s h
      obtain ⟨ea, ec, h1, h2, h3, h4⟩ := h s a List.mem_cons_self
      rw [List.map_cons]
      unfold lcLoop
      rw [h1, bind_ok]
      show (R.bind (.ok true ea) _) = _
      rw [bind_ok, if_pos rfl, h2, bind_ok, if_pos h3, h4, ih _ _ fun s y hy => h s y (List.mem_cons_of_mem _ hy), hr1, List.append_assoc]
      rfl
  have z := key l [] s h
  rwa [List.nil_append] at z
theorem for_T {S : Type} {asg : D → Env → R Unit} {body : Env → R Fl} (Rl : Nat → S → Env → Prop) (step : S → α → S) : ∀ {l : List α} {i : Nat} {s : S} {env : Env},
    (∀ j s env a, l[j]? = some a → Rl (i + j) s env → ∃ e1 e2, asg (g a) env = .ok () e1 ∧ body e1 = .ok .nx e2 ∧ Rl (i + j + 1) (step s a) e2) → Rl i s env → ∃ env', forLoop asg body (l.map g) env = .ok .nx env' ∧ Rl (i + l.length) (l.foldl step s) env'
  | [], i, s, env, _, r => ⟨env, rfl, r⟩
  | x :: xs, i, s, env, h, r => by
    obtain ⟨e1, e2, h1, h2, h4⟩ := h 0 s env x rfl r
    obtain ⟨env', g1, g2⟩ := for_T Rl step (l := xs) (i := i + 1) (fun j s env y hy hr => by
      have q := h (j + 1) s env y (by simpa using hy) (by rwa [show i + (j + 1) = i + 1 + j by omega])
      rwa [show i + (j + 1) + 1 = i + 1 + j + 1 by omega] at q) h4
    refine ⟨env', ?_, by rwa [List.length_cons, show i + (xs.length + 1) = i + 1 + xs.length by omega]⟩
    rw [List.map_cons]
    unfold forLoop
    rw [h1, bind_ok, h2, bind_ok]
    exact g1
theorem forS_T {S : Type} {b : Stms} (Rl : Nat → S → Env → Prop) (step : S → α → S) {s : S} (hit : evI G io it env = .ok (l.map g) e1) (h : ∀ j s env a, l[j]? = some a → Rl j s env → ∃ e1 e2, asgT G io tg (g a) env = .ok () e1 ∧ evSs G io b e1 = .ok .nx e2 ∧ Rl (j + 1) (step s a) e2) (h0 : Rl 0 s e1) : ∃ env', evS G io (.for_ tg it b) env = .ok .nx env' ∧ Rl l.length (l.foldl step s) env' := by
  obtain ⟨env', g1, g2⟩ := for_T (g := g) (asg := asgT G io tg) (body := evSs G io b) Rl step (l := l) (i := 0) (fun j s env a ha hr => by
    rw [Nat.zero_add] at hr ⊢
    exact h j s env a ha hr) h0
  rw [Nat.zero_add] at g2
  exact ⟨env', for_eval hit g1, g2⟩
theorem bin_eval {o : Bo} {a b : Ex} {x y x' y' d : D} (ha : (ev G io a).v env = .ok x e1) (hb : (ev G io b).v e1 = .ok y e2) (hx : res e2 x = some x') (hy : res e2 y = some y') (h : bop o x' y' = some d) : (ev G io (.bin o a b)).v env = .ok d e2 := by
  show ((ev G io a).v env).bind (fun x env => ((ev G io b).v env).bind fun y env => match res env x, res env y with
    | some x, some y => liftO (bop o x y) env
    | _, _ => .bad) = _
  rw [ha, bind_ok, hb, bind_ok, hx, hy]
  show liftO (bop o x' y') e2 = _
  rw [h]; rfl
theorem seq_nx {s : Stm} {r : Stms} (h : evS G io s env = .ok .nx e1) : evSs G io (.cons s r) env = evSs G io r e1 := by
  rw [evSs, h, bind_ok]
theorem seq_rt {s : Stm} {r : Stms} {d : D} (h : evS G io s env = .ok (.rt d) e1) : evSs G io (.cons s r) env = .ok (.rt d) e1 := by
  rw [evSs, h, bind_ok]
theorem seq_exc {s : Stm} {r : Stms} {x : Nat} (h : evS G io s env = .exc x e1) : evSs G io (.cons s r) env = .exc x e1 := by
  rw [evSs, h]; rfl
theorem asg_nm {i : Nat} {e : Ex} {d : D} (h : evE G io e env = .ok d e1) (hd : noPlc d = true) (hi : io.contains i = false) (hl : i < e1.length) : evS G io (.asg (.nm i) e) env = .ok .nx (e1.set i (some d)) := by
  rw [evS, h, bind_ok]
  show ((if noPlc d && !io.contains i && decide (i < e1.length) then R.ok () (e1.set i (some d)) else .bad).bind _) = _
  rw [hd, hi, decide_eq_true hl]
  rfl
theorem ret_ev {e : Ex} {d : D} (h : evE G io e env = .ok d e1) (hd : noPlc d = true) : evS G io (.ret e) env = .ok (.rt d) e1 := by
  rw [evS, h, bind_ok, if_pos hd]
theorem expr_ev {e : Ex} {d : D} (h : evE G io e env = .ok d e1) : evS G io (.expr e) env = .ok .nx e1 := by
  rw [evS, h, bind_ok]
theorem ife_ev {t : Ex} {a b : Stms} {k : Bool} (h : evT G io t env = .ok k e1) : evS G io (.ife t a b) env = if k then evSs G io a e1 else evSs G io b e1 := by
  rw [evS, h, bind_ok]
theorem run_eq {b : Stms} {n p : Nat} {ds : List D} {r : R Fl} (hp : ds.length = p) (h : evSs G io b ((handIn io 0 ds).map some ++ List.replicate (n - p) none) = r) : runDef G io b n p ds = ends io p r := by
  unfold runDef
  rw [if_pos hp, h]
theorem blt_eval1 {f : Blt} {e : Ex} {d d' v : D} (h : (ev G io e).v env = .ok d e1) (hr : res e1 d = some d') (hb : bltop f [d'] = some v) : evE G io (.blt f (.cons e .nil)) env = .ok v e1 := by
  show (((ev G io e).v env).bind fun d env => (R.ok [] env : R (List D)).bind fun ds env => .ok (d :: ds) env).bind (fun ds env => match resL env ds with
    | some xs => liftO (bltop f xs) env
    | none => .bad) = _
  rw [h, bind_ok, bind_ok, bind_ok, resL_cons, hr]
  show liftO (bltop f [d']) e1 = _
  rw [hb]; rfl
theorem blt_eval2 {f : Blt} {a b : Ex} {x y x' y' v : D} (ha : (ev G io a).v env = .ok x e1) (hb : (ev G io b).v e1 = .ok y e2) (hx : res e2 x = some x') (hy : res e2 y = some y') (hv : bltop f [x', y'] = some v) : evE G io (.blt f (.cons a (.cons b .nil))) env = .ok v e2 := by
  show (((ev G io a).v env).bind fun d env => (((ev G io b).v env).bind fun d env => (R.ok [] env : R (List D)).bind fun ds env => .ok (d :: ds) env).bind fun ds env => .ok (d :: ds) env).bind (fun ds env => match resL env ds with
    | some xs => liftO (bltop f xs) env
    | none => .bad) = _
  rw [ha, bind_ok, hb, bind_ok, bind_ok, bind_ok, bind_ok, resL_cons, resL_cons, hx, hy]
  show liftO (bltop f [x', y']) e2 = _
  rw [hv]; rfl
theorem tup2_ev {a b : Ex} {x y : D} (ha : (ev G io a).v env = .ok x e1) (hb : (ev G io b).v e1 = .ok y e2) (nx : noPlc x = true) (ny : noPlc y = true) : (ev G io (.tup (.cons a (.cons b .nil)))).v env = .ok (.tup [x, y]) e2 := by
  have hL : evL G io (.cons a (.cons b .nil)) env = .ok [x, y] e2 := by
    simp only [evL, ha, hb, bind_ok, nx, ny, if_true]
  show (evL G io (.cons a (.cons b .nil)) env).bind (fun ds env => if ds.length ≤ lim then .ok (D.tup ds) env else .bad) = _
  rw [hL, bind_ok]
  exact if_pos (show 2 ≤ lim by decide)
theorem app_ev {i : Nat} {e : Ex} {d : D} {xs ys : List D} (h : (ev G io e).v env = .ok d e1) (h0 : own1 env i = some ys) (h1 : own1 e1 i = some xs) (nd : noPlc d = true) (hl : xs.length < lim) : (ev G io (.app i e)).v env = .ok .non (e1.set i (some (.lst true (xs ++ [d])))) := by
  show (if (own1 env i).isSome then ((ev G io e).v env).bind (fun d env => match own1 env i with
    | some xs => if noPlc d && decide (xs.length < lim) then R.ok D.non (env.set i (some (.lst true (xs ++ [d])))) else .bad
    | none => .bad) else .bad) = _
  rw [h0, if_pos (show (some ys).isSome = true from rfl), h, bind_ok, h1]
  show (if noPlc d && decide (xs.length < lim) then R.ok D.non (e1.set i (some (.lst true (xs ++ [d])))) else .bad) = _
  rw [nd, decide_eq_true hl]
  rfl
/-- range(n) -/
theorem rngL_nat (n : Nat) : rngL 0 n = (List.range n).map fun (k : Nat) => D.int k := by
  unfold rngL
  rw [show ((n : Int) - 0).toNat = n by omega]
  exact List.map_congr_left fun k _ => by rw [Int.zero_add]
theorem rng_nat {n : Nat} (h : n ≤ 1000000) : rng? [.int n] = some ((List.range n).map fun (k : Nat) => D.int k) := by
  rw [rng_1 (inR_of (by omega) (by omega)), rngL_nat]
theorem cut_nat (xs : List α) (a b : Nat) : cutL xs (some (a : Int)) (some (b : Int)) = (xs.drop a).take (b - a) := by
  unfold cutL
  rw [HT.sIx_nat, HT.sIx_nat]
  by_cases h : a ≤ xs.length
  · rw [Nat.min_eq_left h]
    by_cases h2 : b ≤ xs.length
    · rw [Nat.min_eq_left h2]
    · rw [Nat.min_eq_right (by omega), List.take_of_length_le (by rw [List.length_drop]; omega), List.take_of_length_le (by rw [List.length_drop]; omega)]
  · rw [show min a xs.length = xs.length by omega, List.drop_of_length_le (Nat.le_refl _), List.drop_of_length_le (show xs.length ≤ a by omega), List.take_nil, List.take_nil]
theorem cut_from (xs : List α) (a : Nat) : cutL xs (some (a : Int)) none = xs.drop a := by
  unfold cutL
  rw [HT.sIx_none, HT.sIx_nat]
  by_cases h : a ≤ xs.length
  · rw [Nat.min_eq_left h, List.take_of_length_le (by rw [List.length_drop]; omega)]
  · rw [Nat.min_eq_right (by omega), List.drop_of_length_le (Nat.le_refl _), List.drop_of_length_le (by omega), List.take_nil]
theorem cut_to (xs : List α) (b : Nat) : cutL xs none (some (b : Int)) = xs.take b := by
  unfold cutL
  rw [HT.sIx_none, List.drop_zero, HT.sIx_nat, Nat.sub_zero]
  by_cases h : b ≤ xs.length
  · rw [Nat.min_eq_left h]
  · rw [Nat.min_eq_right (by omega), List.take_of_length_le (Nat.le_refl _), List.take_of_length_le (by omega)]
end
end DD

set_option Elab.async false
set_option linter.all false
set_option maxRecDepth 100000
set_option maxHeartbeats 1000000
namespace DD
open PySem PySem.Spec PyProof.Rows L2
/-! ### data whose text is not too long -/
mutual
theorem py_fz : ∀ d : D, d.fz.py = d.py
  | .non => rfl
  | .bl _ => rfl
  | .int _ => rfl
  | .str _ => rfl
  | .fn _ => rfl
  | .plc _ => rfl
  | .pr _ _ => rfl
  | .tup xs => by rw [D.fz, D.py, D.py, pyL_fz xs]
  | .ext xs => by rw [D.fz, D.py, D.py, pyL_fz xs]
  | .lst _ xs => by rw [D.fz, D.py, D.py, pyL_fz xs]
theorem pyL_fz : ∀ ds : List D, D.pyL (D.fzL ds) = D.pyL ds
  | [] => rfl
  | d :: ds => by rw [D.fzL, D.pyL, D.pyL, py_fz d, pyL_fz ds]
end
mutual
theorem dle_fz : ∀ (d : D) (n : Nat), dle n d = true → dle n d.fz = true
  | .non, n, _ => by cases n <;> rfl
  | .bl _, n, _ => by cases n <;> rfl
  | .int _, n, _ => by cases n <;> rfl
  | .str _, n, _ => by cases n <;> rfl
  | .fn _, n, h => h
  | .plc _, n, h => h
  | .ext xs, n, h => by cases n <;> cases h
  | .tup xs, 0, h => by cases h
  | .lst o xs, 0, h => by cases h
  | .tup xs, n + 1, h => dleL_fz xs n h
  | .lst o xs, n + 1, h => dleL_fz xs n h
theorem dleL_fz : ∀ (ds : List D) (n : Nat), dleL n ds = true → dleL n (D.fzL ds) = true
  | [], n, _ => dleL_nil n
  | d :: ds, n, h => by
    rw [dleL_cons, Bool.and_eq_true] at h
    rw [D.fzL, dleL_cons, dle_fz d n h.1, dleL_fz ds n h.2]; rfl
end
def okT (s : Str) : Bool := decide (s.cps.size ≤ 100) && (PyData.strOk (reprText s) && s.cps.toList.all fun c => decide (c < 16 ^ 8))
structure Fit (n k : Nat) (d : D) : Prop where
  dl : dle n d = true
  sh : d.py.showable = true
  lv : d.py.leavesShort 13 = true
  wt : d.py.weight ≤ k
  so : PyData.strOk d.py.shown = true
structure FitL (n k : Nat) (xs : List D) : Prop where
  dl : dleL n xs = true
  sh : PyData.showableAll (D.pyL xs) = true
  lv : PyData.leavesShortAll 13 (D.pyL xs) = true
  wt : PyData.weightAll (D.pyL xs) ≤ k
  so : ∀ t ∈ PyData.shownAll (D.pyL xs), PyData.strOk t = true
theorem strOk_iff {s : Str} : PyData.strOk s = true ↔ ∀ c ∈ s.cps.toList, c < 1114112 := by
  unfold PyData.strOk
  rw [Array.all_eq_true_iff_forall_mem]
  constructor
  · intro h c hc; simpa using h c (Array.mem_toList_iff.mp hc)
  · intro h c hc; simpa using h c (Array.mem_toList_iff.mpr hc)
theorem strOk_cat {a b : Str} (ha : PyData.strOk a = true) (hb : PyData.strOk b = true) : PyData.strOk (a ++ b) = true := by
  rw [strOk_iff] at *
  intro c hc
  rw [PyProof.Rows.mem_cps_append] at hc
  exact hc.elim (ha c) (hb c)
theorem strOk_join : ∀ {ts : List Str}, (∀ t ∈ ts, PyData.strOk t = true) → PyData.strOk (Str.join ", " ts) = true
  | [], _ => by decide +kernel
  | [x], h => h x List.mem_cons_self
  | x :: y :: r, h => by
    show PyData.strOk (x ++ ", " ++ Str.join ", " (y :: r)) = true
    exact strOk_cat (strOk_cat (h x List.mem_cons_self) (by decide +kernel)) (strOk_join fun t ht => h t (List.mem_cons_of_mem _ ht))
theorem Fit.int {n : Nat} {i : Int} (h : i.natAbs < 1000000000) : Fit n 30 (.int i) where
  dl := dle_int n i
  sh := by
    show PyData.showable (.int i) = true
    simp only [PyData.showable, decide_eq_true_eq]
    by_cases h0 : i.natAbs = 0
    · rw [h0]; decide
    · exact (Nat.log2_lt h0).mpr (Nat.lt_of_lt_of_le h (Nat.le_trans (show 1000000000 ≤ 2 ^ 30 by decide) (Nat.pow_le_pow_right (by decide) (by decide))))
  lv := by
    show PyData.leavesShort 13 (.int i) = true
    simp only [PyData.leavesShort, decide_eq_true_eq]
    exact PyData.shown_int_le (Nat.lt_of_lt_of_le h (by decide))
  wt := by
    show PyData.weight (.int i) ≤ 30
    simp only [PyData.weight]
    split
    · omega
    · rename_i h0
      have h0' : i.natAbs ≠ 0 := fun e => h0 (by rw [beq_iff_eq]; omega)
      have := (Nat.log2_lt h0' (k := 30)).mpr (Nat.lt_of_lt_of_le h (by decide))
      omega
  so := by
    show PyData.strOk (PyData.shown (.int i)) = true
    rw [strOk_iff]
    intro c hc
    rw [PyData.shown_int] at hc
    by_cases q : c < 1114112
    · exact q
    · exact (PyProof.Rows.int_text_free' c ⟨by omega, .inr (by omega)⟩ i hc).elim
theorem Fit.str {n : Nat} {s : Str} (h : okT s = true) : Fit n 100 (.str s) := by
  unfold okT at h
  rw [Bool.and_eq_true, Bool.and_eq_true, decide_eq_true_eq] at h
  exact ⟨dle_str n s, rfl, by show PyData.leavesShort 13 (.str s) = true; simp only [PyData.leavesShort]; exact h.2.2, by show PyData.weight (.str s) ≤ 100; simp only [PyData.weight]; exact h.1, by show PyData.strOk (PyData.shown (.str s)) = true; rw [PyData.shown_str]; exact h.2.1⟩
theorem Fit.bl {n : Nat} {b : Bool} : Fit n 0 (.bl b) := ⟨dle_bl n b, rfl, rfl, Nat.le_refl _, by cases b <;> decide +kernel⟩
theorem Fit.non {n : Nat} : Fit n 0 .non := ⟨dle_non n, rfl, rfl, Nat.le_refl _, by decide +kernel⟩
theorem FitL.nil {n : Nat} : FitL n 0 [] := ⟨dleL_nil n, rfl, rfl, Nat.le_refl _, fun t h => by simp [D.pyL, PyData.shownAll] at h⟩
theorem FitL.cons {n k m : Nat} {x : D} {xs : List D} (a : Fit n k x) (b : FitL n m xs) : FitL n (k + 1 + m) (x :: xs) where
  dl := by rw [dleL_cons, a.dl, b.dl]; rfl
  sh := by rw [D.pyL, PyData.showableAll, a.sh, b.sh]; rfl
  lv := by rw [D.pyL, PyData.leavesShortAll, a.lv, b.lv]; rfl
  wt := by
    rw [D.pyL, PyData.weightAll]
    have := a.wt; have := b.wt; omega
  so := fun t h => by
    rw [D.pyL, PyData.shownAll_cons] at h
    rcases List.mem_cons.mp h with rfl | h
    · exact a.so
    · exact b.so t h
theorem FitL.app {n k m : Nat} : ∀ {xs ys : List D}, FitL n k xs → FitL n m ys → FitL n (k + m) (xs ++ ys)
  | [], ys, a, b => ⟨b.dl, b.sh, b.lv, Nat.le_trans b.wt (Nat.le_add_left _ _), b.so⟩
  | x :: xs, ys, a, b => by
    have d := a.dl
    rw [dleL_cons, Bool.and_eq_true] at d
    have s := a.sh
    rw [D.pyL, PyData.showableAll, Bool.and_eq_true] at s
    have l := a.lv
    rw [D.pyL, PyData.leavesShortAll, Bool.and_eq_true] at l
    have w := a.wt
    rw [D.pyL, PyData.weightAll] at w
    have o := a.so
    rw [D.pyL, PyData.shownAll_cons] at o
    have t : FitL n (k - (x.py.weight + 1)) xs := ⟨d.2, s.2, l.2, by omega, fun t h => o t (List.mem_cons_of_mem _ h)⟩
    have h : Fit n x.py.weight x := ⟨d.1, s.1, l.1, Nat.le_refl _, o _ List.mem_cons_self⟩
    have z := FitL.cons h (FitL.app t b)
    exact ⟨z.dl, z.sh, z.lv, Nat.le_trans z.wt (by omega), z.so⟩
theorem FitL.mono {n k m : Nat} {xs : List D} (a : FitL n k xs) (h : k ≤ m) : FitL n m xs := ⟨a.dl, a.sh, a.lv, Nat.le_trans a.wt h, a.so⟩
theorem Fit.mono {n k m : Nat} {x : D} (a : Fit n k x) (h : k ≤ m) : Fit n m x := ⟨a.dl, a.sh, a.lv, Nat.le_trans a.wt h, a.so⟩
theorem FitL.all {n k : Nat} : ∀ {xs : List D} {m : Nat}, (∀ x ∈ xs, Fit n k x) → xs.length ≤ m → FitL n ((k + 1) * m) xs
  | [], m, _, _ => FitL.nil.mono (Nat.zero_le _)
  | x :: xs, 0, _, h => by cases h
  | x :: xs, m + 1, a, h => (FitL.cons (a x List.mem_cons_self) (FitL.all (fun y hy => a y (List.mem_cons_of_mem _ hy)) (Nat.le_of_succ_le_succ h))).mono (by rw [Nat.mul_succ]; omega)
theorem Fit.tup {n k : Nat} {xs : List D} (a : FitL n k xs) : Fit (n + 1) k (.tup xs) where
  dl := a.dl
  sh := by show PyData.showable (.tuple (D.pyL xs)) = true; simp only [PyData.showable]; exact a.sh
  lv := by show PyData.leavesShort 13 (.tuple (D.pyL xs)) = true; simp only [PyData.leavesShort]; exact a.lv
  wt := by show PyData.weight (.tuple (D.pyL xs)) ≤ k; simp only [PyData.weight]; exact a.wt
  so := by
    show PyData.strOk (PyData.shown (.tuple (D.pyL xs))) = true
    rw [PyData.shown_tuple]
    refine strOk_cat (strOk_cat (by decide +kernel) (strOk_join a.so)) ?_
    split <;> decide +kernel
theorem Fit.lst {n k : Nat} {o : Bool} {xs : List D} (a : FitL n k xs) : Fit (n + 1) k (.lst o xs) where
  dl := a.dl
  sh := by show PyData.showable (.list (D.pyL xs)) = true; simp only [PyData.showable]; exact a.sh
  lv := by show PyData.leavesShort 13 (.list (D.pyL xs)) = true; simp only [PyData.leavesShort]; exact a.lv
  wt := by show PyData.weight (.list (D.pyL xs)) ≤ k; simp only [PyData.weight]; exact a.wt
  so := by
    show PyData.strOk (PyData.shown (.list (D.pyL xs))) = true
    rw [PyData.shown_list]
    exact strOk_cat (strOk_cat (by decide +kernel) (strOk_join a.so)) (by decide +kernel)
theorem dle_up : ∀ (n m : Nat) (d : D), dle n d = true → n ≤ m → dle m d = true := by
  have key : ∀ n m, n ≤ m → (∀ d, dle n d = true → dle m d = true) ∧ (∀ ds, dleL n ds = true → dleL m ds = true) := by
    intro n
    induction n with
    | zero =>
      intro m h
      have a : ∀ d, dle 0 d = true → dle m d = true := by
        intro d h
        cases d <;> first | (cases h; done) | (cases m <;> rfl)
      refine ⟨a, fun ds => ?_⟩
      induction ds with
      | nil => intro _; exact dleL_nil _
      | cons d ds ih =>
        intro h
        rw [dleL_cons, Bool.and_eq_true] at h
        rw [dleL_cons, a d h.1, ih h.2]; rfl
    | succ n ihn =>
      intro m h
      obtain ⟨m, rfl⟩ : ∃ k, m = k + 1 := ⟨m - 1, by omega⟩
      obtain ⟨i1, i2⟩ := ihn m (by omega)
      have a : ∀ d, dle (n + 1) d = true → dle (m + 1) d = true := by
        intro d h
        cases d <;> first | rfl | (cases h; done) | exact i2 _ h
      refine ⟨a, fun ds => ?_⟩
      induction ds with
      | nil => intro _; exact dleL_nil _
      | cons d ds ih =>
        intro h
        rw [dleL_cons, Bool.and_eq_true] at h
        rw [dleL_cons, a d h.1, ih h.2]; rfl
  intro n m d h q
  exact (key n m q).1 d h
theorem Fit.okR {n k : Nat} {d : D} (a : Fit n k d) (hn : n ≤ 60) (hk : k ≤ 1000000) : okR d = true := by
  unfold DD.okR
  have h := PyData.shown_le 13 (by decide) d.py a.lv
  have hw := a.wt
  have : (13 + 2) * d.py.weight ≤ 15 * 1000000 := Nat.mul_le_mul (by omega) (by omega)
  rw [dle_up n 60 d a.dl hn, a.sh, a.so, decide_eq_true (show d.py.shown.length ≤ lim by unfold lim; omega)]
  rfl
theorem Fit.fz {n k : Nat} {d : D} (a : Fit n k d) : Fit n k d.fz := ⟨dle_fz d n a.dl, by rw [py_fz]; exact a.sh, by rw [py_fz]; exact a.lv, by rw [py_fz]; exact a.wt, by rw [py_fz]; exact a.so⟩
end DD

set_option Elab.async false
set_option linter.all false
set_option maxRecDepth 100000
set_option maxHeartbeats 2000000
namespace DD
open PySem PySem.Spec PyProof.Rows L2
/-! ### defs that mean what their bodies do -/
section
variable (S : Nat → Bool)
mutual
def Ex.inS : Ex → Bool
  | .nop => true
  | .cst _ => true
  | .var _ => true
  | .mv _ => true
  | .plc _ => true
  | .glo _ => true
  | .bin _ a b => a.inS && b.inS
  | .neg a => a.inS
  | .fz a => a.inS
  | .cmp _ a b => a.inS && b.inS
  | .chn _ _ a b c => a.inS && (b.inS && c.inS)
  | .and es => es.inS
  | .or es => es.inS
  | .not a => a.inS
  | .ife t a b => t.inS && (a.inS && b.inS)
  | .ix a i => a.inS && i.inS
  | .sl a lo hi => a.inS && (lo.inS && hi.inS)
  | .tup es => es.inS
  | .lst es => es.inS
  | .blt _ es => es.inS
  | .lrng es => es.inS
  | .call f es => S f && es.inS
  | .lc elt tg it cond _ => elt.inS && (tg.inS && (it.inS && cond.inS))
  | .app _ e => e.inS
  | .pop _ => true
  | .ext _ e => e.inS
  | .op1 _ a => a.inS
  | .sidx _ a => a.inS
  | .dget _ k d => k.inS && d.inS
  | .callAt fs i es => fs.all S && (i.inS && es.inS)
  | .fidx _ a b => a.inS && b.inS
def Exs.inS : Exs → Bool
  | .nil => true
  | .cons e r => e.inS && r.inS
  | .star e r => e.inS && r.inS
def Tg.inS : Tg → Bool
  | .nm _ => true
  | .tup ts => ts.inS
  | .sub _ e => e.inS
def Tgs.inS : Tgs → Bool
  | .nil => true
  | .cons t r => t.inS && r.inS
def It.inS : It → Bool
  | .val e => e.inS
  | .rng es => es.inS
  | .enum e => e.inS
  | .zip a b => a.inS && b.inS
end
mutual
def Stm.inS : Stm → Bool
  | .expr e => e.inS S
  | .asg t e => t.inS S && e.inS S
  | .aug _ _ e => e.inS S
  | .ret e => e.inS S
  | .retN => true
  | .ife t a b => t.inS S && (a.inS && b.inS)
  | .whl t b => t.inS S && b.inS
  | .for_ t it b => t.inS S && (it.inS S && b.inS)
  | .brk => true
  | .cnt => true
  | .pss => true
  | .raise _ => true
  | .tryL b _ _ => b.inS
  | .tryC b _ => b.inS
def Stms.inS : Stms → Bool
  | .nil => true
  | .fgt _ r => r.inS
  | .cons s r => s.inS && r.inS
end
end
/-- the same but for the defs not in S -/
structure Glb.Like (S : Nat → Bool) (G G' : Glb) : Prop where
  fn : ∀ f, S f = true → G.fn f = G'.fn f
  io : G.io = G'.io
  cst : G.cst = G'.cst
  le : G.le = G'.le
  sub : G.sub = G'.sub
section
variable {S : Nat → Bool} {G G' : Glb} (L : Glb.Like S G G') (io : List Nat)
include L
theorem callTo_like {f : Nat} (h : S f = true) : callTo G f = callTo G' f := by
  funext ds env
  unfold callTo
  rw [L.fn f h, L.io]
mutual
theorem ev_like : ∀ e : Ex, e.inS S = true → ev G io e = ev G' io e
  | .nop, _ => rfl
  | .cst _, _ => rfl
  | .var _, _ => rfl
  | .mv _, _ => rfl
  | .plc _, _ => rfl
  | .glo _, _ => by rw [ev, ev, L.cst]
  | .bin _ a b, h => by
    rw [Ex.inS, Bool.and_eq_true] at h
    rw [ev, ev, ev_like a h.1, ev_like b h.2]
  | .neg a, h => by rw [ev, ev, ev_like a h]
  | .fz a, h => by rw [ev, ev, ev_like a h]
  | .cmp _ a b, h => by
    rw [Ex.inS, Bool.and_eq_true] at h
    rw [ev, ev, ev_like a h.1, ev_like b h.2]
  | .chn _ _ a b c, h => by
    rw [Ex.inS, Bool.and_eq_true, Bool.and_eq_true] at h
    rw [ev, ev, ev_like a h.1, ev_like b h.2.1, ev_like c h.2.2]
  | .and es, h => by rw [ev, ev, and_like es h, andT_like es h]
  | .or es, h => by rw [ev, ev, or_like es h, orT_like es h]
  | .not a, h => by rw [ev, ev, ev_like a h]
  | .ife t a b, h => by
    rw [Ex.inS, Bool.and_eq_true, Bool.and_eq_true] at h
    rw [ev, ev, ev_like t h.1, ev_like a h.2.1, ev_like b h.2.2]
  | .ix a i, h => by
    rw [Ex.inS, Bool.and_eq_true] at h
    rw [ev, ev, ev_like a h.1, ev_like i h.2]
  | .sl a lo hi, h => by
    rw [Ex.inS, Bool.and_eq_true, Bool.and_eq_true] at h
    rw [ev, ev, ev_like a h.1, ev_like lo h.2.1, ev_like hi h.2.2]
  | .tup es, h => by rw [ev, ev, L_like es h]
  | .lst es, h => by rw [ev, ev, L_like es h]
  | .blt _ es, h => by rw [ev, ev, A_like es h]
  | .lrng es, h => by rw [ev, ev, A_like es h]
  | .call f es, h => by
    rw [Ex.inS, Bool.and_eq_true] at h
    rw [ev, ev, A_like es h.2, callTo_like L h.1]
  | .lc elt tg it cond _, h => by
    rw [Ex.inS, Bool.and_eq_true, Bool.and_eq_true, Bool.and_eq_true] at h
    rw [ev, ev, ev_like elt h.1, asg_like tg h.2.1, I_like it h.2.2.1, C_like cond h.2.2.2]
  | .app _ e, h => by rw [ev, ev, ev_like e h]
  | .pop _, _ => rfl
  | .ext _ e, h => by rw [ev, ev, ev_like e h]
  | .op1 _ a, h => by rw [ev, ev, ev_like a h]
  | .sidx _ a, h => by rw [ev, ev, ev_like a h]
  | .dget _ k d, h => by
    rw [Ex.inS, Bool.and_eq_true] at h
    rw [ev, ev, ev_like k h.1, ev_like d h.2, L.cst]
  | .callAt fs i es, h => by
    rw [Ex.inS, Bool.and_eq_true, Bool.and_eq_true] at h
    rw [ev, ev, ev_like i h.2.1, A_like es h.2.2]
    congr 1
    funext env
    congr 1
    funext x env
    split
    · split
      · rename_i f q
        have hf : f ∈ fs := by
          unfold L2.atI at q
          obtain ⟨n, _, q⟩ := Option.bind_eq_some_iff.mp q
          exact List.mem_of_getElem? q
        rw [callTo_like L (List.all_eq_true.mp h.1 f hf)]
      · rfl
    · rfl
  | .fidx t a b, h => by
    rw [Ex.inS, Bool.and_eq_true] at h
    rw [ev, ev, ev_like a h.1, ev_like b h.2]
theorem and_like : ∀ es : Exs, es.inS S = true → evAnd G io es = evAnd G' io es
  | .nil, _ => rfl
  | .star _ _, _ => rfl
  | .cons e r, h => by
    rw [Exs.inS, Bool.and_eq_true] at h
    rw [evAnd, evAnd, ev_like e h.1, and_like r h.2]
theorem or_like : ∀ es : Exs, es.inS S = true → evOr G io es = evOr G' io es
  | .nil, _ => rfl
  | .star _ _, _ => rfl
  | .cons e r, h => by
    rw [Exs.inS, Bool.and_eq_true] at h
    rw [evOr, evOr, ev_like e h.1, or_like r h.2]
theorem andT_like : ∀ es : Exs, es.inS S = true → evAndT G io es = evAndT G' io es
  | .nil, _ => rfl
  | .star _ _, _ => rfl
  | .cons e r, h => by
    rw [Exs.inS, Bool.and_eq_true] at h
    rw [evAndT, evAndT, ev_like e h.1, andT_like r h.2]
theorem orT_like : ∀ es : Exs, es.inS S = true → evOrT G io es = evOrT G' io es
  | .nil, _ => rfl
  | .star _ _, _ => rfl
  | .cons e r, h => by
    rw [Exs.inS, Bool.and_eq_true] at h
    rw [evOrT, evOrT, ev_like e h.1, orT_like r h.2]
theorem L_like : ∀ es : Exs, es.inS S = true → evL G io es = evL G' io es
  | .nil, _ => by rw [evL, evL]
  | .star e r, h => by
    rw [Exs.inS, Bool.and_eq_true] at h
    rw [evL, evL, ev_like e h.1, L_like r h.2]
  | .cons e r, h => by
    rw [Exs.inS, Bool.and_eq_true] at h
    rw [evL, evL, ev_like e h.1, L_like r h.2]
theorem A_like : ∀ es : Exs, es.inS S = true → evA G io es = evA G' io es
  | .nil, _ => by rw [evA, evA]
  | .star _ _, _ => by rw [evA, evA]
  | .cons e r, h => by
    rw [Exs.inS, Bool.and_eq_true] at h
    rw [evA, evA, ev_like e h.1, A_like r h.2]
theorem C_like : ∀ es : Exs, es.inS S = true → evC G io es = evC G' io es
  | .nil, _ => by rw [evC, evC]
  | .star _ _, _ => by rw [evC, evC]
  | .cons e r, h => by
    rw [Exs.inS, Bool.and_eq_true] at h
    rw [evC, evC, ev_like e h.1]
theorem asg_like : ∀ t : Tg, t.inS S = true → asgT G io t = asgT G' io t
  | .nm _, _ => rfl
  | .tup ts, h => by rw [asgT, asgT, asgs_like ts h]
  | .sub _ e, h => by rw [asgT, asgT, ev_like e h]
theorem asgs_like : ∀ ts : Tgs, ts.inS S = true → asgTs G io ts = asgTs G' io ts
  | .nil, _ => by rw [asgTs, asgTs]
  | .cons t r, h => by
    rw [Tgs.inS, Bool.and_eq_true] at h
    rw [asgTs, asgTs, asg_like t h.1, asgs_like r h.2]
theorem I_like : ∀ it : It, it.inS S = true → evI G io it = evI G' io it
  | .val e, h => by rw [evI, evI, ev_like e h]
  | .rng es, h => by rw [evI, evI, A_like es h]
  | .enum e, h => by rw [evI, evI, ev_like e h]
  | .zip a b, h => by
    rw [It.inS, Bool.and_eq_true] at h
    rw [evI, evI, ev_like a h.1, ev_like b h.2]
end
mutual
theorem S_like : ∀ s : Stm, s.inS S = true → evS G io s = evS G' io s
  | .expr e, h => by funext env; rw [evS, evS, evE, evE, ev_like L io e h]
  | .asg t e, h => by
    rw [Stm.inS, Bool.and_eq_true] at h
    funext env; rw [evS, evS, evE, evE, ev_like L io e h.2, asg_like L io t h.1]
  | .aug _ _ e, h => by funext env; rw [evS, evS]; unfold evE; rw [ev_like L io e h]
  | .ret e, h => by funext env; rw [evS, evS, evE, evE, ev_like L io e h]
  | .retN, _ => by funext env; rw [evS, evS]
  | .ife t a b, h => by
    rw [Stm.inS, Bool.and_eq_true, Bool.and_eq_true] at h
    funext env; rw [evS, evS, evT, evT, ev_like L io t h.1, Ss_like a h.2.1, Ss_like b h.2.2]
  | .whl t b, h => by
    rw [Stm.inS, Bool.and_eq_true] at h
    funext env; rw [evS, evS]; unfold evT; rw [ev_like L io t h.1, Ss_like b h.2]
  | .for_ t it b, h => by
    rw [Stm.inS, Bool.and_eq_true, Bool.and_eq_true] at h
    funext env; rw [evS, evS, asg_like L io t h.1, I_like L io it h.2.1, Ss_like b h.2.2]
  | .brk, _ => by funext env; rw [evS, evS]
  | .cnt, _ => by funext env; rw [evS, evS]
  | .pss, _ => by funext env; rw [evS, evS]
  | .raise _, _ => by funext env; rw [evS, evS]
  | .tryL b _ _, h => by funext env; rw [evS, evS, Ss_like b h, L.le]
  | .tryC b _, h => by funext env; rw [evS, evS, Ss_like b h, L.sub]
theorem Ss_like : ∀ s : Stms, s.inS S = true → evSs G io s = evSs G' io s
  | .nil, _ => by funext env; rw [evSs, evSs]
  | .fgt own r, h => by
    funext env; rw [evSs, evSs, Ss_like r h]
  | .cons s r, h => by
    rw [Stms.inS, Bool.and_eq_true] at h
    funext env; rw [evSs, evSs, S_like s h.1, Ss_like r h.2]
end
theorem runDef_like {b : Stms} {n p : Nat} (h : b.inS S = true) : runDef G io b n p = runDef G' io b n p := by
  funext ds
  unfold runDef
  rw [Ss_like L io b h]
end
/-- a def's body, how many slots, how many parameters, and its number -/
structure Df where
  f : Nat
  b : Stms
  n : Nat
  p : Nat
def Glb.add (G : Glb) (d : Df) : Glb := { G with fn := fun f => if f = d.f then some (runDef G (G.io d.f) d.b d.n d.p) else G.fn f }
def Glb.adds : Glb → List Df → Glb
  | G, [] => G
  | G, d :: ds => (G.add d).adds ds
/-- bodies name what stands ahead of them -/
def dfsOk : List Nat → List Df → Bool
  | _, [] => true
  | l, d :: ds => !l.contains d.f && (d.b.inS (fun f => l.contains f) && dfsOk (d.f :: l) ds)
theorem adds_io : ∀ (ds : List Df) (G : Glb), (G.adds ds).io = G.io
  | [], _ => rfl
  | d :: ds, G => adds_io ds (G.add d)
theorem adds_cst : ∀ (ds : List Df) (G : Glb), (G.adds ds).cst = G.cst
  | [], _ => rfl
  | d :: ds, G => adds_cst ds (G.add d)
theorem adds_le : ∀ (ds : List Df) (G : Glb), (G.adds ds).le = G.le
  | [], _ => rfl
  | d :: ds, G => adds_le ds (G.add d)
theorem adds_sub : ∀ (ds : List Df) (G : Glb), (G.adds ds).sub = G.sub
  | [], _ => rfl
  | d :: ds, G => adds_sub ds (G.add d)
theorem adds_nm : ∀ (ds : List Df) (G : Glb), (G.adds ds).nm = G.nm
  | [], _ => rfl
  | d :: ds, G => adds_nm ds (G.add d)
theorem adds_old : ∀ (ds : List Df) (l : List Nat) (G : Glb), dfsOk l ds = true → ∀ f, l.contains f = true → (G.adds ds).fn f = G.fn f
  | [], _, _, _, _, _ => rfl
  | d :: ds, l, G, h, f, hf => by
    unfold dfsOk at h
    rw [Bool.and_eq_true, Bool.and_eq_true] at h
    rw [Glb.adds, adds_old ds (d.f :: l) (G.add d) h.2.2 f (by
      rw [List.contains_cons, hf, Bool.or_true])]
    show (if f = d.f then _ else G.fn f) = G.fn f
    refine if_neg fun e => ?_
    subst e
    rw [hf] at h
    exact Bool.noConfusion h.1
theorem adds_fn : ∀ (ds : List Df) (l : List Nat) (G : Glb), dfsOk l ds = true → ∀ d ∈ ds, (G.adds ds).fn d.f = some (runDef (G.adds ds) (G.io d.f) d.b d.n d.p)
  | d :: ds, l, G, h, x, hx => by
    have h0 := h
    unfold dfsOk at h
    rw [Bool.and_eq_true, Bool.and_eq_true] at h
    rcases List.mem_cons.mp hx with rfl | hx
    · have e : (G.adds (x :: ds)).fn x.f = (G.add x).fn x.f := adds_old ds (x.f :: l) (G.add x) h.2.2 x.f (by rw [List.contains_cons, beq_self_eq_true, Bool.true_or])
      rw [e]
      show (if x.f = x.f then some (runDef G (G.io x.f) x.b x.n x.p) else _) = _
      rw [if_pos rfl]
      refine congrArg some (runDef_like (S := fun f => l.contains f) ⟨fun f hf => ?_, (adds_io (x :: ds) G).symm, (adds_cst (x :: ds) G).symm, (adds_le (x :: ds) G).symm, (adds_sub (x :: ds) G).symm⟩ _ h.2.1)
      exact (adds_old (x :: ds) l G h0 f hf).symm
    · exact adds_fn ds (d.f :: l) (G.add d) h.2.2 x hx
end DD

set_option Elab.async false
set_option linter.all false
set_option maxRecDepth 100000
set_option maxHeartbeats 2000000
namespace DD
open PySem PySem.Spec PyProof.Rows L2
/-! ### the evaluator, told to simp -/
section
variable {G : Glb} {io : List Nat}
@[simp] theorem ev_nop : ev G io .nop = .of fun _ => .bad := by rw [ev] <;> rfl
@[simp] theorem ev_cst {d} : ev G io (.cst d) = .of fun env => .ok d env := by rw [ev] <;> rfl
@[simp] theorem ev_var {i} : ev G io (.var i) = .of fun env => get1 env i fun d => .ok d.fz (env.set i (some d.fz)) := by rw [ev] <;> rfl
@[simp] theorem ev_mv {i} : ev G io (.mv i) = .of fun env => get1 env i fun d => .ok d (env.set i none) := by rw [ev] <;> rfl
@[simp] theorem ev_plc {i} : ev G io (.plc i) = .of fun env => get1 env i fun _ => .ok (.plc i) env := by rw [ev] <;> rfl
@[simp] theorem ev_glo {c} : ev G io (.glo c) = .of fun env => liftO (G.cst c) env := by rw [ev] <;> rfl
@[simp] theorem ev_bin {o a b} : ev G io (.bin o a b) = .of (two (ev G io a).v (ev G io b).v fun x y env => liftO (bop o x y) env) := by rw [ev] <;> rfl
@[simp] theorem ev_neg {a} : ev G io (.neg a) = .of fun env => ((ev G io a).v env).bind fun x env => match res env x with
    | some (.int i) => .ok (.int (-i)) env
    | _ => .bad := by rw [ev] <;> rfl
@[simp] theorem ev_fz {a} : ev G io (.fz a) = .of fun env => ((ev G io a).v env).bind fun d env => if noPlc d then .ok d.fz env else .bad := by rw [ev] <;> rfl
@[simp] theorem ev_cmp {o a b} : ev G io (.cmp o a b) = ⟨two (ev G io a).v (ev G io b).v fun x y env => liftO ((cop o x y).map .bl) env, two (ev G io a).v (ev G io b).v fun x y env => liftO (cop o x y) env⟩ := by rw [ev] <;> rfl
@[simp] theorem ev_chn {o o' a b c} : ev G io (.chn o o' a b c) = ⟨chain .bl o o' (ev G io a).v (ev G io b).v (ev G io c).v, chain id o o' (ev G io a).v (ev G io b).v (ev G io c).v⟩ := by rw [ev] <;> rfl
@[simp] theorem ev_and {es} : ev G io (.and es) = ⟨evAnd G io es, evAndT G io es⟩ := by rw [ev] <;> rfl
@[simp] theorem ev_or {es} : ev G io (.or es) = ⟨evOr G io es, evOrT G io es⟩ := by rw [ev] <;> rfl
@[simp] theorem ev_not {a} : ev G io (.not a) = ⟨thT (ev G io a).v fun _ b env => .ok (.bl (!b)) env, fun env => ((ev G io a).t env).bind fun b env => .ok (!b) env⟩ := by rw [ev] <;> rfl
@[simp] theorem ev_ife {t a b} : ev G io (.ife t a b) = .of fun env => ((ev G io t).t env).bind fun k env => if k then (ev G io a).v env else (ev G io b).v env := by rw [ev] <;> rfl
@[simp] theorem ev_ix {a i} : ev G io (.ix a i) = .of (two (ev G io a).v (ev G io i).v fun x y env => liftO (ixop x y) env) := by rw [ev] <;> rfl
@[simp] theorem ev_sl {a lo hi} : ev G io (.sl a lo hi) = .of fun env => ((ev G io a).v env).bind fun x env => (partOf lo.isNop (ev G io lo).v env).bind fun l env => (partOf hi.isNop (ev G io hi).v env).bind fun h env => match res env x with
    | some x => liftO (slop x l h) env
    | none => .bad := by rw [ev] <;> rfl
@[simp] theorem ev_tup {es} : ev G io (.tup es) = .of fun env => (evL G io es env).bind fun ds env => if ds.length ≤ lim then .ok (.tup ds) env else .bad := by rw [ev] <;> rfl
@[simp] theorem ev_lst {es} : ev G io (.lst es) = .of fun env => (evL G io es env).bind fun ds env => if ds.length ≤ lim then .ok (.lst true ds) env else .bad := by rw [ev] <;> rfl
@[simp] theorem ev_blt {f es} : ev G io (.blt f es) = .of (withL (evA G io es) fun xs env => liftO (bltop f xs) env) := by rw [ev] <;> rfl
@[simp] theorem ev_lrng {es} : ev G io (.lrng es) = .of (withL (evA G io es) fun xs env => match rng? xs with | some d => if d.length ≤ lim then .ok (.lst true d) env else .bad | none => .bad) := by rw [ev] <;> rfl
@[simp] theorem ev_call {f es} : ev G io (.call f es) = .of fun env => (evA G io es env).bind fun ds env => callTo G f ds env := by rw [ev] <;> rfl
@[simp] theorem ev_lc {elt tg it cond own} : ev G io (.lc elt tg it cond own) = .of fun env => (evI G io it env).bind fun xs env =>
      if xs.length ≤ lim then (lcLoop (asgT G io tg) (evC G io cond) (ev G io elt).v own xs [] (clear env own)).calm.bind fun acc env' => .ok (.lst true acc) (giveBack env' env own) else .bad := by rw [ev] <;> rfl
@[simp] theorem ev_app {i e} : ev G io (.app i e) = .of (appTo i (ev G io e).v) := by rw [ev] <;> rfl
@[simp] theorem ev_pop {i} : ev G io (.pop i) = .of (popOf i) := by rw [ev] <;> rfl
@[simp] theorem ev_ext {i e} : ev G io (.ext i e) = .of (extTo i (ev G io e).v) := by rw [ev] <;> rfl
@[simp] theorem ev_op1 {o a} : ev G io (.op1 o a) = .of fun env => ((ev G io a).v env).bind fun x env => match res env x with
    | some x => liftO (op1? o x) env
    | none => .bad := by rw [ev] <;> rfl
@[simp] theorem ev_sidx {z a} : ev G io (.sidx z a) = .of fun env => ((ev G io a).v env).bind fun x env => match res env x with
    | some x => liftO (sidx? z x) env
    | none => .bad := by rw [ev] <;> rfl
@[simp] theorem ev_dget {kvs k d} : ev G io (.dget kvs k d) = .of fun env => match dgetKs G.cst kvs with
    | some ps => two (ev G io k).v (ev G io d).v (fun x y env => liftO (dgetAt ps x y) env) env
    | none => .bad := by rw [ev] <;> rfl
@[simp] theorem ev_callAt {fs i es} : ev G io (.callAt fs i es) = .of fun env => ((ev G io i).v env).bind fun x env => match res env x with
    | some (.int j) => (match atI fs j with | some f => (evA G io es env).bind fun ds env => callTo G f ds env | none => .bad)
    | _ => .bad := by rw [ev] <;> rfl
@[simp] theorem ev_fidx {t a b} : ev G io (.fidx t a b) = .of fun env => ((ev G io a).v env).bind fun x env => if atHand t x then ((ev G io b).v env).bind fun y env => (match res env y with
    | some y => liftO (fidx? x.fz y) env
    | none => .bad) else .bad := by rw [ev] <;> rfl
@[simp] theorem evAnd_nil {z_} : evAnd G io .nil z_ = .bad := by rw [evAnd] <;> rfl
@[simp] theorem evAnd_star {x1 x2} {z_} : evAnd G io (.star x1 x2) z_ = .bad := by rw [evAnd] <;> rfl
@[simp] theorem evAnd_cons {e r} : evAnd G io (.cons e r) = andV r.isNil (ev G io e).v (evAnd G io r) := by rw [evAnd] <;> rfl
@[simp] theorem evOr_nil {z_} : evOr G io .nil z_ = .bad := by rw [evOr] <;> rfl
@[simp] theorem evOr_star {x1 x2} {z_} : evOr G io (.star x1 x2) z_ = .bad := by rw [evOr] <;> rfl
@[simp] theorem evOr_cons {e r} : evOr G io (.cons e r) = orV r.isNil (ev G io e).v (evOr G io r) := by rw [evOr] <;> rfl
@[simp] theorem evAndT_nil {z_} : evAndT G io .nil z_ = .bad := by rw [evAndT] <;> rfl
@[simp] theorem evAndT_star {x1 x2} {z_} : evAndT G io (.star x1 x2) z_ = .bad := by rw [evAndT] <;> rfl
@[simp] theorem evAndT_cons {e r} : evAndT G io (.cons e r) = andT r.isNil (ev G io e).t (evAndT G io r) := by rw [evAndT] <;> rfl
@[simp] theorem evOrT_nil {z_} : evOrT G io .nil z_ = .bad := by rw [evOrT] <;> rfl
@[simp] theorem evOrT_star {x1 x2} {z_} : evOrT G io (.star x1 x2) z_ = .bad := by rw [evOrT] <;> rfl
@[simp] theorem evOrT_cons {e r} : evOrT G io (.cons e r) = orT r.isNil (ev G io e).t (evOrT G io r) := by rw [evOrT] <;> rfl
@[simp] theorem evL_nil {env} : evL G io .nil env = .ok [] env := by rw [evL] <;> rfl
@[simp] theorem evL_cons {e r} {env} : evL G io (.cons e r) env = ((ev G io e).v env).bind fun d env => (evL G io r env).bind fun ds env => if noPlc d then .ok (d :: ds) env else .bad := by rw [evL] <;> rfl
@[simp] theorem evL_star {e r} {env} : evL G io (.star e r) env = ((ev G io e).v env).bind fun d env => match res env d with
    | some d => (match seq? d with | some xs => if xs.all noPlc then (evL G io r env).bind fun ds env => .ok (xs ++ ds) env else .bad | none => .bad)
    | none => .bad := by rw [evL] <;> rfl
@[simp] theorem evA_nil {env} : evA G io .nil env = .ok [] env := by rw [evA] <;> rfl
@[simp] theorem evA_cons {e r} {env} : evA G io (.cons e r) env = ((ev G io e).v env).bind fun d env => (evA G io r env).bind fun ds env => .ok (d :: ds) env := by rw [evA] <;> rfl
@[simp] theorem evA_star {x1 x2} {z_} : evA G io (.star x1 x2) z_ = .bad := by rw [evA] <;> rfl
@[simp] theorem evC_nil {env} : evC G io .nil env = .ok true env := by rw [evC] <;> rfl
@[simp] theorem evC_cons {e r} {env} : evC G io (.cons e r) env = if r.isNil then (ev G io e).t env else .bad := by rw [evC] <;> rfl
@[simp] theorem evC_star {x1 x2} {z_} : evC G io (.star x1 x2) z_ = .bad := by rw [evC] <;> rfl
@[simp] theorem asgT_nm {i} : asgT G io (.nm i) = asgNm io i := by rw [asgT] <;> rfl
@[simp] theorem asgT_tup {ts} {d env} : asgT G io (.tup ts) d env = match d with
    | .tup ds => if ds.length = ts.len then asgTs G io ts ds env else .bad
    | .lst _ ds => if ds.length = ts.len then asgTs G io ts ds env else .bad
    | .pr a b => if 2 = ts.len then asgTs G io ts [a, b] env else .bad
    | _ => .bad := by rw [asgT] <;> rfl
@[simp] theorem asgT_sub {i e} : asgT G io (.sub i e) = setTo i (ev G io e).v := by rw [asgT] <;> rfl
@[simp] theorem asgTs_nil {ds env} : asgTs G io .nil ds env = match ds with
    | [] => .ok () env
    | _ => .bad := by rw [asgTs] <;> rfl
@[simp] theorem asgTs_cons {t r} {ds env} : asgTs G io (.cons t r) ds env = match ds with
    | d :: ds => (asgT G io t d env).bind fun _ env => asgTs G io r ds env
    | [] => .bad := by rw [asgTs] <;> rfl
@[simp] theorem evI_val {e} : evI G io (.val e) = itemsOf (ev G io e).v id := by rw [evI] <;> rfl
@[simp] theorem evI_rng {es} : evI G io (.rng es) = withL (evA G io es) fun xs env => liftO (rng? xs) env := by rw [evI] <;> rfl
@[simp] theorem evI_enum {e} : evI G io (.enum e) = seqOf (ev G io e).v enumL := by rw [evI] <;> rfl
@[simp] theorem evI_zip {a b} {env} : evI G io (.zip a b) env = ((ev G io a).v env).bind fun x env => ((ev G io b).v env).bind fun y env => if noPlc x && noPlc y then (match zip? x.fz y.fz with | some xs => .ok xs env | none => .bad) else .bad := by rw [evI] <;> rfl
@[simp] theorem evS_expr {e} {env : Env} : evS G io (.expr e) env = (evE G io e env).bind fun _ env => .ok .nx env := by rw [evS] <;> rfl
@[simp] theorem evS_asg {t e} {env : Env} : evS G io (.asg t e) env = (evE G io e env).bind fun d env => (asgT G io t d env).bind fun _ env => .ok .nx env := by rw [evS] <;> rfl
@[simp] theorem evS_aug {i o e} {env : Env} : evS G io (.aug i o e) env = augTo io i o (evE G io e) env := by rw [evS] <;> rfl
@[simp] theorem evS_ret {e} {env : Env} : evS G io (.ret e) env = (evE G io e env).bind fun d env => if noPlc d then .ok (.rt d) env else .bad := by rw [evS] <;> rfl
@[simp] theorem evS_retN {env : Env} : evS G io .retN env = .ok (.rt .non) env := by rw [evS] <;> rfl
@[simp] theorem evS_ife {t a b} {env : Env} : evS G io (.ife t a b) env = (evT G io t env).bind fun k env => if k then evSs G io a env else evSs G io b env := by rw [evS] <;> rfl
@[simp] theorem evS_whl {t b} {env : Env} : evS G io (.whl t b) env = whileLoop (evT G io t) (evSs G io b) fuel env := by rw [evS] <;> rfl
@[simp] theorem evS_for_ {t it b} {env : Env} : evS G io (.for_ t it b) env = (evI G io it env).bind fun xs env => forLoop (asgT G io t) (evSs G io b) xs env := by rw [evS] <;> rfl
@[simp] theorem evS_brk {env : Env} : evS G io .brk env = .ok .bk env := by rw [evS] <;> rfl
@[simp] theorem evS_cnt {env : Env} : evS G io .cnt env = .ok .ct env := by rw [evS] <;> rfl
@[simp] theorem evS_pss {env : Env} : evS G io .pss env = .ok .nx env := by rw [evS] <;> rfl
@[simp] theorem evS_raise {x} {env : Env} : evS G io (.raise x) env = .exc x env := by rw [evS] <;> rfl
@[simp] theorem evS_tryL {b x i} {env : Env} : evS G io (.tryL b x i) env = tryTo (G.le x) i (evSs G io b env) := by rw [evS] <;> rfl
@[simp] theorem evS_tryC {b hs} {env : Env} : evS G io (.tryC b hs) env = tryK G.sub hs (evSs G io b env) := by rw [evS] <;> rfl
@[simp] theorem evSs_nil {env : Env} : evSs G io .nil env = .ok .nx env := by rw [evSs] <;> rfl
@[simp] theorem evSs_fgt {own r} {env : Env} : evSs G io (.fgt own r) env = evSs G io r (clear env own) := by rw [evSs] <;> rfl
@[simp] theorem evSs_cons {s r} {env : Env} : evSs G io (.cons s r) env = (evS G io s env).bind fun f env => match f with
    | .nx => evSs G io r env
    | f => .ok f env := by rw [evSs] <;> rfl
@[simp] theorem of_v {m : Env → R D} : (Ev.of m).v = m := rfl
@[simp] theorem of_t {m : Env → R D} : (Ev.of m).t = truthOf m := rfl
end
end DD

set_option Elab.async false
set_option linter.all false
set_option maxRecDepth 100000
set_option maxHeartbeats 1000000
namespace DD
open PySem PySem.Spec PyProof.Rows L2
/-! ### forms, told to simp -/
section
variable {α β : Type} {G : Glb} {io : List Nat} {env : Env}
@[simp] theorem evE_def {e : Ex} : evE G io e env = (ev G io e).v env := rfl
@[simp] theorem evT_def {e : Ex} : evT G io e env = (ev G io e).t env := rfl
@[simp] theorem two_def {ma mb : Env → R D} {f : D → D → Env → R α} : two ma mb f env = (ma env).bind fun x env => (mb env).bind fun y env => match res env x, res env y with
  | some x, some y => f x y env
  | _, _ => .bad := rfl
@[simp] theorem withL_def {m : Env → R (List D)} {f : List D → Env → R α} : withL m f env = (m env).bind fun ds env => match resL env ds with
  | some xs => f xs env
  | none => .bad := rfl
@[simp] theorem thT_def {m : Env → R D} {k : D → Bool → Env → R β} : thT m k env = (m env).bind fun d env => match res env d with
  | some x => (match truth x with | some b => k d b env | none => .bad)
  | none => .bad := rfl
@[simp] theorem truthOf_def {m : Env → R D} : truthOf m env = thT m (fun _ b env => .ok b env) env := rfl
@[simp] theorem chain_def (ret : Bool → α) (o o' : Cm) (ma mb mc : Env → R D) (env : Env) : chain ret o o' ma mb mc env = (ma env).bind fun x env => (mb env).bind fun y env => match res env x, res env y with
    | some x', some y' => (match cop o x' y' with
      | some false => .ok (ret false) env
      | some true => (mc env).bind fun z env => match res env y, res env z with
        | some y, some z => (match cop o' y z with | some k => .ok (ret k) env | none => .bad)
        | _, _ => .bad
      | none => .bad)
    | _, _ => .bad := rfl
@[simp] theorem get1_def (i : Nat) (f : D → R D) : get1 env i f = match get env i with
  | some d => f d
  | none => .bad := rfl
@[simp] theorem andV_t (m r : Env → R D) : andV true m r = m := rfl
@[simp] theorem andV_f (m r : Env → R D) : andV false m r = thT m fun d b env => if b then r env else .ok d env := rfl
@[simp] theorem orV_t (m r : Env → R D) : orV true m r = m := rfl
@[simp] theorem orV_f (m r : Env → R D) : orV false m r = thT m fun d b env => if b then .ok d env else r env := rfl
@[simp] theorem andT_t (m r : Env → R Bool) : andT true m r env = m env := rfl
@[simp] theorem andT_f (m r : Env → R Bool) : andT false m r env = (m env).bind fun b env => if b then r env else .ok false env := rfl
@[simp] theorem orT_t (m r : Env → R Bool) : orT true m r env = m env := rfl
@[simp] theorem orT_f (m r : Env → R Bool) : orT false m r env = (m env).bind fun b env => if b then .ok true env else r env := rfl
@[simp] theorem isNil_n : Exs.nil.isNil = true := rfl
@[simp] theorem isNil_c (e : Ex) (r : Exs) : (Exs.cons e r).isNil = false := rfl
@[simp] theorem tlen_n : Tgs.nil.len = 0 := rfl
@[simp] theorem tlen_c (e : Tg) (r : Tgs) : (Tgs.cons e r).len = r.len + 1 := rfl
@[simp] theorem own1_def (i : Nat) : own1 env i = (match get env i with | some (.lst true xs) => some xs | _ => none) := rfl
@[simp] theorem appTo_def (i : Nat) (m : Env → R D) : appTo i m env = if (own1 env i).isSome then (m env).bind fun d env => match own1 env i with
    | some xs => if noPlc d && decide (xs.length < lim) then .ok .non (env.set i (some (.lst true (xs ++ [d])))) else .bad
    | none => .bad else .bad := rfl
@[simp] theorem popOf_def (i : Nat) : popOf i env = match own1 env i with
  | some xs => (match xs.getLast? with | some d => .ok d (env.set i (some (.lst true xs.dropLast))) | none => .bad)
  | none => .bad := rfl
@[simp] theorem extTo_def (i : Nat) (m : Env → R D) : extTo i m env = if (own1 env i).isSome then (m env).bind fun d env => match own1 env i, (res env d).bind extI? with
    | some xs, some ys => if xs.length + ys.length ≤ lim then .ok .non (env.set i (some (.lst true (xs ++ ys)))) else .bad
    | _, _ => .bad else .bad := rfl
@[simp] theorem extI_l (o : Bool) (ys : List D) : extI? (.lst o ys) = some ys := rfl
@[simp] theorem extI_t (ys : List D) : extI? (.tup ys) = some ys := rfl
@[simp] theorem setTo_def (i : Nat) (m : Env → R D) (d : D) : setTo i m d env = if (own1 env i).isSome then (m env).bind fun k env => match own1 env i, res env k with
  | some xs, some (.int j) => (match ixN xs.length j with
    | some n => if noPlc d then .ok () (env.set i (some (.lst true (xs.set n d)))) else .bad
    | none => .bad)
  | _, _ => .bad else .bad := rfl
@[simp] theorem augTo_def (i : Nat) (o : Bo) (m : Env → R D) : augTo io i o m env = match get env i with
  | some (.int a) => (m env).bind fun y env => match res env y with
    | some (.int b) => (match o with
      | .add => (asgNm io i (.int (a + b)) env).bind fun _ env => .ok .nx env
      | .sub => (asgNm io i (.int (a - b)) env).bind fun _ env => .ok .nx env
      | _ => .bad)
    | _ => .bad
  | _ => .bad := rfl
@[simp] theorem asgNm_def (i : Nat) (d : D) : asgNm io i d env = if noPlc d && !io.contains i && decide (i < env.length) then .ok () (env.set i (some d)) else .bad := rfl
@[simp] theorem itemsOf_def (m : Env → R D) (f : List D → List D) : itemsOf m f env = (m env).bind fun d env => if noPlc d then (match items? d.fz with | some xs => .ok (f xs) env | none => .bad) else .bad := rfl
@[simp] theorem seqOf_def (m : Env → R D) (f : List D → List D) : seqOf m f env = (m env).bind fun d env => if noPlc d then (match seq? d.fz with | some xs => .ok (f xs) env | none => .bad) else .bad := rfl
@[simp] theorem partOf_t (m : Env → R D) : partOf true m env = .ok none env := rfl
@[simp] theorem partOf_f (m : Env → R D) : partOf false m env = (m env).bind fun d env => match res env d with
  | some (.int i) => .ok (some i) env
  | _ => .bad := rfl
@[simp] theorem isNop_n : Ex.nop.isNop = true := rfl
@[simp] theorem isNop_c (d : D) : (Ex.cst d).isNop = false := rfl
@[simp] theorem isNop_p (i : Nat) : (Ex.plc i).isNop = false := rfl
@[simp] theorem isNop_b (o : Bo) (a b : Ex) : (Ex.bin o a b).isNop = false := rfl
@[simp] theorem isNop_g (a : Ex) : (Ex.neg a).isNop = false := rfl
@[simp] theorem isNop_bl (f : Blt) (a : Exs) : (Ex.blt f a).isNop = false := rfl
@[simp] theorem isNop_ca (f : Nat) (a : Exs) : (Ex.call f a).isNop = false := rfl
@[simp] theorem isNop_ix (a b : Ex) : (Ex.ix a b).isNop = false := rfl
@[simp] theorem isNop_gl (a : Nat) : (Ex.glo a).isNop = false := rfl
@[simp] theorem clear_nil : clear env [] = env := rfl
@[simp] theorem clear_cons (i : Nat) (r : List Nat) : clear env (i :: r) = (clear env r).set i none := rfl
@[simp] theorem giveBack_nil (old : Env) : giveBack env old [] = env := rfl
@[simp] theorem giveBack_cons (old : Env) (i : Nat) (r : List Nat) : giveBack env old (i :: r) = (giveBack env old r).set i (match get old i with
    | some d => if d.isFz then some d else none
    | none => none) := rfl
@[simp] theorem tryTo_ok (le : Nat → Option D) (i : Nat) (f : Fl) : tryTo le i (.ok f env) = .ok f env := rfl
@[simp] theorem tryTo_exc (le : Nat → Option D) (i k : Nat) : tryTo le i (.exc k env) = if i < env.length then (match le k with | some d => .ok (.rt d) env | none => .bad) else .bad := rfl
@[simp] theorem forLoop_nil (a : D → Env → R Unit) (b : Env → R Fl) : forLoop a b [] env = .ok .nx env := rfl
@[simp] theorem forLoop_cons (a : D → Env → R Unit) (b : Env → R Fl) (x : D) (xs : List D) : forLoop a b (x :: xs) env = (a x env).bind fun _ env => (b env).bind fun f env => match f with
    | .nx => forLoop a b xs env
    | .ct => forLoop a b xs env
    | .bk => .ok .nx env
    | .rt d => .ok (.rt d) env := by rw [forLoop] <;> rfl
@[simp] theorem tryK_ok (sub : Nat → Nat → Option Bool) (hs : List (Nat × Option Nat × D)) (f : Fl) : tryK sub hs (.ok f env) = .ok f env := rfl
@[simp] theorem tryK_exc (sub : Nat → Nat → Option Bool) (hs : List (Nat × Option Nat × D)) (k : Nat) : tryK sub hs (.exc k env) = tryH sub k env hs := rfl
@[simp] theorem tryH_nil (sub : Nat → Nat → Option Bool) (k : Nat) : tryH sub k env [] = .exc k env := rfl
@[simp] theorem tryH_asg (sub : Nat → Nat → Option Bool) (k x i : Nat) (d : D) (r : List (Nat × Option Nat × D)) : tryH sub k env ((x, some i, d) :: r) = match sub k x with
    | some true => if i < env.length then .ok .nx (env.set i (some d)) else .bad
    | some false => tryH sub k env r
    | none => .bad := rfl
@[simp] theorem tryH_ret (sub : Nat → Nat → Option Bool) (k x : Nat) (d : D) (r : List (Nat × Option Nat × D)) : tryH sub k env ((x, none, d) :: r) = match sub k x with
    | some true => .ok (.rt d) env
    | some false => tryH sub k env r
    | none => .bad := rfl
@[simp] theorem atHand_t (xs : List D) : atHand true (.tup xs) = true := rfl
@[simp] theorem atHand_l (o : Bool) (xs : List D) : atHand false (.lst o xs) = true := rfl
@[simp] theorem fidx_str (l : List Str) (z : Str) : fidx? (.tup (l.map .str)) (.str z) = (l.findIdx? fun y => decide (y = z)).map fun k => .int (k : Nat) := by
  have e : asS (l.map D.str) = some l := by
    induction l with
    | nil => rfl
    | cons x l ih => rw [List.map_cons]; show (asS (l.map .str)).map (x :: ·) = _; rw [ih]; rfl
  show (asS (l.map D.str)).bind _ = _
  rw [e]; rfl
@[simp] theorem fidx_int (o : Bool) (l : List Int) (z : Int) : fidx? (.lst o (l.map .int)) (.int z) = (l.findIdx? fun y => decide (y = z)).map fun k => .int (k : Nat) := by
  show (asI (l.map D.int)).bind _ = _
  rw [asI_ints]; rfl
@[simp] theorem fz_pr (a b : D) : (D.pr a b).fz = .pr a.fz b.fz := rfl
@[simp] theorem np_pr (a b : D) : noPlc (D.pr a b) = true := rfl
@[simp] theorem items_tup (xs : List D) : items? (.tup xs) = some xs := rfl
@[simp] theorem items_lst (o : Bool) (xs : List D) : items? (.lst o xs) = some xs := rfl
@[simp] theorem items_ext (xs : List D) : items? (.ext xs) = some xs := rfl
@[simp] theorem items_str (s : Str) : items? (.str s) = some (s.cps.toList.map fun c => .str ⟨#[c]⟩) := rfl
@[simp] theorem seq_tup (xs : List D) : seq? (.tup xs) = some xs := rfl
@[simp] theorem seq_lst (o : Bool) (xs : List D) : seq? (.lst o xs) = some xs := rfl
@[simp] theorem zip_tup (xs ys : List D) : zip? (.tup xs) (.tup ys) = some (zipL xs ys) := rfl
@[simp] theorem zip_lst (o o' : Bool) (xs ys : List D) : zip? (.lst o xs) (.lst o' ys) = some (zipL xs ys) := rfl
@[simp] theorem slop_tup (xs : List D) (l h : Option Int) : slop (.tup xs) l h = some (.tup (cutL xs l h)) := rfl
@[simp] theorem slop_lst (o : Bool) (xs : List D) (l h : Option Int) : slop (.lst o xs) l h = some (.lst true (cutL xs l h)) := rfl
@[simp] theorem handIn_nil (k : Nat) : handIn io k [] = [] := rfl
@[simp] theorem handIn_cons (k : Nat) (d : D) (ds : List D) : handIn io k (d :: ds) = (if io.contains k then d else d.fz) :: handIn io (k + 1) ds := rfl
@[simp] theorem outs_z (k : Nat) : outs? env io k 0 = some [] := rfl
@[simp] theorem outs_s (k m : Nat) : outs? env io k (m + 1) = if io.contains k then (match get env k, outs? env io (k + 1) m with
    | some d, some ds => some (d :: ds)
    | _, _ => none) else outs? env io (k + 1) m := rfl
@[simp] theorem ends_nx (p : Nat) : ends io p (.ok .nx env) = match outs? env io 0 p with | some o => .ret .non o | none => .bad := rfl
@[simp] theorem ends_rt (p : Nat) (d : D) : ends io p (.ok (.rt d) env) = match outs? env io 0 p with | some o => .ret d o | none => .bad := rfl
@[simp] theorem ends_exc (p x : Nat) : ends io p (.exc x env) = match outs? env io 0 p with | some o => .exc x o | none => .bad := rfl
@[simp] theorem ends_ite (p : Nat) (c : Prop) [Decidable c] (a b : R Fl) : ends io p (if c then a else b) = if c then ends io p a else ends io p b := by split <;> rfl
end
@[simp] theorem lim_1 : 1 ≤ lim := by decide
@[simp] theorem lim_2 : 2 ≤ lim := by decide
@[simp] theorem lim_3 : 3 ≤ lim := by decide
@[simp] theorem lim_4 : 4 ≤ lim := by decide
@[simp] theorem lim_5 : 5 ≤ lim := by decide
@[simp] theorem lim_6 : 6 ≤ lim := by decide
@[simp] theorem lim_0 : 0 ≤ lim := by decide
/-! ### how plain things are told -/
class EncF {α : Type} (f : α → D) : Prop where
  fz : ∀ a, (f a).fz = f a
  np : ∀ a, noPlc (f a) = true
  dl : ∀ a, dle 12 (f a) = true
class EqF {α : Type} [DecidableEq α] (f : α → D) : Prop where
  eq : ∀ a b, deq (f a) (f b) = decide (a = b)
section
variable {α : Type} {f : α → D} [EncF f]
@[simp] theorem fz_enc (a : α) : (f a).fz = f a := EncF.fz a
@[simp] theorem np_enc (a : α) : noPlc (f a) = true := EncF.np a
@[simp] theorem isFz_enc (a : α) : (f a).isFz = true := by rw [← EncF.fz (f := f) a]; exact fz_isFz _
theorem kids_of_isFz {d : D} (h : d.isFz = true) : kidsFz d = true := by
  cases d with
  | lst o xs =>
    have h' : (!o && D.isFzL xs) = true := h
    rw [Bool.and_eq_true] at h'
    exact h'.2
  | _ => exact h
@[simp] theorem kids_enc (a : α) : kidsFz (f a) = true := kids_of_isFz (isFz_enc a)
@[simp] theorem res_enc {env : Env} (a : α) : res env (f a) = some (f a) := by
  have h := EncF.np (f := f) a
  unfold res
  split
  · rename_i i e
    rw [e] at h; cases h
  · rw [EncF.fz]
@[simp] theorem fzL_map (xs : List α) : D.fzL (xs.map f) = xs.map f := by
  induction xs with
  | nil => rfl
  | cons x xs ih => rw [List.map_cons, fzL_cons, ih, EncF.fz]
@[simp] theorem isFzL_map (xs : List α) : D.isFzL (xs.map f) = true := by
  induction xs with
  | nil => rfl
  | cons x xs ih => rw [List.map_cons, isFzL_cons, ih, isFz_enc]; rfl
@[simp] theorem all_np (xs : List α) : (xs.map f).all noPlc = true := by
  rw [List.all_map, List.all_eq_true]
  exact fun x _ => EncF.np x
@[simp] theorem dle_enc60 (a : α) : dle 60 (f a) = true := dle_up 12 60 _ (EncF.dl a) (by decide)
@[simp] theorem dle_enc59 (a : α) : dle 59 (f a) = true := dle_up 12 59 _ (EncF.dl a) (by decide)
@[simp] theorem dle_enc58 (a : α) : dle 58 (f a) = true := dle_up 12 58 _ (EncF.dl a) (by decide)
@[simp] theorem dle_enc57 (a : α) : dle 57 (f a) = true := dle_up 12 57 _ (EncF.dl a) (by decide)
@[simp] theorem dle_enc56 (a : α) : dle 56 (f a) = true := dle_up 12 56 _ (EncF.dl a) (by decide)
theorem dleL_of {n : Nat} {xs : List D} (h : ∀ x ∈ xs, dle n x = true) : dleL n xs = true := by
  induction xs with
  | nil => exact dleL_nil n
  | cons x xs ih => rw [dleL_cons, h x List.mem_cons_self, ih fun y hy => h y (List.mem_cons_of_mem _ hy)]; rfl
theorem dleL_map {n : Nat} (hn : 12 ≤ n) (xs : List α) : dleL n (xs.map f) = true := dleL_of fun x hx => by
  obtain ⟨a, _, rfl⟩ := List.mem_map.mp hx
  exact dle_up 12 n _ (EncF.dl a) hn
@[simp] theorem dleL_60 (xs : List α) : dleL 60 (xs.map f) = true := dleL_map (by decide) xs
@[simp] theorem dleL_59 (xs : List α) : dleL 59 (xs.map f) = true := dleL_map (by decide) xs
@[simp] theorem dleL_58 (xs : List α) : dleL 58 (xs.map f) = true := dleL_map (by decide) xs
@[simp] theorem dleL_57 (xs : List α) : dleL 57 (xs.map f) = true := dleL_map (by decide) xs
@[simp] theorem dleL_56 (xs : List α) : dleL 56 (xs.map f) = true := dleL_map (by decide) xs
end
instance : EncF D.int := ⟨fun _ => rfl, fun _ => rfl, fun _ => rfl⟩
instance : EncF D.str := ⟨fun _ => rfl, fun _ => rfl, fun _ => rfl⟩
instance : EncF D.bl := ⟨fun _ => rfl, fun _ => rfl, fun _ => rfl⟩
theorem beqd {α : Type} [BEq α] [LawfulBEq α] [DecidableEq α] (a b : α) : (a == b) = decide (a = b) := by
  by_cases h : a = b
  · subst h; simp
  · simp [h]
instance : EqF D.int := ⟨fun a b => (deq_int a b).trans (beqd a b)⟩
instance : EqF D.str := ⟨fun a b => (deq_str a b).trans (beqd a b)⟩
instance : EqF D.bl := ⟨fun a b => (deq_bl a b).trans (beqd a b)⟩
section
variable {α : Type} [DecidableEq α] {f : α → D} [EqF f]
@[simp] theorem deq_enc (a b : α) : deq (f a) (f b) = decide (a = b) := EqF.eq a b
@[simp] theorem deqL_map (xs ys : List α) : deqL (xs.map f) (ys.map f) = decide (xs = ys) := by
  induction xs generalizing ys with
  | nil => cases ys <;> simp
  | cons x xs ih =>
    cases ys with
    | nil => simp
    | cons y ys => simp [ih]
@[simp] theorem any_deq (xs : List α) (a : α) : ((xs.map f).any fun y => deq y (f a)) = decide (a ∈ xs) := by
  rw [List.any_map]
  induction xs with
  | nil => simp
  | cons x xs ih =>
    rw [List.any_cons, ih]
    by_cases h : x = a
    · subst h; simp
    · simp [h, Ne.symm h]
end
section
variable {α : Type} [DecidableEq α] {f : α → D} [EqF f]
@[simp] theorem any_deqC (xs : List α) (a : α) : xs.any ((fun y => deq y (f a)) ∘ f) = decide (a ∈ xs) := by
  rw [← List.any_map, any_deq]
end
/-- pairs of texts: signs -/
abbrev Sg : Type := Str × Str
def sg (s : Sg) : D := .tup [.str s.1, .str s.2]
instance : EncF sg := ⟨fun _ => rfl, fun _ => rfl, fun _ => rfl⟩
instance : EqF sg := ⟨fun a b => by
  obtain ⟨a, c⟩ := a; obtain ⟨b, d⟩ := b
  simp [sg, Prod.ext_iff]⟩
abbrev wd (w : List Sg) : D := .tup (w.map sg)
abbrev sts (l : List Str) : D := .tup (l.map .str)
abbrev its (l : List Int) : D := .tup (l.map .int)
abbrev listI (l : List Int) : D := .lst true (l.map .int)
instance : EncF (fun w : List Sg => wd w) := ⟨fun a => by simp [wd], fun _ => rfl, fun a => by
  show dleL 11 (a.map sg) = true
  exact dleL_of fun x hx => by
    obtain ⟨s, _, rfl⟩ := List.mem_map.mp hx; rfl⟩
instance : EncF (fun w : List Str => sts w) := ⟨fun a => by simp [sts], fun _ => rfl, fun a => by
  show dleL 11 (a.map .str) = true
  exact dleL_of fun x hx => by
    obtain ⟨s, _, rfl⟩ := List.mem_map.mp hx; rfl⟩
instance : EncF (fun w : List Int => its w) := ⟨fun a => by simp [its], fun _ => rfl, fun a => by
  show dleL 11 (a.map .int) = true
  exact dleL_of fun x hx => by
    obtain ⟨s, _, rfl⟩ := List.mem_map.mp hx; rfl⟩
instance : EqF (fun w : List Sg => wd w) := ⟨fun a b => by simp [wd]⟩
instance : EqF (fun w : List Str => sts w) := ⟨fun a b => by simp [sts]⟩
instance : EqF (fun w : List Int => its w) := ⟨fun a b => by simp [its]⟩
/-! ### places, slices, rows of numbers -/
section
variable {α : Type}
@[simp] theorem atI_map {β : Type} (f : α → β) (xs : List α) (i : Int) : L2.atI (xs.map f) i = (L2.atI xs i).map f := by
  unfold L2.atI
  rw [List.length_map]
  cases L2.ixN xs.length i with
  | none => rfl
  | some n => simp
@[simp] theorem cutL_map {β : Type} (f : α → β) (xs : List α) (l h : Option Int) : cutL (xs.map f) l h = (cutL xs l h).map f := by
  unfold cutL
  rw [List.length_map, List.map_take, List.map_drop]
theorem atI_at {xs : List α} {n : Nat} (h : n < xs.length) : L2.atI xs (n : Int) = some xs[n] := by
  rw [atI_nat, List.getElem?_eq_getElem h]
theorem zipL_map {β : Type} {f : α → D} {g : β → D} (xs : List α) (ys : List β) : zipL (xs.map f) (ys.map g) = (xs.zip ys).map fun p => .pr (f p.1) (g p.2) := by
  unfold zipL
  rw [List.zip_map, List.map_map]; rfl
theorem enumL_map {f : α → D} (xs : List α) : enumL (xs.map f) = xs.zipIdx.map fun p => .pr (.int (p.2 : Nat)) (f p.1) := by
  unfold enumL
  rw [List.zipIdx_map, List.map_map]; rfl
end
/-- for over a row of things: the whole state is told -/
theorem forS_E {α S : Type} {G : Glb} {io : List Nat} {tg : Tg} {it : It} {env : Env} {l : List α} {g : α → D} {b : Stms} (st : S → Env) (Inv : Nat → S → Prop) (step : S → α → S) {s : S} (hit : evI G io it env = .ok (l.map g) (st s))
    (h : ∀ j s a, l[j]? = some a → Inv j s → (∃ e1, asgT G io tg (g a) (st s) = .ok () e1 ∧ evSs G io b e1 = .ok .nx (st (step s a))) ∧ Inv (j + 1) (step s a)) (h0 : Inv 0 s) : evS G io (.for_ tg it b) env = .ok .nx (st (l.foldl step s)) ∧ Inv l.length (l.foldl step s) := by
  obtain ⟨env', g1, rfl, g3⟩ := forS_T (g := g) (fun j s e => e = st s ∧ Inv j s) step hit (fun j s env a ha ⟨he, hr⟩ => by
    subst he
    obtain ⟨⟨e1, q1, q2⟩, q3⟩ := h j s a ha hr
    exact ⟨e1, _, q1, q2, rfl, q3⟩) ⟨rfl, h0⟩
  exact ⟨g1, g3⟩
/-- .. without more to be known -/
theorem forS_F {α S : Type} {G : Glb} {io : List Nat} {tg : Tg} {it : It} {env : Env} {l : List α} {g : α → D} {b : Stms} (st : S → Env) (step : S → α → S) {s : S} (hit : evI G io it env = .ok (l.map g) (st s))
    (h : ∀ s, ∀ a ∈ l, ∃ e1, asgT G io tg (g a) (st s) = .ok () e1 ∧ evSs G io b e1 = .ok .nx (st (step s a))) : evS G io (.for_ tg it b) env = .ok .nx (st (l.foldl step s)) :=
  (forS_E st (fun _ _ => True) step hit (fun j s a ha _ => ⟨h s a (List.mem_of_getElem? ha), trivial⟩) trivial).1
end DD

set_option Elab.async false
set_option linter.all false
set_option maxRecDepth 100000
set_option maxHeartbeats 1000000
namespace DD
open PySem PySem.Spec PyProof.Rows L2
/-! ### comprehensions and loops, by one equation a turn -/
theorem bind_inv {α β : Type} {m : R α} {f : α → Env → R β} {d : β} {e : Env} (h : m.bind f = .ok d e) : ∃ a e', m = .ok a e' ∧ f a e' = .ok d e := by
  cases m with
  | ok a e' => exact ⟨a, e', rfl, h⟩
  | exc x e' => cases h
  | bad => cases h
section
variable {α : Type} {G : Glb} {io : List Nat} {elt : Ex} {tg : Tg} {it : It} {cond : Exs} {own : List Nat} {env e1 e2 : Env} {l : List α} {g : α → D}
theorem lc_mapS (f : α → D) (hit : evI G io it env = .ok (l.map g) e1) (hl : l.length ≤ lim) (h : ∀ a ∈ l, ((asgT G io tg (g a) (clear e1 own)).bind fun _ e => ((ev G io elt).v e).bind fun d e' => .ok d (clear e' own)) = .ok (f a) (clear e1 own)) (np : ∀ a ∈ l, noPlc (f a) = true) (hgb : giveBack (clear e1 own) e1 own = e2) : (ev G io (.lc elt tg it .nil own)).v env = .ok (.lst true (l.map f)) e2 :=
  lc_mapT f hit hl (fun a ha => by
    obtain ⟨_, ea, q1, q2⟩ := bind_inv (h a ha)
    obtain ⟨d, ec, q3, q4⟩ := bind_inv q2
    have q5 := R.ok.inj q4
    obtain ⟨rfl, q6⟩ := q5
    exact ⟨ea, ec, q1, q3, np a ha, q6⟩) hgb
theorem lc_fmS (p : α → Bool) (f : α → D) (hit : evI G io it env = .ok (l.map g) e1) (hl : l.length ≤ lim) (h : ∀ a ∈ l, ((asgT G io tg (g a) (clear e1 own)).bind fun _ e => (evC G io cond e).bind fun k e => if k then ((ev G io elt).v e).bind (fun d e' => .ok (some d) (clear e' own)) else .ok none (clear e own)) = .ok (if p a then some (f a) else none) (clear e1 own)) (np : ∀ a ∈ l, noPlc (f a) = true) (hgb : giveBack (clear e1 own) e1 own = e2) : (ev G io (.lc elt tg it cond own)).v env = .ok (.lst true ((l.filter p).map f)) e2 :=
  lc_fmT p f hit hl (fun a ha => by
    obtain ⟨_, ea, q1, q2⟩ := bind_inv (h a ha)
    obtain ⟨k, eb, q3, q4⟩ := bind_inv q2
    cases k with
    | false =>
      rw [if_neg Bool.false_ne_true] at q4
      obtain ⟨q5, q6⟩ := R.ok.inj q4
      cases hp : p a with
      | true => rw [hp] at q5; cases q5
      | false => exact ⟨ea, eb, q1, q3, (fun z => by cases z), fun _ => q6⟩
    | true =>
      rw [if_pos rfl] at q4
      obtain ⟨d, ec, q5, q6⟩ := bind_inv q4
      obtain ⟨q7, q8⟩ := R.ok.inj q6
      cases hp : p a with
      | false => rw [hp] at q7; cases q7
      | true =>
        rw [hp, if_pos rfl] at q7
        cases q7
        exact ⟨ea, eb, q1, q3, (fun _ => ⟨ec, q5, np a ha, q8⟩), (fun z => by cases z)⟩) hgb
/-- elements that change the names -/
theorem lc_stS {S : Type} (st : S → Env) (val : S → α → D) (step : S → α → S) {s : S} (run : List α → S → List D × S) (hr0 : ∀ s, run [] s = ([], s)) (hr1 : ∀ a l s, run (a :: l) s = (val s a :: (run l (step s a)).1, (run l (step s a)).2)) (hit : evI G io it env = .ok (l.map g) e1) (hl : l.length ≤ lim) (h0 : clear e1 own = st s) (h : ∀ s, ∀ a ∈ l, ((asgT G io tg (g a) (st s)).bind fun _ e => ((ev G io elt).v e).bind fun d e' => .ok d (clear e' own)) = .ok (val s a) (st (step s a))) (np : ∀ s, ∀ a ∈ l, noPlc (val s a) = true) (hgb : giveBack (st (run l s).2) e1 own = e2) : (ev G io (.lc elt tg it .nil own)).v env = .ok (.lst true (run l s).1) e2 :=
  lc_stT st val step run hr0 hr1 hit hl h0 (fun s a ha => by
    obtain ⟨_, ea, q1, q2⟩ := bind_inv (h s a ha)
    obtain ⟨d, ec, q3, q4⟩ := bind_inv q2
    obtain ⟨rfl, q6⟩ := R.ok.inj q4
    exact ⟨ea, ec, q1, q3, np s a ha, q6⟩) hgb
variable {S : Type} {b : Stms}
theorem for_S (st : S → Env) (Inv : Nat → S → Prop) (step : S → α → S) {s : S} (hit : evI G io it env = .ok (l.map g) (st s)) (h : ∀ j s a, l[j]? = some a → Inv j s → ((asgT G io tg (g a) (st s)).bind fun _ e => evSs G io b e) = .ok .nx (st (step s a)) ∧ Inv (j + 1) (step s a)) (h0 : Inv 0 s) : evS G io (.for_ tg it b) env = .ok .nx (st (l.foldl step s)) ∧ Inv l.length (l.foldl step s) :=
  forS_E st Inv step hit (fun j s a ha hi => by
    obtain ⟨h1, h2⟩ := h j s a ha hi
    obtain ⟨_, ea, q1, q2⟩ := bind_inv h1
    exact ⟨⟨ea, q1, q2⟩, h2⟩) h0
theorem for_F (st : S → Env) (step : S → α → S) {s : S} (hit : evI G io it env = .ok (l.map g) (st s)) (h : ∀ s, ∀ a ∈ l, ((asgT G io tg (g a) (st s)).bind fun _ e => evSs G io b e) = .ok .nx (st (step s a))) : evS G io (.for_ tg it b) env = .ok .nx (st (l.foldl step s)) :=
  (for_S st (fun _ _ => True) step hit (fun j s a ha _ => ⟨h s a (List.mem_of_getElem? ha), trivial⟩) trivial).1
/-- a loop that ends early: r tells how a turn goes; none: on -/
theorem for_X (st : S → Env) (Inv : S → Prop) (step : S → α → S) (stop : S → α → Option (R Fl)) (run : List α → S → R Fl) (r0 : ∀ s, run [] s = .ok .nx (st s)) (r1 : ∀ a l s, run (a :: l) s = match stop s a with | none => run l (step s a) | some (.ok .bk e) => .ok .nx e | some r => r) {s : S} (hit : evI G io it env = .ok (l.map g) (st s)) (h : ∀ s, ∀ a ∈ l, Inv s → (match stop s a with | none => ((asgT G io tg (g a) (st s)).bind fun _ e => evSs G io b e) = .ok .nx (st (step s a)) ∧ Inv (step s a) | some r => ((asgT G io tg (g a) (st s)).bind fun _ e => evSs G io b e) = r ∧ (match r with | .ok .nx _ => False | .ok .ct _ => False | _ => True))) (h0 : Inv s) : evS G io (.for_ tg it b) env = run l s := by
  refine for_eval hit ?_
  have key : ∀ (l : List α) (s : S), Inv s → (∀ s, ∀ a ∈ l, Inv s → (match stop s a with | none => ((asgT G io tg (g a) (st s)).bind fun _ e => evSs G io b e) = .ok .nx (st (step s a)) ∧ Inv (step s a) | some r => ((asgT G io tg (g a) (st s)).bind fun _ e => evSs G io b e) = r ∧ (match r with | .ok .nx _ => False | .ok .ct _ => False | _ => True))) → forLoop (asgT G io tg) (evSs G io b) (l.map g) (st s) = run l s := by
    intro l
    induction l with
    | nil => intro s _ _; rw [r0]; rfl
    | cons a l ih =>
      intro s hs h
      rw [List.map_cons, r1]
      have ha := h s a List.mem_cons_self hs
      unfold forLoop
      cases e : stop s a with
      | none =>
        rw [e] at ha
        obtain ⟨_, ea, q1, q2⟩ := bind_inv ha.1
        rw [q1, bind_ok, q2, bind_ok]
        exact ih _ ha.2 fun s y hy => h s y (List.mem_cons_of_mem _ hy)
      | some r =>
        rw [e] at ha
        obtain ⟨h1, h2⟩ := ha
        cases q1 : asgT G io tg (g a) (st s) with
        | bad => rw [q1] at h1; rw [← h1]; rfl
        | exc x e1 => rw [q1] at h1; rw [← h1]; rfl
        | ok u e1 =>
          rw [q1, bind_ok] at h1
          rw [bind_ok, h1]
          cases r with
          | bad => rfl
          | exc x e2 => rfl
          | ok fl e2 => cases fl with
            | nx => exact h2.elim
            | ct => exact h2.elim
            | bk => rfl
            | rt d => rfl
  exact key l s h0 h
end
/-- a turn that ends all -/
def stops : R Fl → Prop
  | .exc _ _ => True
  | .ok (.rt _) _ => True
  | _ => False
section
variable {α : Type} {G : Glb} {io : List Nat} {tg : Tg} {it : It} {env e0 : Env} {l : List α} {g : α → D} {b : Stms}
/-- a loop that looks at each thing, and ends all at the first that is wrong -/
theorem for_chk (p : α → Bool) (hit : evI G io it env = .ok (l.map g) e0) (ok : ∀ a ∈ l, p a = true → ((asgT G io tg (g a) e0).bind fun _ e => evSs G io b e) = .ok .nx e0) (no : ∀ a ∈ l, p a = false → stops ((asgT G io tg (g a) e0).bind fun _ e => evSs G io b e)) : (l.all p = true → evS G io (.for_ tg it b) env = .ok .nx e0) ∧ (l.all p = false → ∃ a ∈ l, p a = false ∧ evS G io (.for_ tg it b) env = (asgT G io tg (g a) e0).bind fun _ e => evSs G io b e) := by
  rw [for_eval hit rfl]
  clear hit
  induction l with
  | nil => exact ⟨fun _ => rfl, fun h => by cases h⟩
  | cons a l ih =>
    obtain ⟨i1, i2⟩ := ih (fun y hy => ok y (List.mem_cons_of_mem _ hy)) fun y hy => no y (List.mem_cons_of_mem _ hy)
    rw [List.map_cons, List.all_cons]
    unfold forLoop
    cases hp : p a with
    | true =>
      obtain ⟨_, ea, q1, q2⟩ := bind_inv (ok a List.mem_cons_self hp)
      rw [q1, bind_ok, q2, bind_ok]
      exact ⟨i1, fun h => by
        obtain ⟨y, hy, h1, h2⟩ := i2 h
        exact ⟨y, List.mem_cons_of_mem _ hy, h1, h2⟩⟩
    | false =>
      refine ⟨fun h => (by cases h), fun _ => ⟨a, List.mem_cons_self, hp, ?_⟩⟩
      have := no a List.mem_cons_self hp
      cases q1 : asgT G io tg (g a) e0 with
      | bad => rfl
      | exc x e1 => rfl
      | ok u e1 =>
        rw [q1, bind_ok] at this
        rw [bind_ok, bind_ok]
        cases q2 : evSs G io b e1 with
        | bad => rfl
        | exc x e1 => rfl
        | ok fl e2 =>
          rw [q2] at this
          cases fl with
          | rt d => rfl
          | nx => exact this.elim
          | bk => exact this.elim
          | ct => exact this.elim
end
/-- a loop by what is true behind each turn; it may break off -/
theorem for_any {G : Glb} {io : List Nat} {tg : Tg} {it : It} {env e1 : Env} {l : List D} {b : Stms} (Inv : Nat → Env → Prop) (Fin : Env → Prop) (hit : evI G io it env = .ok l e1)
    (h : ∀ j x e, l[j]? = some x → Inv j e → ∃ f e', ((asgT G io tg x e).bind fun _ e => evSs G io b e) = .ok f e' ∧ ((f = .nx ∧ Inv (j + 1) e') ∨ (f = .bk ∧ Fin e'))) (hz : ∀ e, Inv l.length e → Fin e) (h0 : Inv 0 e1) : ∃ e', evS G io (.for_ tg it b) env = .ok .nx e' ∧ Fin e' := by
  rw [for_eval hit rfl]
  clear hit
  have key : ∀ (l : List D) (i : Nat) (e : Env), (∀ j x e, l[j]? = some x → Inv (i + j) e → ∃ f e', ((asgT G io tg x e).bind fun _ e => evSs G io b e) = .ok f e' ∧ ((f = .nx ∧ Inv (i + j + 1) e') ∨ (f = .bk ∧ Fin e'))) → (∀ e, Inv (i + l.length) e → Fin e) → Inv i e → ∃ e', forLoop (asgT G io tg) (evSs G io b) l e = .ok .nx e' ∧ Fin e' := by
    intro l
    induction l with
    | nil => intro i e _ hz h0; exact ⟨e, rfl, hz e h0⟩
    | cons x l ih =>
      intro i e h hz h0
      obtain ⟨f, e', q, r⟩ := h 0 x e rfl h0
      obtain ⟨_, ea, q1, q2⟩ := bind_inv q
      unfold forLoop
      rw [q1, bind_ok, q2, bind_ok]
      rcases r with ⟨rfl, r⟩ | ⟨rfl, r⟩
      · exact ih (i + 1) e' (fun j x e hx hi => by
          have := h (j + 1) x e (by simpa using hx) (by rwa [show i + (j + 1) = i + 1 + j by omega])
          rwa [show i + (j + 1) + 1 = i + 1 + j + 1 by omega] at this) (fun e he => hz e (by rwa [List.length_cons, show i + (l.length + 1) = i + 1 + l.length by omega])) r
      · exact ⟨e', rfl, r⟩
  exact key l 0 e1 (fun j x e hx hi => by
    rw [Nat.zero_add] at hi ⊢
    exact h j x e hx hi) (fun e he => hz e (by rwa [Nat.zero_add] at he)) h0
/-- a comprehension whose items are drawn: st tells the names by how many were drawn -/
theorem lc_draw {α β : Type} {G : Glb} {io : List Nat} {elt : Ex} {tg : Tg} {it : It} {own : List Nat} {env e1 : Env} {l : List α} {g : α → D} (st fin : Int → Env) (enc : β → D) (Q : β → Prop) {n0 c : Int} (hc : 0 ≤ c) (hit : evI G io it env = .ok (l.map g) e1) (hl : l.length ≤ lim) (h0 : clear e1 own = st n0)
    (h : ∀ n, n0 ≤ n → n ≤ n0 + c * l.length → ∀ a ∈ l, ∃ b n', n ≤ n' ∧ n' ≤ n + c ∧ Q b ∧ noPlc (enc b) = true ∧ ((asgT G io tg (g a) (st n)).bind fun _ e => ((ev G io elt).v e).bind fun d e' => .ok d (clear e' own)) = .ok (enc b) (st n')) (hgb : ∀ n, giveBack (st n) e1 own = fin n) :
    ∃ (bs : List β) (n' : Int), bs.length = l.length ∧ (∀ b ∈ bs, Q b) ∧ n0 ≤ n' ∧ n' ≤ n0 + c * l.length ∧ (ev G io (.lc elt tg it .nil own)).v env = .ok (.lst true (bs.map enc)) (fin n') := by
  have key : ∀ (k : List α) (acc : List D) (n : Int), (∀ a ∈ k, a ∈ l) → n0 ≤ n → n + c * k.length ≤ n0 + c * l.length → ∃ (bs : List β) (n' : Int), bs.length = k.length ∧ (∀ b ∈ bs, Q b) ∧ n ≤ n' ∧ n' ≤ n + c * k.length ∧ lcLoop (asgT G io tg) (evC G io .nil) (ev G io elt).v own (k.map g) acc (st n) = .ok (acc ++ bs.map enc) (st n') := by
    intro k
    induction k with
    | nil => intro acc n _ _ _; exact ⟨[], n, rfl, fun b hb => (by cases hb), Int.le_refl _, by simp, by rw [List.map_nil, List.map_nil, List.append_nil]; rfl⟩
    | cons a k ih =>
      intro acc n hk h1 h2
      have e0 : c * ((a :: k).length : Nat) = c * (k.length : Nat) + c := by rw [List.length_cons]; push_cast; rw [Int.mul_add, Int.mul_one]
      have e9 : 0 ≤ c * (k.length : Nat) := Int.mul_nonneg hc (Int.natCast_nonneg _)
      rw [e0] at h2
      obtain ⟨b, n1, q1, q2, q3, q4, q5⟩ := h n h1 (by omega) a (hk a List.mem_cons_self)
      obtain ⟨_, ea, r1, r2⟩ := bind_inv q5
      obtain ⟨d, ec, r3, r4⟩ := bind_inv r2
      obtain ⟨rfl, r5⟩ := R.ok.inj r4
      obtain ⟨bs, n2, s1, s2, s3, s4, s5⟩ := ih (acc ++ [enc b]) n1 (fun y hy => hk y (List.mem_cons_of_mem _ hy)) (by omega) (by omega)
      refine ⟨b :: bs, n2, by simp [s1], fun y hy => (List.mem_cons.mp hy).elim (fun z => z ▸ q3) (s2 y), by omega, by rw [e0]; omega, ?_⟩
      rw [List.map_cons]
      unfold lcLoop
      rw [r1, bind_ok]
      show (R.bind (.ok true ea) _) = _
      rw [bind_ok, if_pos rfl, r3, bind_ok, if_pos q4, r5, s5, List.map_cons, List.append_assoc]
      rfl
  obtain ⟨bs, n', h1, h2, h3, h4, h5⟩ := key l [] n0 (fun _ h => h) (Int.le_refl _) (Int.le_refl _)
  refine ⟨bs, n', h1, h2, h3, h4, ?_⟩
  rw [lc_eval hit (by rw [List.length_map]; exact hl) (by rw [h0]; exact h5), List.nil_append, hgb]
/-- .. whose items are taken or left -/
def pickB {α : Type} : List Bool → List α → List α
  | b :: bs, a :: l => if b then a :: pickB bs l else pickB bs l
  | _, _ => []
theorem pickB_sub {α : Type} : ∀ (bs : List Bool) (l : List α), (pickB bs l).Sublist l
  | [], l => by rw [pickB]; exact List.nil_sublist _; simp
  | b :: bs, [] => by rw [pickB]; exact List.Sublist.refl _; simp
  | b :: bs, a :: l => by
    rw [pickB]
    split
    · exact (pickB_sub bs l).cons_cons a
    · exact (pickB_sub bs l).cons a
theorem lc_pick {α : Type} {G : Glb} {io : List Nat} {elt : Ex} {tg : Tg} {it : It} {cond : Exs} {own : List Nat} {env e1 : Env} {l : List α} {g f : α → D} (st fin : Int → Env) {n0 c : Int} (hc : 0 ≤ c) (hit : evI G io it env = .ok (l.map g) e1) (hl : l.length ≤ lim) (h0 : clear e1 own = st n0)
    (h : ∀ n, n0 ≤ n → n ≤ n0 + c * l.length → ∀ a ∈ l, ∃ (b : Bool) (n' : Int), n ≤ n' ∧ n' ≤ n + c ∧ noPlc (f a) = true ∧ ((asgT G io tg (g a) (st n)).bind fun _ e => (evC G io cond e).bind fun k e => if k then ((ev G io elt).v e).bind (fun d e' => .ok (some d) (clear e' own)) else .ok none (clear e own)) = .ok (if b then some (f a) else none) (st n')) (hgb : ∀ n, giveBack (st n) e1 own = fin n) :
    ∃ (bs : List Bool) (n' : Int), n0 ≤ n' ∧ n' ≤ n0 + c * l.length ∧ (ev G io (.lc elt tg it cond own)).v env = .ok (.lst true ((pickB bs l).map f)) (fin n') := by
  have key : ∀ (k : List α) (acc : List D) (n : Int), (∀ a ∈ k, a ∈ l) → n0 ≤ n → n + c * k.length ≤ n0 + c * l.length → ∃ (bs : List Bool) (n' : Int), n ≤ n' ∧ n' ≤ n + c * k.length ∧ lcLoop (asgT G io tg) (evC G io cond) (ev G io elt).v own (k.map g) acc (st n) = .ok (acc ++ (pickB bs k).map f) (st n') := by
    intro k
    induction k with
    | nil => intro acc n _ _ _; exact ⟨[], n, Int.le_refl _, by simp, by rw [List.map_nil]; simp [pickB]; rfl⟩
    | cons a k ih =>
      intro acc n hk h1 h2
      have e0 : c * ((a :: k).length : Nat) = c * (k.length : Nat) + c := by rw [List.length_cons]; push_cast; rw [Int.mul_add, Int.mul_one]
      have e9 : 0 ≤ c * (k.length : Nat) := Int.mul_nonneg hc (Int.natCast_nonneg _)
      rw [e0] at h2
      obtain ⟨b, n1, q1, q2, q4, q5⟩ := h n h1 (by omega) a (hk a List.mem_cons_self)
      obtain ⟨_, ea, r1, r2⟩ := bind_inv q5
      obtain ⟨kb, eb, r3, r4⟩ := bind_inv r2
      rw [List.map_cons]
      unfold lcLoop
      cases kb with
      | false =>
        rw [if_neg Bool.false_ne_true] at r4
        obtain ⟨r5, r6⟩ := R.ok.inj r4
        cases b with
        | true => rw [if_pos rfl] at r5; cases r5
        | false =>
          obtain ⟨bs, n2, s3, s4, s5⟩ := ih acc n1 (fun y hy => hk y (List.mem_cons_of_mem _ hy)) (by omega) (by omega)
          refine ⟨false :: bs, n2, by omega, by rw [e0]; omega, ?_⟩
          rw [r1, bind_ok, r3, bind_ok, if_neg Bool.false_ne_true, r6, s5, pickB, if_neg Bool.false_ne_true]
      | true =>
        rw [if_pos rfl] at r4
        obtain ⟨d, ec, r5, r6⟩ := bind_inv r4
        obtain ⟨r7, r8⟩ := R.ok.inj r6
        cases b with
        | false => rw [if_neg Bool.false_ne_true] at r7; cases r7
        | true =>
          rw [if_pos rfl] at r7
          cases r7
          obtain ⟨bs, n2, s3, s4, s5⟩ := ih (acc ++ [f a]) n1 (fun y hy => hk y (List.mem_cons_of_mem _ hy)) (by omega) (by omega)
          refine ⟨true :: bs, n2, by omega, by rw [e0]; omega, ?_⟩
          rw [r1, bind_ok, r3, bind_ok, if_pos rfl, r5, bind_ok, if_pos q4, r8, s5, pickB, if_pos rfl, List.map_cons, List.append_assoc]
          rfl
  obtain ⟨bs, n', h3, h4, h5⟩ := key l [] n0 (fun _ h => h) (Int.le_refl _) (Int.le_refl _)
  refine ⟨bs, n', h3, h4, ?_⟩
  rw [lc_eval hit (by rw [List.length_map]; exact hl) (by rw [h0]; exact h5), List.nil_append, hgb]
theorem rng2 {i j : Int} (h : idx i = true) (h' : idx j = true) : rng? [.int i, .int j] = some (rngL i j) := by
  show (if idx i && idx j then some (rngL i j) else none) = _
  rw [h, h']; rfl
theorem rng3 {i j : Int} (h : idx i = true) (h' : idx j = true) : rng? [.int i, .int j, .int (-1)] = some (dnL i j) := by
  show (if (-1 : Int) = -1 ∧ (idx i && idx j) = true then some (dnL i j) else none) = _
  rw [h, h']; rfl
theorem small_of {i : Int} (h : -1000000000000 ≤ i) (h' : i ≤ 1000000000000) : small i = true := inR_of (by omega) (by omega)
theorem idx_of {i : Int} (h : -1000000000000 ≤ i) (h' : i ≤ 1000000000000) : idx i = true := inR_of (by omega) (by omega)
mutual
theorem fz_of : ∀ d : D, d.isFz = true → d.fz = d
  | .non, _ => rfl
  | .bl _, _ => rfl
  | .int _, _ => rfl
  | .str _, _ => rfl
  | .fn _, _ => rfl
  | .plc _, _ => rfl
  | .pr a b, h => by
    have h' : (a.isFz && b.isFz) = true := h
    rw [Bool.and_eq_true] at h'
    rw [D.fz, fz_of a h'.1, fz_of b h'.2]
  | .tup xs, h => by rw [D.fz, fzL_of xs h]
  | .ext xs, h => by rw [D.fz, fzL_of xs h]
  | .lst false xs, h => by rw [D.fz, fzL_of xs (by simpa [D.isFz] using h)]
  | .lst true xs, h => by simp [D.isFz] at h
theorem fzL_of : ∀ ds : List D, D.isFzL ds = true → D.fzL ds = ds
  | [], _ => rfl
  | d :: ds, h => by
    rw [isFzL_cons, Bool.and_eq_true] at h
    rw [fzL_cons, fz_of d h.1, fzL_of ds h.2]
end
@[simp] theorem fz_fz (d : D) : d.fz.fz = d.fz := fz_of _ (fz_isFz d)
@[simp] theorem fzL_take : ∀ (xs : List D) (n : Nat), D.fzL (xs.take n) = (D.fzL xs).take n
  | [], n => by simp
  | x :: xs, 0 => rfl
  | x :: xs, n + 1 => by rw [List.take_succ_cons, fzL_cons, fzL_cons, fzL_take xs n, List.take_succ_cons]
@[simp] theorem fzL_drop : ∀ (xs : List D) (n : Nat), D.fzL (xs.drop n) = (D.fzL xs).drop n
  | [], n => by simp
  | x :: xs, 0 => rfl
  | x :: xs, n + 1 => by rw [List.drop_succ_cons, fzL_cons, fzL_drop xs n, List.drop_succ_cons]
@[simp] theorem fzL_tail (xs : List D) : D.fzL xs.tail = (D.fzL xs).tail := by cases xs <;> rfl
section
variable {α : Type}
theorem dl_list {f : α → D} (h : ∀ a, dle 11 (f a) = true) (o : Bool) (l : List α) : dle 12 (.lst o (l.map f)) = true := dleL_of fun x hx => by
  obtain ⟨s, _, rfl⟩ := List.mem_map.mp hx
  exact h s
instance : EncF (fun l : List Int => D.lst false (l.map .int)) := ⟨fun a => by simp, fun _ => rfl, dl_list (fun _ => rfl) _⟩
instance : EncF (fun l : List Str => D.lst false (l.map .str)) := ⟨fun a => by simp, fun _ => rfl, dl_list (fun _ => rfl) _⟩
instance : EncF (fun l : List Sg => D.lst false (l.map sg)) := ⟨fun a => by simp, fun _ => rfl, dl_list (fun _ => rfl) _⟩
instance : EqF (fun l : List Int => D.lst false (l.map .int)) := ⟨fun a b => by simp⟩
instance : EqF (fun l : List Str => D.lst false (l.map .str)) := ⟨fun a b => by simp⟩
instance : EqF (fun l : List Sg => D.lst false (l.map sg)) := ⟨fun a b => by simp⟩
instance (p : α → Bool) : EncF (fun x => D.bl (p x)) := ⟨fun _ => rfl, fun _ => rfl, fun _ => rfl⟩
instance (p : α → Int) : EncF (fun x => D.int (p x)) := ⟨fun _ => rfl, fun _ => rfl, fun _ => rfl⟩
instance (p : α → Str) : EncF (fun x => D.str (p x)) := ⟨fun _ => rfl, fun _ => rfl, fun _ => rfl⟩
@[simp] theorem asB_map (p : α → Bool) (xs : List α) : asB (xs.map fun x => D.bl (p x)) = some (xs.map p) := by
  have := asB_bls (xs.map p)
  rwa [List.map_map] at this
@[simp] theorem asI_map (p : α → Int) (xs : List α) : asI (xs.map fun x => D.int (p x)) = some (xs.map p) := by
  have := asI_ints (xs.map p)
  rwa [List.map_map] at this
instance (p : α → Bool) : EncF (D.bl ∘ p) := ⟨fun _ => rfl, fun _ => rfl, fun _ => rfl⟩
instance (p : α → Int) : EncF (D.int ∘ p) := ⟨fun _ => rfl, fun _ => rfl, fun _ => rfl⟩
instance (p : α → Str) : EncF (D.str ∘ p) := ⟨fun _ => rfl, fun _ => rfl, fun _ => rfl⟩
@[simp] theorem asB_comp (p : α → Bool) (xs : List α) : asB (xs.map (D.bl ∘ p)) = some (xs.map p) := asB_map p xs
@[simp] theorem asI_comp (p : α → Int) (xs : List α) : asI (xs.map (D.int ∘ p)) = some (xs.map p) := asI_map p xs
@[simp] theorem asB_nil : asB [] = some [] := rfl
@[simp] theorem asB_cons (b : Bool) (r : List D) : asB (.bl b :: r) = (asB r).map (b :: ·) := rfl
def strLt (a b : Str) : Bool := decide (a.cps.toList < b.cps.toList)
@[simp] theorem cop_ltS (a b : Str) : cop .lt (.str a) (.str b) = some (strLt a b) := rfl
theorem zipL_tail {f : α → D} (l : List α) : zipL (l.map f) (l.map f).tail = (l.zip l.tail).map fun p => .pr (f p.1) (f p.2) := by
  rw [← List.map_tail, zipL_map]
end
/-! ### tuples in order -/
theorem dlt_nil : PySem.W.dataLt (D.tup []).py (D.tup []).py = false := by
  show PySem.W.dataLt (.tuple []) (.tuple []) = false
  rw [PySem.W.dataLt_tuple]
  rfl
theorem dlt_cons {x y : D} {xs ys : List D} (h : PySem.W.alike x.py y.py = true) : PySem.W.dataLt (D.tup (x :: xs)).py (D.tup (y :: ys)).py = if deq x y then PySem.W.dataLt (D.tup xs).py (D.tup ys).py else PySem.W.dataLt x.py y.py := by
  show PySem.W.dataLt (.tuple (x.py :: D.pyL xs)) (.tuple (y.py :: D.pyL ys)) = if deq x y then PySem.W.dataLt (.tuple (D.pyL xs)) (.tuple (D.pyL ys)) else _
  rw [PySem.W.dataLt_tuple, PySem.W.dataLt_tuple]
  cases e : deq x y with
  | true => rw [if_pos rfl]; exact PySem.W.dataLt_all_yes h e
  | false => rw [if_neg Bool.false_ne_true]; exact PySem.W.dataLt_all_no h e
def sgLt (s t : Sg) : Bool := if s.1 = t.1 then (if s.2 = t.2 then false else strLt s.2 t.2) else strLt s.1 t.1
theorem dlt_str (a b : Str) : PySem.W.dataLt (D.str a).py (D.str b).py = strLt a b := by
  show PySem.W.dataLt (.str a) (.str b) = _
  rw [PySem.W.dataLt_str]
  rfl
@[simp] theorem cop_sg (s t : Sg) : cop .lt (sg s) (sg t) = some (sgLt s t) := by
  have h1 : ∀ a b : Str, PySem.W.alike (D.str a).py (D.str b).py = true := fun a b => by simp [D.py, PySem.W.alike]
  show dlt (sg s) (sg t) = _
  unfold dlt
  have h2 : PySem.W.alike (sg s).py (sg t).py = true := by simp [sg, D.py, D.pyL, PySem.W.alike, PySem.W.alikeAll]
  rw [dle_enc60, dle_enc60, h2, if_pos (show (true && (true && true)) = true from rfl)]
  congr 1
  unfold sg
  rw [dlt_cons (h1 _ _), dlt_cons (h1 _ _), dlt_nil, dlt_str, dlt_str, deq_str, deq_str]
  unfold sgLt
  by_cases c1 : s.1 = t.1 <;> by_cases c2 : s.2 = t.2 <;> simp [c1, c2]
end DD

set_option Elab.async false
set_option linter.all false
set_option maxRecDepth 100000
set_option maxHeartbeats 0
namespace NW
open PySem PySem.Spec PyProof.Rows L2 DD
def top (i : Nat) : Stmt := PySem.Challenge.pw_nestward_k04_machines_and_traces.main.body.getD i (.Pass ⟨0, 0, 0, 0⟩)
def nms : List (Nat × Str) := ([(0, "NestError"), (1, "NotAllowed"), (2, "TooLarge"), (3, "Missing"), (4, "BadPaper"), (5, "BadForm"), (10, "MAX_LABEL"), (11, "MAX_OF_SORT"), (12, "MAX_WORD"), (14, "CALL"), (15, "STAY"), (16, "BACK"), (17, "FIRST"), (18, "LATER"), (19, "MAX_STATES"), (20, "MAX_MARKS"), (100, "is_label"), (101, "rising"), (102, "check_signs"), (103, "sorted_signs"), (104, "check_word"), (105, "check_of"), (106, "heights"), (107, "is_known_whole"), (108, "check_whole")] : List (Nat × Str)) ++ ([(115, "check_machine"), (116, "check_row"), (117, "moved"), (118, "led"), (119, "is_good"), (120, "trace"), (121, "check_trace"), (600, "_law_error"), (614, "_law_behind"), (602, "_law_next"), (601, "_law_stream"), (603, "_law_signs"), (615, "_law_machine"), (616, "_law_word"), (604, "_law_all_signs"), (617, "_law_any_word"), (607, "_law_heights"), (608, "_law_is_whole"), (618, "_law_led"), (619, "_law_good"), (606, "_law_same"), (620, "_law_odd_machine"), (609, "_law_is_label"), (610, "_law_signs_due"), (621, "_law_machine_due")] : List (Nat × Str)) ++ ([(611, "_law_told"), (622, "_law_trace"), (623, "_law_bent"), (613, "law")] : List (Nat × Str))
def gnm (i : Nat) : Str := (nms.lookup i).getD ""
def c0_is_label : Ex := .lc (.cmp .in_ (.plc 1) (.glo 18)) (.nm 1) (.val (.var 0)) .nil [1]
def b_is_label : Stms := (.cons (.ife (.or (.cons (.not (.chn .le .le (.cst (.int 1)) (.blt .len (.cons (.plc 0) .nil)) (.glo 10))) (.cons (.cmp .nin (.ix (.plc 0) (.cst (.int 0))) (.glo 17)) .nil)))
(.cons (.ret (.cst (.bl false)))
.nil)
.nil)
(.cons (.ret (.blt .all (.cons c0_is_label .nil)))
.nil))
def n_is_label : List Str := ["text", "sign"]
def d_is_label (f : Nat) : Bool := [].contains f
theorem ck_is_label : chkSs [] ⟨n_is_label, defScope (top 16), fun _ => true, gnm, d_is_label, fun x => decide (x < 5), true, false⟩ b_is_label (defBody (top 16)) = true := by decide +kernel
theorem sc_is_label : FnScope n_is_label ["text"] (defScope (top 16)) := ⟨rfl, rfl, rfl, by decide +kernel, rfl, by decide +kernel, by decide +kernel⟩
def c0_rising : Ex := .lc (.cmp .lt (.plc 1) (.plc 2)) (.tup (.cons (.nm 1) (.cons (.nm 2) .nil))) (.zip (.var 0) (.sl (.plc 0) (.cst (.int 1)) .nop)) .nil [1, 2]
def b_rising : Stms := (.cons (.ret (.blt .all (.cons c0_rising .nil)))
.nil)
def n_rising : List Str := ["row", "one", "other"]
def d_rising (f : Nat) : Bool := [100].contains f
theorem ck_rising : chkSs [] ⟨n_rising, defScope (top 17), fun _ => true, gnm, d_rising, fun x => decide (x < 5), true, false⟩ b_rising (defBody (top 17)) = true := by decide +kernel
theorem sc_rising : FnScope n_rising ["row"] (defScope (top 17)) := ⟨rfl, rfl, rfl, by decide +kernel, rfl, by decide +kernel, by decide +kernel⟩
def c0_check_signs : Ex := .lc (.call 100 (.cons (.var 2) .nil)) (.nm 2) (.val (.var 1)) .nil [2]
def b1_check_signs : Stms := (.cons (.ife (.or (.cons (.not (.call 101 (.cons (.var 1) .nil))) (.cons (.not (.blt .all (.cons c0_check_signs .nil))) .nil)))
(.cons (.raise 1)
.nil)
.nil)
(.fgt [1] .nil))
def f2_check_signs : Stm := .for_ (.nm 1) (.val (.var 0)) b1_check_signs
def c3_check_signs : Ex := .lc (.cmp .gt (.blt .len (.cons (.plc 1) .nil)) (.glo 11)) (.nm 1) (.val (.var 0)) .nil [1]
def b_check_signs : Stms := (.cons (.ife (.blt .any (.cons c3_check_signs .nil))
(.cons (.raise 2)
.nil)
.nil)
(.cons f2_check_signs
(.fgt [1] (.cons (.ret (.cst .non))
.nil))))
def n_check_signs : List Str := ["signs", "labels", "label"]
def d_check_signs (f : Nat) : Bool := [100, 101].contains f
theorem ck_check_signs : chkSs [] ⟨n_check_signs, defScope (top 18), fun _ => true, gnm, d_check_signs, fun x => decide (x < 5), true, false⟩ b_check_signs (defBody (top 18)) = true := by decide +kernel
theorem sc_check_signs : FnScope n_check_signs ["signs"] (defScope (top 18)) := ⟨rfl, rfl, rfl, by decide +kernel, rfl, by decide +kernel, by decide +kernel⟩
def c0_sorted_signs : Ex := .lc (.tup (.cons (.var 2) (.cons (.var 4) .nil))) (.nm 4) (.val (.var 3)) .nil [4]
def b1_sorted_signs : Stms := (.cons (.expr (.ext 1 c0_sorted_signs))
(.fgt [2, 3] .nil))
def f2_sorted_signs : Stm := .for_ (.tup (.cons (.nm 2) (.cons (.nm 3) .nil))) (.zip (.tup (.cons (.glo 14) (.cons (.glo 15) (.cons (.glo 16) .nil)))) (.var 0)) b1_sorted_signs
def b_sorted_signs : Stms := (.cons (.asg (.nm 1) (.lst .nil))
(.cons f2_sorted_signs
(.fgt [2, 3] (.cons (.ret (.blt .tuple (.cons (.plc 1) .nil)))
.nil))))
def n_sorted_signs : List Str := ["signs", "found", "kind", "labels", "label"]
def d_sorted_signs (f : Nat) : Bool := [100, 101, 102].contains f
theorem ck_sorted_signs : chkSs [] ⟨n_sorted_signs, defScope (top 19), fun _ => true, gnm, d_sorted_signs, fun x => decide (x < 5), true, false⟩ b_sorted_signs (defBody (top 19)) = true := by decide +kernel
theorem sc_sorted_signs : FnScope n_sorted_signs ["signs"] (defScope (top 19)) := ⟨rfl, rfl, rfl, by decide +kernel, rfl, by decide +kernel, by decide +kernel⟩
def c0_check_word : Ex := .lc (.and (.cons (.cmp .in_ (.plc 1) (.tup (.cons (.glo 14) (.cons (.glo 15) (.cons (.glo 16) .nil))))) (.cons (.call 100 (.cons (.var 2) .nil)) .nil))) (.tup (.cons (.nm 1) (.cons (.nm 2) .nil))) (.val (.var 0)) .nil [1, 2]
def b_check_word : Stms := (.cons (.ife (.cmp .gt (.blt .len (.cons (.plc 0) .nil)) (.glo 12))
(.cons (.raise 2)
.nil)
.nil)
(.cons (.ife (.not (.blt .all (.cons c0_check_word .nil)))
(.cons (.raise 1)
.nil)
.nil)
(.cons (.ret (.cst .non))
.nil)))
def n_check_word : List Str := ["word", "kind", "label"]
def d_check_word (f : Nat) : Bool := [100, 101, 102, 103].contains f
theorem ck_check_word : chkSs [] ⟨n_check_word, defScope (top 20), fun _ => true, gnm, d_check_word, fun x => decide (x < 5), true, false⟩ b_check_word (defBody (top 20)) = true := by decide +kernel
theorem sc_check_word : FnScope n_check_word ["word"] (defScope (top 20)) := ⟨rfl, rfl, rfl, by decide +kernel, rfl, by decide +kernel, by decide +kernel⟩
def c0_check_of : Ex := .lc (.cmp .in_ (.plc 3) (.plc 2)) (.nm 3) (.val (.var 1)) .nil [3]
def b_check_of : Stms := (.cons (.expr (.call 104 (.cons (.var 1) .nil)))
(.cons (.asg (.nm 2) (.fz (.call 103 (.cons (.var 0) .nil))))
(.cons (.ife (.not (.blt .all (.cons c0_check_of .nil)))
(.cons (.raise 1)
.nil)
.nil)
(.cons (.ret (.cst .non))
.nil))))
def n_check_of : List Str := ["signs", "word", "known", "sign"]
def d_check_of (f : Nat) : Bool := [100, 101, 102, 103, 104].contains f
theorem ck_check_of : chkSs [] ⟨n_check_of, defScope (top 21), fun _ => true, gnm, d_check_of, fun x => decide (x < 5), true, false⟩ b_check_of (defBody (top 21)) = true := by decide +kernel
theorem sc_check_of : FnScope n_check_of ["signs", "word"] (defScope (top 21)) := ⟨rfl, rfl, rfl, by decide +kernel, rfl, by decide +kernel, by decide +kernel⟩
def b0_heights : Stms := (.cons (.expr (.app 1 (.bin .add (.ix (.plc 1) (.neg (.cst (.int 1)))) (.ife (.cmp .eq (.plc 2) (.glo 14)) (.cst (.int 1)) (.ife (.cmp .eq (.plc 2) (.glo 16)) (.neg (.cst (.int 1))) (.cst (.int 0)))))))
(.fgt [2, 3] .nil))
def f1_heights : Stm := .for_ (.tup (.cons (.nm 2) (.cons (.nm 3) .nil))) (.val (.var 0)) b0_heights
def b_heights : Stms := (.cons (.asg (.nm 1) (.lst (.cons (.cst (.int 0)) .nil)))
(.cons f1_heights
(.fgt [2, 3] (.cons (.ret (.mv 1))
.nil))))
def n_heights : List Str := ["word", "found", "kind", "_"]
def d_heights (f : Nat) : Bool := [100, 101, 102, 103, 104, 105].contains f
theorem ck_heights : chkSs [] ⟨n_heights, defScope (top 22), fun _ => true, gnm, d_heights, fun x => decide (x < 5), true, false⟩ b_heights (defBody (top 22)) = true := by decide +kernel
theorem sc_heights : FnScope n_heights ["word"] (defScope (top 22)) := ⟨rfl, rfl, rfl, by decide +kernel, rfl, by decide +kernel, by decide +kernel⟩
def b_is_known_whole : Stms := (.cons (.asg (.nm 1) (.fz (.call 106 (.cons (.var 0) .nil))))
(.cons (.ret (.and (.cons (.cmp .eq (.ix (.plc 1) (.neg (.cst (.int 1)))) (.cst (.int 0))) (.cons (.cmp .eq (.blt .min (.cons (.plc 1) .nil)) (.cst (.int 0))) .nil))))
.nil))
def n_is_known_whole : List Str := ["word", "rows"]
def d_is_known_whole (f : Nat) : Bool := [100, 101, 102, 103, 104, 105, 106].contains f
theorem ck_is_known_whole : chkSs [] ⟨n_is_known_whole, defScope (top 23), fun _ => true, gnm, d_is_known_whole, fun x => decide (x < 5), true, false⟩ b_is_known_whole (defBody (top 23)) = true := by decide +kernel
theorem sc_is_known_whole : FnScope n_is_known_whole ["word"] (defScope (top 23)) := ⟨rfl, rfl, rfl, by decide +kernel, rfl, by decide +kernel, by decide +kernel⟩
def b_check_whole : Stms := (.cons (.expr (.call 105 (.cons (.var 0) (.cons (.var 1) .nil))))
(.cons (.ife (.not (.call 107 (.cons (.var 1) .nil)))
(.cons (.raise 1)
.nil)
.nil)
(.cons (.ret (.cst .non))
.nil)))
def n_check_whole : List Str := ["signs", "word"]
def d_check_whole (f : Nat) : Bool := [100, 101, 102, 103, 104, 105, 106, 107].contains f
theorem ck_check_whole : chkSs [] ⟨n_check_whole, defScope (top 24), fun _ => true, gnm, d_check_whole, fun x => decide (x < 5), true, false⟩ b_check_whole (defBody (top 24)) = true := by decide +kernel
theorem sc_check_whole : FnScope n_check_whole ["signs", "word"] (defScope (top 24)) := ⟨rfl, rfl, rfl, by decide +kernel, rfl, by decide +kernel, by decide +kernel⟩
def c0_check_row : Ex := .lc (.cmp .in_ (.plc 8) (.plc 2)) (.nm 8) (.val (.var 10)) .nil [8]
def c1_check_row : Ex := .lc (.and (.cons (.cmp .eq (.blt .len (.cons (.plc 10) .nil)) (.plc 1)) (.cons (.blt .all (.cons c0_check_row .nil)) .nil))) (.nm 10) (.val (.var 7)) .nil [10]
def c2_check_row : Ex := .lc (.cmp .in_ (.plc 8) (.plc 2)) (.nm 8) (.val (.var 6)) .nil [8]
def c3_check_row : Ex := .lc (.and (.cons (.cmp .in_ (.plc 8) (.plc 2)) (.cons (.chn .le .lt (.cst (.int 0)) (.plc 9) (.plc 1)) .nil))) (.tup (.cons (.nm 8) (.cons (.nm 9) .nil))) (.val (.var 5)) .nil [8, 9]
def b_check_row : Stms := (.cons (.asg (.tup (.cons (.nm 5) (.cons (.nm 6) (.cons (.nm 7) .nil)))) (.var 3))
(.cons (.ife (.or (.cons (.cmp .ne (.blt .len (.cons (.plc 5) .nil)) (.blt .len (.cons (.ix (.plc 0) (.cst (.int 0))) .nil))) (.cons (.cmp .ne (.blt .len (.cons (.plc 6) .nil)) (.blt .len (.cons (.ix (.plc 0) (.cst (.int 1))) .nil))) (.cons (.cmp .ne (.blt .len (.cons (.plc 7) .nil)) (.blt .len (.cons (.ix (.plc 0) (.cst (.int 2))) .nil))) .nil))))
(.cons (.raise 1)
.nil)
.nil)
(.cons (.asg (.nm 4) (.blt .all (.cons c3_check_row .nil)))
(.cons (.ife (.or (.cons (.not (.plc 4)) (.cons (.not (.blt .all (.cons c2_check_row .nil))) .nil)))
(.cons (.raise 1)
.nil)
.nil)
(.cons (.ife (.not (.blt .all (.cons c1_check_row .nil)))
(.cons (.raise 1)
.nil)
.nil)
(.cons (.ret (.cst .non))
.nil))))))
def n_check_row : List Str := ["signs", "marks", "states", "row", "good", "calls", "stays", "backs", "target", "mark", "told"]
def d_check_row (f : Nat) : Bool := [100, 101, 102, 103, 104, 105, 106, 107, 108].contains f
theorem ck_check_row : chkSs [] ⟨n_check_row, defScope (top 29), fun _ => true, gnm, d_check_row, fun x => decide (x < 5), true, false⟩ b_check_row (defBody (top 29)) = true := by decide +kernel
theorem sc_check_row : FnScope n_check_row ["signs", "marks", "states", "row"] (defScope (top 29)) := ⟨rfl, rfl, rfl, by decide +kernel, rfl, by decide +kernel, by decide +kernel⟩
def s0_check_machine : Stm := (.ret (.cst .non))
def b1_check_machine : Stms := (.cons (.expr (.call 116 (.cons (.var 3) (.cons (.var 4) (.cons (.var 1) (.cons (.var 2) .nil))))))
(.fgt [2] .nil))
def f2_check_machine : Stm := .for_ (.nm 2) (.val (.var 5)) b1_check_machine
def c3_check_machine : Ex := .lc (.cmp .lt (.plc 7) (.plc 8)) (.tup (.cons (.nm 7) (.cons (.nm 8) .nil))) (.zip (.var 6) (.sl (.plc 6) (.cst (.int 1)) .nop)) .nil [7, 8]
def s4_check_machine : Stm := (.ife (.not (.blt .all (.cons c3_check_machine .nil)))
(.cons (.raise 1)
.nil)
.nil)
def c5_check_machine : Ex := .lc (.cmp .in_ (.plc 7) (.plc 1)) (.nm 7) (.val (.var 6)) .nil [7]
def s6_check_machine : Stm := (.ife (.or (.cons (.cmp .eq (.blt .len (.cons (.plc 5) .nil)) (.cst (.int 0))) (.cons (.cmp .lt (.plc 4) (.cst (.int 1))) (.cons (.not (.blt .all (.cons c5_check_machine .nil))) .nil))))
(.cons (.raise 1)
.nil)
.nil)
def s7_check_machine : Stm := (.asg (.nm 1) (.fz (.lrng (.cons (.blt .len (.cons (.plc 5) .nil)) .nil))))
def s8_check_machine : Stm := (.ife (.or (.cons (.cmp .gt (.blt .len (.cons (.plc 5) .nil)) (.glo 19)) (.cons (.cmp .gt (.plc 4) (.glo 20)) .nil)))
(.cons (.raise 2)
.nil)
.nil)
def s9_check_machine : Stm := (.expr (.call 102 (.cons (.var 3) .nil)))
def s10_check_machine : Stm := (.asg (.tup (.cons (.nm 3) (.cons (.nm 4) (.cons (.nm 5) (.cons (.nm 6) .nil))))) (.var 0))
def b_check_machine : Stms := (.cons s10_check_machine
(.cons s9_check_machine
(.cons s8_check_machine
(.cons s7_check_machine
(.cons s6_check_machine
(.cons s4_check_machine
(.fgt [0, 6] (.cons f2_check_machine
(.fgt [2] (.cons s0_check_machine
.nil))))))))))
def n_check_machine : List Str := ["machine", "states", "row", "signs", "marks", "rows", "goods", "one", "other"]
def d_check_machine (f : Nat) : Bool := [100, 101, 102, 103, 104, 105, 106, 107, 108, 116].contains f
theorem ck_check_machine : chkSs [] ⟨n_check_machine, defScope (top 28), fun _ => true, gnm, d_check_machine, fun x => decide (x < 5), true, false⟩ b_check_machine (defBody (top 28)) = true := by decide +kernel
theorem sc_check_machine : FnScope n_check_machine ["machine"] (defScope (top 28)) := ⟨rfl, rfl, rfl, by decide +kernel, rfl, by decide +kernel, by decide +kernel⟩
def s0_moved : Stm := (.ret (.tup (.cons (.ix (.ix (.plc 12) (.fidx true (.ix (.plc 3) (.cst (.int 2))) (.plc 9))) (.ix (.plc 7) (.neg (.cst (.int 1))))) (.cons (.sl (.plc 7) .nop (.neg (.cst (.int 1)))) .nil))))
def s1_moved : Stm := (.ife (.cmp .eq (.blt .len (.cons (.plc 7) .nil)) (.cst (.int 0)))
(.cons (.ret (.cst .non))
.nil)
.nil)
def s2_moved : Stm := (.ife (.cmp .eq (.plc 8) (.glo 15))
(.cons (.ret (.tup (.cons (.ix (.plc 11) (.fidx true (.ix (.plc 3) (.cst (.int 1))) (.plc 9))) (.cons (.var 7) .nil))))
.nil)
.nil)
def s3_moved : Stm := (.ife (.cmp .eq (.plc 8) (.glo 14))
(.cons (.asg (.tup (.cons (.nm 13) (.cons (.nm 14) .nil))) (.ix (.plc 10) (.fidx true (.ix (.plc 3) (.cst (.int 0))) (.plc 9))))
(.cons (.ret (.tup (.cons (.var 13) (.cons (.tup (.star (.plc 7) (.cons (.var 14) .nil))) .nil))))
.nil))
.nil)
def s4_moved : Stm := (.asg (.tup (.cons (.nm 10) (.cons (.nm 11) (.cons (.nm 12) .nil)))) (.ix (.plc 5) (.plc 6)))
def s5_moved : Stm := (.asg (.tup (.cons (.nm 8) (.cons (.nm 9) .nil))) (.var 2))
def s6_moved : Stm := (.asg (.tup (.cons (.nm 6) (.cons (.nm 7) .nil))) (.var 1))
def s7_moved : Stm := (.asg (.tup (.cons (.nm 3) (.cons (.nm 4) (.cons (.nm 5) (.cons (.nm 4) .nil))))) (.var 0))
def b_moved : Stms := (.cons s7_moved
(.cons s6_moved
(.cons s5_moved
(.cons s4_moved
(.cons s3_moved
(.fgt [13, 14] (.cons s2_moved
(.cons s1_moved
(.cons s0_moved
.nil)))))))))
def n_moved : List Str := ["machine", "here", "sign", "signs", "_", "rows", "state", "marks", "kind", "label", "calls", "stays", "backs", "target", "mark"]
def d_moved (f : Nat) : Bool := [100, 101, 102, 103, 104, 105, 106, 107, 108, 116, 115].contains f
theorem ck_moved : chkSs [] ⟨n_moved, defScope (top 30), fun _ => true, gnm, d_moved, fun x => decide (x < 5), true, false⟩ b_moved (defBody (top 30)) = true := by decide +kernel
theorem sc_moved : FnScope n_moved ["machine", "here", "sign"] (defScope (top 30)) := ⟨rfl, rfl, rfl, by decide +kernel, rfl, by decide +kernel, by decide +kernel⟩
def b0_led : Stms := (.cons (.asg (.nm 3) (.fz (.call 117 (.cons (.var 0) (.cons (.var 3) (.cons (.var 4) .nil))))))
(.fgt [4] .nil))
def f1_led : Stm := .for_ (.nm 4) (.val (.var 2)) b0_led
def b_led : Stms := (.cons (.asg (.nm 3) (.tup (.cons (.var 1) (.cons (.tup .nil) .nil))))
(.fgt [1] (.cons f1_led
(.fgt [4] (.cons (.ret (.ix (.plc 3) (.cst (.int 0))))
.nil)))))
def n_led : List Str := ["machine", "state", "word", "here", "sign"]
def d_led (f : Nat) : Bool := [100, 101, 102, 103, 104, 105, 106, 107, 108, 116, 115, 117].contains f
theorem ck_led : chkSs [] ⟨n_led, defScope (top 31), fun _ => true, gnm, d_led, fun x => decide (x < 5), true, false⟩ b_led (defBody (top 31)) = true := by decide +kernel
theorem sc_led : FnScope n_led ["machine", "state", "word"] (defScope (top 31)) := ⟨rfl, rfl, rfl, by decide +kernel, rfl, by decide +kernel, by decide +kernel⟩
def b_is_good : Stms := (.cons (.expr (.call 115 (.cons (.var 0) .nil)))
(.cons (.expr (.call 108 (.cons (.ix (.plc 0) (.cst (.int 0))) (.cons (.var 1) .nil))))
(.cons (.ret (.cmp .in_ (.call 118 (.cons (.var 0) (.cons (.cst (.int 0)) (.cons (.var 1) .nil)))) (.ix (.plc 0) (.cst (.int 3)))))
.nil)))
def n_is_good : List Str := ["machine", "word"]
def d_is_good (f : Nat) : Bool := [100, 101, 102, 103, 104, 105, 106, 107, 108, 116, 115, 117, 118].contains f
theorem ck_is_good : chkSs [] ⟨n_is_good, defScope (top 32), fun _ => true, gnm, d_is_good, fun x => decide (x < 5), true, false⟩ b_is_good (defBody (top 32)) = true := by decide +kernel
theorem sc_is_good : FnScope n_is_good ["machine", "word"] (defScope (top 32)) := ⟨rfl, rfl, rfl, by decide +kernel, rfl, by decide +kernel, by decide +kernel⟩
def b0_trace : Stms := (.cons (.asg (.nm 4) (.fz (.call 117 (.cons (.var 0) (.cons (.ix (.plc 2) (.neg (.cst (.int 1)))) (.cons (.var 3) .nil))))))
(.cons (.ife (.cmp .is_ (.plc 4) (.cst .non))
(.cons (.raise 3)
.nil)
.nil)
(.cons (.expr (.app 2 (.var 4)))
(.fgt [3, 4] .nil))))
def f1_trace : Stm := .for_ (.nm 3) (.val (.var 1)) b0_trace
def b_trace : Stms := (.cons (.expr (.call 115 (.cons (.var 0) .nil)))
(.cons (.expr (.call 105 (.cons (.ix (.plc 0) (.cst (.int 0))) (.cons (.var 1) .nil))))
(.cons (.asg (.nm 2) (.lst (.cons (.tup (.cons (.cst (.int 0)) (.cons (.tup .nil) .nil))) .nil)))
(.cons f1_trace
(.fgt [3, 4] (.cons (.ret (.mv 2))
.nil))))))
def n_trace : List Str := ["machine", "word", "found", "sign", "here"]
def d_trace (f : Nat) : Bool := [100, 101, 102, 103, 104, 105, 106, 107, 108, 116, 115, 117, 118, 119].contains f
theorem ck_trace : chkSs [] ⟨n_trace, defScope (top 33), fun _ => true, gnm, d_trace, fun x => decide (x < 5), true, false⟩ b_trace (defBody (top 33)) = true := by decide +kernel
theorem sc_trace : FnScope n_trace ["machine", "word"] (defScope (top 33)) := ⟨rfl, rfl, rfl, by decide +kernel, rfl, by decide +kernel, by decide +kernel⟩
def b_check_trace : Stms := (.cons (.tryC (.cons (.asg (.nm 3) (.fz (.call 120 (.cons (.var 0) (.cons (.var 1) .nil)))))
.nil) [(3, some 3, .non)])
(.cons (.ife (.or (.cons (.cmp .is_ (.plc 3) (.cst .non)) (.cons (.cmp .ne (.blt .tuple (.cons (.plc 3) .nil)) (.blt .tuple (.cons (.plc 2) .nil))) .nil)))
(.cons (.raise 4)
.nil)
.nil)
(.cons (.ret (.cst (.bl true)))
.nil)))
def n_check_trace : List Str := ["machine", "word", "paper", "due"]
def d_check_trace (f : Nat) : Bool := [100, 101, 102, 103, 104, 105, 106, 107, 108, 116, 115, 117, 118, 119, 120].contains f
theorem ck_check_trace : chkSs [] ⟨n_check_trace, defScope (top 34), fun _ => true, gnm, d_check_trace, fun x => decide (x < 5), true, false⟩ b_check_trace (defBody (top 34)) = true := by decide +kernel
theorem sc_check_trace : FnScope n_check_trace ["machine", "word", "paper"] (defScope (top 34)) := ⟨rfl, rfl, rfl, by decide +kernel, rfl, by decide +kernel, by decide +kernel⟩
theorem ck_law_error : chkLe gnm ["NotAllowed", "TooLarge", "Missing", "BadPaper", "BadForm"] ["refused", "large", "missing", "paper", "form"] (defScope (top 36)) (defBody (top 36)) = true := by decide +kernel
theorem sc_law_error : FnScope leN [("e" : Str)] (defScope (top 36)) := ⟨rfl, rfl, rfl, by decide +kernel, rfl, by decide +kernel, by decide +kernel⟩
def b_law_behind : Stms := (.cons (.asg (.tup (.cons (.nm 4) (.cons (.nm 5) (.cons (.nm 6) .nil)))) (.ix (.ix (.plc 0) (.cst (.int 2))) (.ix (.plc 1) (.cst (.int 0)))))
(.cons (.asg (.nm 3) (.fidx true (.ix (.ix (.plc 0) (.cst (.int 0))) (.sidx "<=>" (.ix (.plc 2) (.cst (.int 0))))) (.ix (.plc 2) (.cst (.int 1)))))
(.cons (.ife (.cmp .eq (.ix (.plc 2) (.cst (.int 0))) (.cst (.str "<")))
(.cons (.ret (.tup (.cons (.ix (.ix (.plc 4) (.plc 3)) (.cst (.int 0))) (.cons (.bin .add (.ix (.plc 1) (.cst (.int 1))) (.tup (.cons (.ix (.ix (.plc 4) (.plc 3)) (.cst (.int 1))) .nil))) .nil))))
.nil)
.nil)
(.cons (.ife (.cmp .eq (.ix (.plc 2) (.cst (.int 0))) (.cst (.str "=")))
(.cons (.ret (.tup (.cons (.ix (.plc 5) (.plc 3)) (.cons (.ix (.plc 1) (.cst (.int 1))) .nil))))
.nil)
.nil)
(.cons (.ret (.tup (.cons (.ix (.ix (.plc 6) (.plc 3)) (.ix (.ix (.plc 1) (.cst (.int 1))) (.neg (.cst (.int 1))))) (.cons (.sl (.ix (.plc 1) (.cst (.int 1))) .nop (.neg (.cst (.int 1)))) .nil))))
.nil)))))
def n_law_behind : List Str := ["machine", "here", "sign", "at", "calls", "stays", "backs"]
def d_law_behind (f : Nat) : Bool := [100, 101, 102, 103, 104, 105, 106, 107, 108, 116, 115, 117, 118, 119, 120, 121].contains f
theorem ck_law_behind : chkSs [] ⟨n_law_behind, defScope (top 37), fun _ => true, gnm, d_law_behind, fun x => decide (x < 5), true, true⟩ b_law_behind (defBody (top 37)) = true := by decide +kernel
theorem sc_law_behind : FnScope n_law_behind ["machine", "here", "sign"] (defScope (top 37)) := ⟨rfl, rfl, rfl, by decide +kernel, rfl, by decide +kernel, by decide +kernel⟩
def b_law_next : Stms := (.cons (.asg (.sub 0 (.cst (.int 1))) (.bin .add (.ix (.plc 0) (.cst (.int 1))) (.cst (.int 1))))
(.cons (.asg (.nm 2) (.bin .fdiv (.ix (.plc 0) (.cst (.int 1))) (.blt .len (.cons (.ix (.plc 0) (.cst (.int 0))) .nil))))
(.cons (.ret (.bin .mod (.blt .int (.cons (.bin .add (.bin .add (.ix (.ix (.plc 0) (.cst (.int 0))) (.bin .mod (.ix (.plc 0) (.cst (.int 1))) (.blt .len (.cons (.ix (.plc 0) (.cst (.int 0))) .nil)))) (.bin .mul (.plc 2) (.cst (.int 389)))) (.bin .mul (.bin .mul (.ix (.plc 0) (.cst (.int 1))) (.plc 2)) (.cst (.int 17)))) .nil)) (.plc 1)))
.nil)))
def n_law_next : List Str := ["state", "many", "turn"]
def d_law_next (f : Nat) : Bool := [100, 101, 102, 103, 104, 105, 106, 107, 108, 116, 115, 117, 118, 119, 120, 121, 614].contains f
theorem ck_law_next : chkSs [0] ⟨n_law_next, defScope (top 38), fun _ => true, gnm, d_law_next, fun x => decide (x < 5), true, true⟩ b_law_next (defBody (top 38)) = true := by decide +kernel
theorem sc_law_next : FnScope n_law_next ["state", "many"] (defScope (top 38)) := ⟨rfl, rfl, rfl, by decide +kernel, rfl, by decide +kernel, by decide +kernel⟩
def b0_law_stream : Stms := (.cons (.expr (.app 1 (.bin .mod (.blt .int (.cons (.plc 3) .nil)) (.cst (.int 1009)))))
(.cons (.asg (.nm 3) (.bin .fdiv (.plc 3) (.cst (.int 1009))))
(.cons (.ife (.cmp .eq (.plc 3) (.cst (.int 0)))
(.cons .brk
.nil)
.nil)
(.fgt [4] .nil))))
def f1_law_stream : Stm := .for_ (.nm 4) (.rng (.cons (.cst (.int 60)) .nil)) b0_law_stream
def b2_law_stream : Stms := (.cons (.asg (.nm 5) (.bin .mod (.blt .int (.cons (.bin .add (.bin .add (.bin .mul (.plc 5) (.cst (.int 48271))) (.bin .mul (.cst (.int 7)) (.plc 4))) (.cst (.int 11))) .nil)) (.cst (.int 2147483647))))
(.cons (.expr (.app 1 (.bin .mod (.bin .mod (.blt .int (.cons (.bin .add (.bin .mul (.plc 5) (.cst (.int 69621))) (.plc 4)) .nil)) (.cst (.int 2147483629))) (.cst (.int 1009)))))
(.fgt [4] .nil)))
def f3_law_stream : Stm := .for_ (.nm 4) (.rng (.cons (.cst (.int 10)) .nil)) b2_law_stream
def b4_law_stream : Stms := (.cons (.asg (.nm 3) (.blt .abs (.cons (.blt .int (.cons (.plc 2) .nil)) .nil)))
(.cons (.ife (.cmp .ge (.plc 3) (.bin .pow (.cst (.int 10)) (.cst (.int 18))))
(.fgt [2, 4, 5] (.cons f1_law_stream
(.fgt [3, 4] .nil)))
(.cons (.asg (.nm 5) (.bin .mod (.blt .int (.cons (.plc 3) .nil)) (.cst (.int 2147483647))))
(.fgt [2, 3, 4] (.cons f3_law_stream
(.fgt [4, 5] .nil)))))
(.fgt [2, 3, 4, 5] .nil)))
def f5_law_stream : Stm := .for_ (.nm 2) (.val (.sl (.plc 0) .nop (.cst (.int 63)))) b4_law_stream
def b_law_stream : Stms := (.cons (.asg (.nm 1) (.lst .nil))
(.cons f5_law_stream
(.fgt [2, 3, 4, 5] (.cons (.ife (.cmp .eq (.blt .len (.cons (.plc 1) .nil)) (.cst (.int 0)))
(.cons (.expr (.app 1 (.cst (.int 0))))
.nil)
.nil)
(.cons (.ret (.mv 1))
.nil)))))
def n_law_stream : List Str := ["script", "numbers", "cell", "rest", "k", "stirred"]
def d_law_stream (f : Nat) : Bool := [100, 101, 102, 103, 104, 105, 106, 107, 108, 116, 115, 117, 118, 119, 120, 121, 614, 602].contains f
theorem ck_law_stream : chkSs [] ⟨n_law_stream, defScope (top 39), fun _ => true, gnm, d_law_stream, fun x => decide (x < 5), true, true⟩ b_law_stream (defBody (top 39)) = true := by decide +kernel
theorem sc_law_stream : FnScope n_law_stream ["script"] (defScope (top 39)) := ⟨rfl, rfl, rfl, by decide +kernel, rfl, by decide +kernel, by decide +kernel⟩
def b_law_signs : Stms := (.cons (.asg (.nm 1) (.sl (.tup (.cons (.cst (.str "b")) (.cons (.cst (.str "c2")) .nil))) .nop (.bin .add (.cst (.int 1)) (.call 602 (.cons (.plc 0) (.cons (.cst (.int 2)) .nil))))))
(.cons (.asg (.nm 2) (.sl (.tup (.cons (.cst (.str "a")) (.cons (.cst (.str "x")) .nil))) .nop (.call 602 (.cons (.plc 0) (.cons (.cst (.int 3)) .nil)))))
(.cons (.ret (.tup (.cons (.var 1) (.cons (.var 2) (.cons (.sl (.tup (.cons (.cst (.str "e")) (.cons (.cst (.str "f")) .nil))) .nop (.bin .add (.cst (.int 1)) (.blt .int (.cons (.cmp .eq (.call 602 (.cons (.plc 0) (.cons (.cst (.int 3)) .nil))) (.cst (.int 0))) .nil)))) .nil)))))
.nil)))
def n_law_signs : List Str := ["state", "calls", "stays"]
def d_law_signs (f : Nat) : Bool := [100, 101, 102, 103, 104, 105, 106, 107, 108, 116, 115, 117, 118, 119, 120, 121, 614, 602, 601].contains f
theorem ck_law_signs : chkSs [0] ⟨n_law_signs, defScope (top 40), fun _ => true, gnm, d_law_signs, fun x => decide (x < 5), true, true⟩ b_law_signs (defBody (top 40)) = true := by decide +kernel
theorem sc_law_signs : FnScope n_law_signs ["state"] (defScope (top 40)) := ⟨rfl, rfl, rfl, by decide +kernel, rfl, by decide +kernel, by decide +kernel⟩
def c0_law_machine : Ex := .lc (.var 7) (.nm 7) (.rng (.cons (.plc 4) .nil)) (.cons (.cmp .eq (.call 602 (.cons (.plc 0) (.cons (.cst (.int 2)) .nil))) (.cst (.int 0))) .nil) [7]
def c1_law_machine : Ex := .lc (.call 602 (.cons (.plc 0) (.cons (.var 4) .nil))) (.nm 13) (.rng (.cons (.plc 5) .nil)) .nil [13]
def c2_law_machine : Ex := .lc (.blt .tuple (.cons c1_law_machine .nil)) (.nm 12) (.val (.ix (.plc 1) (.cst (.int 2)))) .nil [12]
def c3_law_machine : Ex := .lc (.call 602 (.cons (.plc 0) (.cons (.var 4) .nil))) (.nm 12) (.val (.ix (.plc 1) (.cst (.int 1)))) .nil [12]
def c4_law_machine : Ex := .lc (.tup (.cons (.fz (.call 602 (.cons (.plc 0) (.cons (.var 4) .nil)))) (.cons (.fz (.call 602 (.cons (.plc 0) (.cons (.var 5) .nil)))) .nil))) (.nm 12) (.val (.ix (.plc 1) (.cst (.int 0)))) .nil [12]
def b5_law_machine : Stms := (.cons (.asg (.nm 9) (.blt .tuple (.cons c4_law_machine .nil)))
(.cons (.asg (.nm 10) (.blt .tuple (.cons c3_law_machine .nil)))
(.cons (.asg (.nm 11) (.blt .tuple (.cons c2_law_machine .nil)))
(.cons (.expr (.app 6 (.tup (.cons (.var 9) (.cons (.var 10) (.cons (.var 11) .nil))))))
(.fgt [7, 9, 10, 11] .nil)))))
def f6_law_machine : Stm := .for_ (.nm 7) (.rng (.cons (.plc 4) .nil)) b5_law_machine
def b_law_machine : Stms := (.cons (.asg (.nm 4) (.bin .add (.cst (.int 1)) (.call 602 (.cons (.plc 0) (.cons (.var 2) .nil)))))
(.cons (.asg (.nm 5) (.bin .add (.cst (.int 1)) (.call 602 (.cons (.plc 0) (.cons (.var 3) .nil)))))
(.cons (.asg (.nm 6) (.lst .nil))
(.fgt [2, 3] (.cons f6_law_machine
(.fgt [7, 9, 10, 11] (.cons (.asg (.nm 8) (.blt .tuple (.cons c0_law_machine .nil)))
(.cons (.ret (.tup (.cons (.var 1) (.cons (.var 5) (.cons (.blt .tuple (.cons (.plc 6) .nil)) (.cons (.var 8) .nil))))))
.nil))))))))
def n_law_machine : List Str := ["state", "signs", "states", "marks", "many", "few", "rows", "k", "goods", "calls", "stays", "backs", "label", "mark"]
def d_law_machine (f : Nat) : Bool := [100, 101, 102, 103, 104, 105, 106, 107, 108, 116, 115, 117, 118, 119, 120, 121, 614, 602, 601, 603].contains f
theorem ck_law_machine : chkSs [0] ⟨n_law_machine, defScope (top 41), fun _ => true, gnm, d_law_machine, fun x => decide (x < 5), true, true⟩ b_law_machine (defBody (top 41)) = true := by decide +kernel
theorem sc_law_machine : FnScope n_law_machine ["state", "signs", "states", "marks"] (defScope (top 41)) := ⟨rfl, rfl, rfl, by decide +kernel, rfl, by decide +kernel, by decide +kernel⟩
def b0_law_word : Stms := (.cons (.expr (.app 3 (.tup (.cons (.cst (.str ">")) (.cons (.ix (.ix (.plc 1) (.cst (.int 2))) (.call 602 (.cons (.plc 0) (.cons (.blt .len (.cons (.ix (.plc 1) (.cst (.int 2))) .nil)) .nil)))) .nil)))))
(.fgt [5] .nil))
def f1_law_word : Stm := .for_ (.nm 5) (.rng (.cons (.plc 4) .nil)) b0_law_word
def b2_law_word : Stms := (.cons (.asg (.nm 6) (.fz (.call 602 (.cons (.plc 0) (.cons (.cst (.int 3)) .nil)))))
(.cons (.ife (.and (.cons (.cmp .eq (.plc 6) (.cst (.int 0))) (.cons (.cmp .gt (.blt .len (.cons (.ix (.plc 1) (.cst (.int 0))) .nil)) (.cst (.int 0))) (.cons (.cmp .gt (.blt .len (.cons (.ix (.plc 1) (.cst (.int 2))) .nil)) (.cst (.int 0))) .nil))))
(.cons (.expr (.app 3 (.tup (.cons (.cst (.str "<")) (.cons (.ix (.ix (.plc 1) (.cst (.int 0))) (.call 602 (.cons (.plc 0) (.cons (.blt .len (.cons (.ix (.plc 1) (.cst (.int 0))) .nil)) .nil)))) .nil)))))
(.cons (.asg (.nm 4) (.bin .add (.plc 4) (.cst (.int 1))))
.nil))
(.cons (.ife (.and (.cons (.cmp .eq (.plc 6) (.cst (.int 1))) (.cons (.cmp .gt (.plc 4) (.cst (.int 0))) .nil)))
(.cons (.expr (.app 3 (.tup (.cons (.cst (.str ">")) (.cons (.ix (.ix (.plc 1) (.cst (.int 2))) (.call 602 (.cons (.plc 0) (.cons (.blt .len (.cons (.ix (.plc 1) (.cst (.int 2))) .nil)) .nil)))) .nil)))))
(.cons (.asg (.nm 4) (.bin .sub (.plc 4) (.cst (.int 1))))
.nil))
(.cons (.ife (.cmp .gt (.blt .len (.cons (.ix (.plc 1) (.cst (.int 1))) .nil)) (.cst (.int 0)))
(.cons (.expr (.app 3 (.tup (.cons (.cst (.str "=")) (.cons (.ix (.ix (.plc 1) (.cst (.int 1))) (.call 602 (.cons (.plc 0) (.cons (.blt .len (.cons (.ix (.plc 1) (.cst (.int 1))) .nil)) .nil)))) .nil)))))
.nil)
.nil)
.nil))
.nil))
(.fgt [5, 6] .nil)))
def f3_law_word : Stm := .for_ (.nm 5) (.rng (.cons (.call 602 (.cons (.plc 0) (.cons (.bin .add (.plc 2) (.cst (.int 1))) .nil))) .nil)) b2_law_word
def b_law_word : Stms := (.cons (.asg (.nm 3) (.lst .nil))
(.cons (.asg (.nm 4) (.cst (.int 0)))
(.cons f3_law_word
(.fgt [5, 6] (.fgt [2, 5, 6] (.cons f1_law_word
(.fgt [5] (.cons (.ret (.blt .tuple (.cons (.plc 3) .nil)))
.nil))))))))
def n_law_word : List Str := ["state", "signs", "most", "found", "height", "k", "pick"]
def d_law_word (f : Nat) : Bool := [100, 101, 102, 103, 104, 105, 106, 107, 108, 116, 115, 117, 118, 119, 120, 121, 614, 602, 601, 603, 615].contains f
theorem ck_law_word : chkSs [0] ⟨n_law_word, defScope (top 42), fun _ => true, gnm, d_law_word, fun x => decide (x < 5), true, true⟩ b_law_word (defBody (top 42)) = true := by decide +kernel
theorem sc_law_word : FnScope n_law_word ["state", "signs", "most"] (defScope (top 42)) := ⟨rfl, rfl, rfl, by decide +kernel, rfl, by decide +kernel, by decide +kernel⟩
def c0_law_all_signs : Ex := .lc (.tup (.cons (.ix (.cst (.str "<=>")) (.plc 2)) (.cons (.var 3) .nil))) (.nm 3) (.val (.ix (.plc 0) (.plc 2))) .nil [3]
def b1_law_all_signs : Stms := (.cons (.expr (.ext 1 c0_law_all_signs))
(.fgt [2] .nil))
def f2_law_all_signs : Stm := .for_ (.nm 2) (.rng (.cons (.cst (.int 3)) .nil)) b1_law_all_signs
def b_law_all_signs : Stms := (.cons (.asg (.nm 1) (.lst .nil))
(.cons f2_law_all_signs
(.fgt [2] (.cons (.ret (.mv 1))
.nil))))
def n_law_all_signs : List Str := ["signs", "found", "k", "label"]
def d_law_all_signs (f : Nat) : Bool := [100, 101, 102, 103, 104, 105, 106, 107, 108, 116, 115, 117, 118, 119, 120, 121, 614, 602, 601, 603, 615, 616].contains f
theorem ck_law_all_signs : chkSs [] ⟨n_law_all_signs, defScope (top 43), fun _ => true, gnm, d_law_all_signs, fun x => decide (x < 5), true, true⟩ b_law_all_signs (defBody (top 43)) = true := by decide +kernel
theorem sc_law_all_signs : FnScope n_law_all_signs ["signs"] (defScope (top 43)) := ⟨rfl, rfl, rfl, by decide +kernel, rfl, by decide +kernel, by decide +kernel⟩
def c0_law_any_word : Ex := .lc (.ix (.plc 3) (.call 602 (.cons (.plc 0) (.cons (.blt .len (.cons (.plc 3) .nil)) .nil)))) (.nm 4) (.rng (.cons (.call 602 (.cons (.plc 0) (.cons (.bin .add (.plc 2) (.cst (.int 1))) .nil))) .nil)) .nil [4]
def b_law_any_word : Stms := (.cons (.asg (.nm 3) (.fz (.call 604 (.cons (.var 1) .nil))))
(.cons (.ife (.cmp .eq (.blt .len (.cons (.plc 3) .nil)) (.cst (.int 0)))
(.cons (.ret (.tup .nil))
.nil)
.nil)
(.cons (.ret (.blt .tuple (.cons c0_law_any_word .nil)))
.nil)))
def n_law_any_word : List Str := ["state", "signs", "most", "every", "k"]
def d_law_any_word (f : Nat) : Bool := [100, 101, 102, 103, 104, 105, 106, 107, 108, 116, 115, 117, 118, 119, 120, 121, 614, 602, 601, 603, 615, 616, 604].contains f
theorem ck_law_any_word : chkSs [0] ⟨n_law_any_word, defScope (top 44), fun _ => true, gnm, d_law_any_word, fun x => decide (x < 5), true, true⟩ b_law_any_word (defBody (top 44)) = true := by decide +kernel
theorem sc_law_any_word : FnScope n_law_any_word ["state", "signs", "most"] (defScope (top 44)) := ⟨rfl, rfl, rfl, by decide +kernel, rfl, by decide +kernel, by decide +kernel⟩
def b0_law_heights : Stms := (.cons (.expr (.app 1 (.fz (.bin .add (.ix (.plc 1) (.neg (.cst (.int 1)))) (.ix (.lst (.cons (.cst (.int 1)) (.cons (.cst (.int 0)) (.cons (.neg (.cst (.int 1))) .nil)))) (.sidx "<=>" (.plc 2)))))))
(.fgt [2, 3] .nil))
def f1_law_heights : Stm := .for_ (.tup (.cons (.nm 2) (.cons (.nm 3) .nil))) (.val (.var 0)) b0_law_heights
def b_law_heights : Stms := (.cons (.asg (.nm 1) (.lst (.cons (.cst (.int 0)) .nil)))
(.cons f1_law_heights
(.fgt [2, 3] (.cons (.ret (.mv 1))
.nil))))
def n_law_heights : List Str := ["word", "found", "kind", "label"]
def d_law_heights (f : Nat) : Bool := [100, 101, 102, 103, 104, 105, 106, 107, 108, 116, 115, 117, 118, 119, 120, 121, 614, 602, 601, 603, 615, 616, 604, 617].contains f
theorem ck_law_heights : chkSs [] ⟨n_law_heights, defScope (top 45), fun _ => true, gnm, d_law_heights, fun x => decide (x < 5), true, true⟩ b_law_heights (defBody (top 45)) = true := by decide +kernel
theorem sc_law_heights : FnScope n_law_heights ["word"] (defScope (top 45)) := ⟨rfl, rfl, rfl, by decide +kernel, rfl, by decide +kernel, by decide +kernel⟩
def b_law_is_whole : Stms := (.cons (.asg (.nm 1) (.fz (.call 607 (.cons (.var 0) .nil))))
(.cons (.ret (.and (.cons (.cmp .eq (.ix (.plc 1) (.neg (.cst (.int 1)))) (.cst (.int 0))) (.cons (.cmp .eq (.blt .min (.cons (.plc 1) .nil)) (.cst (.int 0))) .nil))))
.nil))
def n_law_is_whole : List Str := ["word", "rows"]
def d_law_is_whole (f : Nat) : Bool := [100, 101, 102, 103, 104, 105, 106, 107, 108, 116, 115, 117, 118, 119, 120, 121, 614, 602, 601, 603, 615, 616, 604, 617, 607].contains f
theorem ck_law_is_whole : chkSs [] ⟨n_law_is_whole, defScope (top 46), fun _ => true, gnm, d_law_is_whole, fun x => decide (x < 5), true, true⟩ b_law_is_whole (defBody (top 46)) = true := by decide +kernel
theorem sc_law_is_whole : FnScope n_law_is_whole ["word"] (defScope (top 46)) := ⟨rfl, rfl, rfl, by decide +kernel, rfl, by decide +kernel, by decide +kernel⟩
def b0_law_led : Stms := (.cons (.asg (.nm 3) (.fz (.call 614 (.cons (.var 0) (.cons (.var 3) (.cons (.var 4) .nil))))))
(.fgt [4] .nil))
def f1_law_led : Stm := .for_ (.nm 4) (.val (.var 2)) b0_law_led
def b_law_led : Stms := (.cons (.asg (.nm 3) (.tup (.cons (.var 1) (.cons (.tup .nil) .nil))))
(.fgt [1] (.cons f1_law_led
(.fgt [4] (.cons (.ret (.ix (.plc 3) (.cst (.int 0))))
.nil)))))
def n_law_led : List Str := ["machine", "number", "word", "here", "sign"]
def d_law_led (f : Nat) : Bool := [100, 101, 102, 103, 104, 105, 106, 107, 108, 116, 115, 117, 118, 119, 120, 121, 614, 602, 601, 603, 615, 616, 604, 617, 607, 608].contains f
theorem ck_law_led : chkSs [] ⟨n_law_led, defScope (top 47), fun _ => true, gnm, d_law_led, fun x => decide (x < 5), true, true⟩ b_law_led (defBody (top 47)) = true := by decide +kernel
theorem sc_law_led : FnScope n_law_led ["machine", "number", "word"] (defScope (top 47)) := ⟨rfl, rfl, rfl, by decide +kernel, rfl, by decide +kernel, by decide +kernel⟩
def b_law_good : Stms := (.cons (.ret (.cmp .in_ (.call 618 (.cons (.var 0) (.cons (.cst (.int 0)) (.cons (.var 1) .nil)))) (.ix (.plc 0) (.cst (.int 3)))))
.nil)
def n_law_good : List Str := ["machine", "word"]
def d_law_good (f : Nat) : Bool := [100, 101, 102, 103, 104, 105, 106, 107, 108, 116, 115, 117, 118, 119, 120, 121, 614, 602, 601, 603, 615, 616, 604, 617, 607, 608, 618].contains f
theorem ck_law_good : chkSs [] ⟨n_law_good, defScope (top 48), fun _ => true, gnm, d_law_good, fun x => decide (x < 5), true, true⟩ b_law_good (defBody (top 48)) = true := by decide +kernel
theorem sc_law_good : FnScope n_law_good ["machine", "word"] (defScope (top 48)) := ⟨rfl, rfl, rfl, by decide +kernel, rfl, by decide +kernel, by decide +kernel⟩
def b_law_same : Stms := (.cons (.ret (.cmp .eq (.blt .repr (.cons (.lst (.cons (.var 0) .nil)) .nil)) (.blt .repr (.cons (.lst (.cons (.var 1) .nil)) .nil))))
.nil)
def n_law_same : List Str := ["told", "due"]
def d_law_same (f : Nat) : Bool := [100, 101, 102, 103, 104, 105, 106, 107, 108, 116, 115, 117, 118, 119, 120, 121, 614, 602, 601, 603, 615, 616, 604, 617, 607, 608, 618, 619].contains f
theorem ck_law_same : chkSs [] ⟨n_law_same, defScope (top 49), fun _ => true, gnm, d_law_same, fun x => decide (x < 5), true, true⟩ b_law_same (defBody (top 49)) = true := by decide +kernel
theorem sc_law_same : FnScope n_law_same ["told", "due"] (defScope (top 49)) := ⟨rfl, rfl, rfl, by decide +kernel, rfl, by decide +kernel, by decide +kernel⟩
def s0_law_odd_machine : Stm := (.ret (.ix (.plc 5) (.ix (.lst (.cons (.cst (.int 0)) (.cons (.cst (.int 0)) (.cons (.cst (.int 0)) (.cons (.cst (.int 0)) (.cons (.cst (.int 0)) (.cons (.cst (.int 1)) (.cons (.cst (.int 2)) (.cons (.cst (.int 3)) (.cons (.cst (.int 4)) (.cons (.cst (.int 5)) (.cons (.cst (.int 6)) (.cons (.cst (.int 7)) (.cons (.cst (.int 8)) (.cons (.cst (.int 9)) .nil))))))))))))))) (.call 602 (.cons (.plc 0) (.cons (.cst (.int 14)) .nil))))))
def s1_law_odd_machine : Stm := (.asg (.nm 5) (.bin .add (.plc 5) (.lst (.cons (.tup (.cons (.bin .add (.sl (.plc 6) .nop (.cst (.int 2))) (.tup (.cons (.tup (.cons (.cst (.str "e")) (.cons (.cst (.str "e")) .nil))) .nil))) (.cons (.var 7) (.cons (.var 8) (.cons (.var 9) .nil))))) (.cons (.tup (.cons (.bin .add (.tup (.cons (.tup (.cons (.cst (.str "b")) (.cons (.cst (.str "c")) (.cons (.cst (.str "d")) (.cons (.cst (.str "e")) .nil))))) .nil)) (.sl (.plc 6) (.cst (.int 1)) .nop)) (.cons (.var 7) (.cons (.var 8) (.cons (.var 9) .nil))))) .nil)))))
def s2_law_odd_machine : Stm := (.asg (.nm 5) (.bin .add (.plc 5) (.lst (.cons (.tup (.cons (.var 6) (.cons (.var 7) (.cons (.var 8) (.cons (.tup (.cons (.cst (.int 0)) (.cons (.cst (.int 0)) .nil))) .nil))))) (.cons (.tup (.cons (.var 6) (.cons (.cst (.int 9)) (.cons (.var 8) (.cons (.var 9) .nil))))) (.cons (.tup (.cons (.var 6) (.cons (.var 7) (.cons (.bin .add (.plc 8) (.bin .mul (.sl (.plc 8) .nop (.cst (.int 1))) (.cst (.int 8)))) (.cons (.var 9) .nil))))) (.cons (.tup (.cons (.bin .add (.tup (.cons (.tup (.cons (.cst (.str "A")) .nil)) .nil)) (.sl (.plc 6) (.cst (.int 1)) .nop)) (.cons (.var 7) (.cons (.var 8) (.cons (.var 9) .nil))))) .nil)))))))
def s3_law_odd_machine : Stm := (.asg (.nm 5) (.lst (.cons (.tup (.cons (.var 6) (.cons (.var 7) (.cons (.bin .add (.bin .add (.sl (.plc 8) .nop (.plc 2)) (.tup (.cons (.var 4) .nil))) (.sl (.plc 8) (.bin .add (.plc 2) (.cst (.int 1))) .nop)) (.cons (.var 9) .nil))))) (.cons (.tup (.cons (.var 6) (.cons (.var 7) (.cons (.tup .nil) (.cons (.tup .nil) .nil))))) (.cons (.tup (.cons (.var 6) (.cons (.cst (.int 0)) (.cons (.var 8) (.cons (.var 9) .nil))))) (.cons (.tup (.cons (.var 6) (.cons (.var 7) (.cons (.var 8) (.cons (.bin .add (.plc 9) (.tup (.cons (.blt .len (.cons (.plc 8) .nil)) .nil))) .nil))))) .nil))))))
def s4_law_odd_machine : Stm := (.asg (.nm 4) (.ix (.plc 3) (.call 602 (.cons (.plc 0) (.cons (.cst (.int 9)) .nil)))))
def s5_law_odd_machine : Stm := (.asg (.nm 3) (.bin .add (.plc 3) (.lst (.cons (.tup (.cons (.var 10) (.cons (.var 11) (.cons (.bin .add (.tup (.cons (.bin .add (.sl (.ix (.plc 12) (.cst (.int 0))) .nop (.neg (.cst (.int 1)))) (.tup (.cons (.neg (.cst (.int 1))) .nil))) .nil)) (.sl (.plc 12) (.cst (.int 1)) .nop)) .nil)))) (.cons (.tup (.cons (.var 10) (.cons (.var 11) (.cons (.bin .add (.tup (.cons (.bin .add (.ix (.plc 12) (.cst (.int 0))) (.tup (.cons (.cst (.int 0)) .nil))) .nil)) (.sl (.plc 12) (.cst (.int 1)) .nop)) .nil)))) .nil)))))
def s6_law_odd_machine : Stm := (.asg (.nm 3) (.bin .add (.plc 3) (.lst (.cons (.tup (.cons (.bin .add (.tup (.cons (.tup (.cons (.cst (.int 0)) (.cons (.var 7) .nil))) .nil)) (.sl (.plc 10) (.cst (.int 1)) .nop)) (.cons (.var 11) (.cons (.var 12) .nil)))) (.cons (.tup (.cons (.bin .add (.tup (.cons (.tup (.cons (.cst (.int 0)) (.cons (.neg (.cst (.int 1))) .nil))) .nil)) (.sl (.plc 10) (.cst (.int 1)) .nop)) (.cons (.var 11) (.cons (.var 12) .nil)))) (.cons (.tup (.cons (.var 10) (.cons (.var 11) (.cons (.bin .add (.tup (.cons (.sl (.ix (.plc 12) (.cst (.int 0))) (.cst (.int 1)) .nop) .nil)) (.sl (.plc 12) (.cst (.int 1)) .nop)) .nil)))) .nil))))))
def s7_law_odd_machine : Stm := (.asg (.nm 3) (.lst (.cons (.tup (.cons (.sl (.plc 10) (.cst (.int 1)) .nop) (.cons (.var 11) (.cons (.var 12) .nil)))) (.cons (.tup (.cons (.var 10) (.cons (.bin .add (.plc 11) (.tup (.cons (.cst (.int 0)) .nil))) (.cons (.var 12) .nil)))) (.cons (.tup (.cons (.var 10) (.cons (.var 11) (.cons (.sl (.plc 12) (.cst (.int 1)) .nop) .nil)))) (.cons (.tup (.cons (.bin .add (.tup (.cons (.tup (.cons (.blt .len (.cons (.plc 8) .nil)) (.cons (.cst (.int 0)) .nil))) .nil)) (.sl (.plc 10) (.cst (.int 1)) .nop)) (.cons (.var 11) (.cons (.var 12) .nil)))) .nil))))))
def s8_law_odd_machine : Stm := (.asg (.tup (.cons (.nm 10) (.cons (.nm 11) (.cons (.nm 12) .nil)))) (.ix (.plc 8) (.plc 2)))
def s9_law_odd_machine : Stm := (.asg (.nm 2) (.fz (.call 602 (.cons (.plc 0) (.cons (.blt .len (.cons (.plc 8) .nil)) .nil)))))
def s10_law_odd_machine : Stm := (.asg (.tup (.cons (.nm 6) (.cons (.nm 7) (.cons (.nm 8) (.cons (.nm 9) .nil))))) (.var 1))
def b_law_odd_machine : Stms := (.cons s10_law_odd_machine
(.cons s9_law_odd_machine
(.cons s8_law_odd_machine
(.cons s7_law_odd_machine
(.cons s6_law_odd_machine
(.cons s5_law_odd_machine
(.cons s4_law_odd_machine
(.cons s3_law_odd_machine
(.cons s2_law_odd_machine
(.cons s1_law_odd_machine
(.cons s0_law_odd_machine
.nil)))))))))))
def n_law_odd_machine : List Str := ["state", "machine", "at", "new", "row", "told", "signs", "marks", "rows", "goods", "calls", "stays", "backs"]
def d_law_odd_machine (f : Nat) : Bool := [100, 101, 102, 103, 104, 105, 106, 107, 108, 116, 115, 117, 118, 119, 120, 121, 614, 602, 601, 603, 615, 616, 604, 617, 607, 608, 618, 619, 606].contains f
theorem ck_law_odd_machine : chkSs [0] ⟨n_law_odd_machine, defScope (top 50), fun _ => true, gnm, d_law_odd_machine, fun x => decide (x < 5), true, true⟩ b_law_odd_machine (defBody (top 50)) = true := by decide +kernel
theorem sc_law_odd_machine : FnScope n_law_odd_machine ["state", "machine"] (defScope (top 50)) := ⟨rfl, rfl, rfl, by decide +kernel, rfl, by decide +kernel, by decide +kernel⟩
def c0_law_is_label : Ex := .lc (.cmp .in_ (.plc 1) (.cst (.str "abcdefghijklmnopqrstuvwxyz0123456789"))) (.nm 1) (.val (.var 0)) .nil [1]
def b_law_is_label : Stms := (.cons (.ife (.or (.cons (.cmp .lt (.blt .len (.cons (.plc 0) .nil)) (.cst (.int 1))) (.cons (.cmp .gt (.blt .len (.cons (.plc 0) .nil)) (.cst (.int 10))) (.cons (.cmp .nin (.ix (.plc 0) (.cst (.int 0))) (.cst (.str "abcdefghijklmnopqrstuvwxyz"))) .nil))))
(.cons (.ret (.cst (.bl false)))
.nil)
.nil)
(.cons (.ret (.blt .all (.cons c0_law_is_label .nil)))
.nil))
def n_law_is_label : List Str := ["text", "sign"]
def d_law_is_label (f : Nat) : Bool := [100, 101, 102, 103, 104, 105, 106, 107, 108, 116, 115, 117, 118, 119, 120, 121, 614, 602, 601, 603, 615, 616, 604, 617, 607, 608, 618, 619, 606, 620].contains f
theorem ck_law_is_label : chkSs [] ⟨n_law_is_label, defScope (top 51), fun _ => true, gnm, d_law_is_label, fun x => decide (x < 5), true, true⟩ b_law_is_label (defBody (top 51)) = true := by decide +kernel
theorem sc_law_is_label : FnScope n_law_is_label ["text"] (defScope (top 51)) := ⟨rfl, rfl, rfl, by decide +kernel, rfl, by decide +kernel, by decide +kernel⟩
def c0_law_signs_due : Ex := .lc (.call 609 (.cons (.var 2) .nil)) (.nm 2) (.val (.var 1)) .nil [2]
def b1_law_signs_due : Stms := (.cons (.ife (.or (.cons (.cmp .ne (.blt .list (.cons (.plc 1) .nil)) (.op1 .sset (.plc 1))) (.cons (.not (.blt .all (.cons c0_law_signs_due .nil))) .nil)))
(.cons (.ret (.cst (.str "refused")))
.nil)
.nil)
(.fgt [1] .nil))
def f2_law_signs_due : Stm := .for_ (.nm 1) (.val (.var 0)) b1_law_signs_due
def c3_law_signs_due : Ex := .lc (.blt .len (.cons (.plc 1) .nil)) (.nm 1) (.val (.var 0)) .nil [1]
def b_law_signs_due : Stms := (.cons (.ife (.cmp .gt (.blt .max (.cons c3_law_signs_due .nil)) (.cst (.int 3)))
(.cons (.ret (.cst (.str "large")))
.nil)
.nil)
(.cons f2_law_signs_due
(.fgt [1] (.cons (.ret (.cst .non))
.nil))))
def n_law_signs_due : List Str := ["signs", "labels", "label"]
def d_law_signs_due (f : Nat) : Bool := [100, 101, 102, 103, 104, 105, 106, 107, 108, 116, 115, 117, 118, 119, 120, 121, 614, 602, 601, 603, 615, 616, 604, 617, 607, 608, 618, 619, 606, 620, 609].contains f
theorem ck_law_signs_due : chkSs [] ⟨n_law_signs_due, defScope (top 52), fun _ => true, gnm, d_law_signs_due, fun x => decide (x < 5), true, true⟩ b_law_signs_due (defBody (top 52)) = true := by decide +kernel
theorem sc_law_signs_due : FnScope n_law_signs_due ["signs"] (defScope (top 52)) := ⟨rfl, rfl, rfl, by decide +kernel, rfl, by decide +kernel, by decide +kernel⟩
def s0_law_machine_due : Stm := (.ret (.cst .non))
def c1_law_machine_due : Ex := .lc (.chn .le .lt (.cst (.int 0)) (.plc 15) (.plc 4)) (.tup (.cons (.nm 14) (.cons (.nm 15) .nil))) (.val (.var 7)) .nil [14, 15]
def c2_law_machine_due : Ex := .lc (.chn .le .lt (.cst (.int 0)) (.plc 12) (.plc 2)) (.nm 12) (.val (.var 10)) .nil [12]
def b3_law_machine_due : Stms := (.cons (.expr (.ext 10 (.plc 11)))
(.fgt [11] .nil))
def f4_law_machine_due : Stm := .for_ (.nm 11) (.val (.var 9)) b3_law_machine_due
def c5_law_machine_due : Ex := .lc (.var 14) (.tup (.cons (.nm 14) (.cons (.nm 15) .nil))) (.val (.var 7)) .nil [14, 15]
def c6_law_machine_due : Ex := .lc (.cmp .eq (.blt .len (.cons (.plc 11) .nil)) (.plc 4)) (.nm 11) (.val (.var 9)) .nil [11]
def c7_law_machine_due : Ex := .lc (.blt .len (.cons (.plc 13) .nil)) (.nm 13) (.val (.var 3)) .nil [13]
def b8_law_machine_due : Stms := (.cons (.ife (.or (.cons (.cmp .ne (.lst (.cons (.blt .len (.cons (.plc 7) .nil)) (.cons (.blt .len (.cons (.plc 8) .nil)) (.cons (.blt .len (.cons (.plc 9) .nil)) .nil)))) c7_law_machine_due) (.cons (.not (.blt .all (.cons c6_law_machine_due .nil))) .nil)))
(.cons (.ret (.cst (.str "refused")))
.nil)
.nil)
(.cons (.asg (.nm 10) (.bin .add c5_law_machine_due (.blt .list (.cons (.plc 8) .nil))))
(.fgt [8, 11] (.cons f4_law_machine_due
(.fgt [11] (.cons (.ife (.or (.cons (.not (.blt .all (.cons c2_law_machine_due .nil))) (.cons (.not (.blt .all (.cons c1_law_machine_due .nil))) .nil)))
(.cons (.ret (.cst (.str "refused")))
.nil)
.nil)
(.fgt [7, 8, 9, 10, 11] .nil)))))))
def f9_law_machine_due : Stm := .for_ (.tup (.cons (.nm 7) (.cons (.nm 8) (.cons (.nm 9) .nil)))) (.val (.var 5)) b8_law_machine_due
def c10_law_machine_due : Ex := .lc (.chn .le .lt (.cst (.int 0)) (.plc 12) (.plc 2)) (.nm 12) (.val (.var 6)) .nil [12]
def s11_law_machine_due : Stm := (.ife (.or (.cons (.cmp .eq (.plc 2) (.cst (.int 0))) (.cons (.cmp .lt (.plc 4) (.cst (.int 1))) (.cons (.cmp .ne (.blt .list (.cons (.plc 6) .nil)) (.op1 .sset (.plc 6))) (.cons (.not (.blt .all (.cons c10_law_machine_due .nil))) .nil)))))
(.cons (.ret (.cst (.str "refused")))
.nil)
.nil)
def s12_law_machine_due : Stm := (.ife (.or (.cons (.cmp .gt (.plc 2) (.cst (.int 8))) (.cons (.cmp .gt (.plc 4) (.cst (.int 8))) .nil)))
(.cons (.ret (.cst (.str "large")))
.nil)
.nil)
def s13_law_machine_due : Stm := (.asg (.nm 2) (.blt .len (.cons (.plc 5) .nil)))
def s14_law_machine_due : Stm := (.ife (.cmp .isnot (.plc 1) (.cst .non))
(.cons (.ret (.mv 1))
.nil)
.nil)
def s15_law_machine_due : Stm := (.asg (.nm 1) (.call 610 (.cons (.var 3) .nil)))
def s16_law_machine_due : Stm := (.asg (.tup (.cons (.nm 3) (.cons (.nm 4) (.cons (.nm 5) (.cons (.nm 6) .nil))))) (.var 0))
def b_law_machine_due : Stms := (.cons s16_law_machine_due
(.cons s15_law_machine_due
(.cons s14_law_machine_due
(.cons s13_law_machine_due
(.cons s12_law_machine_due
(.cons s11_law_machine_due
(.fgt [0, 1, 6] (.cons f9_law_machine_due
(.fgt [7, 8, 9, 10, 11] (.cons s0_law_machine_due
.nil))))))))))
def n_law_machine_due : List Str := ["machine", "due", "many", "signs", "marks", "rows", "goods", "calls", "stays", "backs", "numbers", "row", "one", "labels", "target", "mark"]
def d_law_machine_due (f : Nat) : Bool := [100, 101, 102, 103, 104, 105, 106, 107, 108, 116, 115, 117, 118, 119, 120, 121, 614, 602, 601, 603, 615, 616, 604, 617, 607, 608, 618, 619, 606, 620, 609, 610].contains f
theorem ck_law_machine_due : chkSs [] ⟨n_law_machine_due, defScope (top 53), fun _ => true, gnm, d_law_machine_due, fun x => decide (x < 5), true, true⟩ b_law_machine_due (defBody (top 53)) = true := by decide +kernel
theorem sc_law_machine_due : FnScope n_law_machine_due ["machine"] (defScope (top 53)) := ⟨rfl, rfl, rfl, by decide +kernel, rfl, by decide +kernel, by decide +kernel⟩
def b_law_told : Stms := (.cons (.tryL (.cons (.ife (.cmp .eq (.plc 0) (.cst (.int 0)))
(.cons (.ret (.tup (.cons (.cst (.str "told")) (.cons (.fz (.call 115 (.cons (.var 1) .nil))) .nil))))
.nil)
.nil)
(.cons (.ife (.cmp .eq (.plc 0) (.cst (.int 1)))
(.cons (.ret (.tup (.cons (.cst (.str "told")) (.cons (.fz (.call 119 (.cons (.var 1) (.cons (.var 2) .nil)))) .nil))))
.nil)
.nil)
(.cons (.ife (.cmp .eq (.plc 0) (.cst (.int 2)))
(.cons (.ret (.tup (.cons (.cst (.str "told")) (.cons (.fz (.call 120 (.cons (.var 1) (.cons (.var 2) .nil)))) .nil))))
.nil)
.nil)
(.cons (.ret (.tup (.cons (.cst (.str "told")) (.cons (.fz (.call 121 (.cons (.var 1) (.cons (.var 2) (.cons (.var 3) .nil))))) .nil))))
.nil)))) 0 4)
(.fgt [4] .nil))
def n_law_told : List Str := ["kind", "machine", "word", "paper", "e"]
def d_law_told (f : Nat) : Bool := [100, 101, 102, 103, 104, 105, 106, 107, 108, 116, 115, 117, 118, 119, 120, 121, 614, 602, 601, 603, 615, 616, 604, 617, 607, 608, 618, 619, 606, 620, 609, 610, 621].contains f
theorem ck_law_told : chkSs [] ⟨n_law_told, defScope (top 54), fun _ => true, gnm, d_law_told, fun x => decide (x < 5), true, true⟩ b_law_told (defBody (top 54)) = true := by decide +kernel
theorem sc_law_told : FnScope n_law_told ["kind", "machine", "word", "paper"] (defScope (top 54)) := ⟨rfl, rfl, rfl, by decide +kernel, rfl, by decide +kernel, by decide +kernel⟩
def b0_law_trace : Stms := (.cons (.ife (.and (.cons (.cmp .eq (.ix (.plc 3) (.cst (.int 0))) (.cst (.str ">"))) (.cons (.cmp .eq (.blt .len (.cons (.ix (.ix (.plc 2) (.neg (.cst (.int 1)))) (.cst (.int 1))) .nil)) (.cst (.int 0))) .nil)))
(.cons (.ret (.cst .non))
.nil)
.nil)
(.cons (.expr (.app 2 (.fz (.call 614 (.cons (.var 0) (.cons (.ix (.plc 2) (.neg (.cst (.int 1)))) (.cons (.var 3) .nil)))))))
(.fgt [3] .nil)))
def f1_law_trace : Stm := .for_ (.nm 3) (.val (.var 1)) b0_law_trace
def b_law_trace : Stms := (.cons (.asg (.nm 2) (.lst (.cons (.tup (.cons (.cst (.int 0)) (.cons (.tup .nil) .nil))) .nil)))
(.cons f1_law_trace
(.fgt [3] (.cons (.ret (.mv 2))
.nil))))
def n_law_trace : List Str := ["machine", "word", "found", "sign"]
def d_law_trace (f : Nat) : Bool := [100, 101, 102, 103, 104, 105, 106, 107, 108, 116, 115, 117, 118, 119, 120, 121, 614, 602, 601, 603, 615, 616, 604, 617, 607, 608, 618, 619, 606, 620, 609, 610, 621, 611].contains f
theorem ck_law_trace : chkSs [] ⟨n_law_trace, defScope (top 55), fun _ => true, gnm, d_law_trace, fun x => decide (x < 5), true, true⟩ b_law_trace (defBody (top 55)) = true := by decide +kernel
theorem sc_law_trace : FnScope n_law_trace ["machine", "word"] (defScope (top 55)) := ⟨rfl, rfl, rfl, by decide +kernel, rfl, by decide +kernel, by decide +kernel⟩
def b_law_bent : Stms := (.cons (.asg (.nm 2) (.fz (.call 602 (.cons (.plc 0) (.cons (.blt .len (.cons (.plc 1) .nil)) .nil)))))
(.cons (.asg (.tup (.cons (.nm 4) (.cons (.nm 5) .nil))) (.ix (.plc 1) (.plc 2)))
(.cons (.asg (.nm 3) (.lst (.cons (.bin .add (.bin .add (.sl (.plc 1) .nop (.plc 2)) (.tup (.cons (.tup (.cons (.bin .add (.plc 4) (.cst (.int 1))) (.cons (.var 5) .nil))) .nil))) (.sl (.plc 1) (.bin .add (.plc 2) (.cst (.int 1))) .nop)) (.cons (.bin .add (.bin .add (.sl (.plc 1) .nop (.plc 2)) (.tup (.cons (.tup (.cons (.var 4) (.cons (.bin .add (.plc 5) (.tup (.cons (.cst (.int 0)) .nil))) .nil))) .nil))) (.sl (.plc 1) (.bin .add (.plc 2) (.cst (.int 1))) .nop)) (.cons (.sl (.plc 1) (.cst (.int 1)) .nop) (.cons (.sl (.plc 1) .nop (.neg (.cst (.int 1)))) (.cons (.bin .add (.plc 1) (.sl (.plc 1) (.neg (.cst (.int 1))) .nop)) (.cons (.op1 .rev (.plc 1)) (.cons (.tup .nil) .nil)))))))))
(.cons (.ret (.ix (.plc 3) (.call 602 (.cons (.plc 0) (.cons (.cst (.int 7)) .nil)))))
.nil))))
def n_law_bent : List Str := ["state", "paper", "at", "rows", "number", "marks"]
def d_law_bent (f : Nat) : Bool := [100, 101, 102, 103, 104, 105, 106, 107, 108, 116, 115, 117, 118, 119, 120, 121, 614, 602, 601, 603, 615, 616, 604, 617, 607, 608, 618, 619, 606, 620, 609, 610, 621, 611, 622].contains f
theorem ck_law_bent : chkSs [0] ⟨n_law_bent, defScope (top 56), fun _ => true, gnm, d_law_bent, fun x => decide (x < 5), true, true⟩ b_law_bent (defBody (top 56)) = true := by decide +kernel
theorem sc_law_bent : FnScope n_law_bent ["state", "paper"] (defScope (top 56)) := ⟨rfl, rfl, rfl, by decide +kernel, rfl, by decide +kernel, by decide +kernel⟩
def c0_law : Ex := .lc (.call 611 (.cons (.var 17) (.cons (.var 4) (.cons (.tup (.cons (.tup (.cons (.cst (.str "=")) (.cons (.cst (.str "zz")) .nil))) .nil)) (.cons (.tup .nil) .nil))))) (.nm 17) (.val (.lst (.cons (.cst (.int 1)) (.cons (.cst (.int 2)) (.cons (.cst (.int 3)) .nil))))) .nil [17]
def s1_law : Stm := (.ife (.or (.cons (.cmp .ne c0_law (.bin .mul (.lst (.cons (.cst (.str "refused")) .nil)) (.cst (.int 3)))) (.cons (.cmp .ne (.blt .repr (.cons (.tup (.cons (.var 4) (.cons (.var 5) .nil))) .nil)) (.plc 6)) .nil)))
(.cons (.ret (.cst (.bl false)))
.nil)
.nil)
def c2_law : Ex := .lc (.call 611 (.cons (.var 17) (.cons (.var 13) (.cons (.var 15) (.cons (.tup .nil) .nil))))) (.nm 17) (.rng (.cons (.cst (.int 4)) .nil)) .nil [17]
def s3_law : Stm := (.ife (.cmp .is_ (.plc 14) (.cst .non))
(.cons (.asg (.nm 14) (.tup (.cons (.cst (.str "told")) (.cons (.cst .non) .nil))))
(.cons (.ife (.cmp .ne (.call 611 (.cons (.cst (.int 0)) (.cons (.var 13) (.cons (.cst (.int 0)) (.cons (.cst (.int 0)) .nil))))) (.plc 14))
(.cons (.ret (.cst (.bl false)))
.nil)
.nil)
.nil))
(.cons (.ife (.cmp .ne c2_law (.bin .mul (.lst (.cons (.var 14) .nil)) (.cst (.int 4))))
(.cons (.ret (.cst (.bl false)))
.nil)
.nil)
.nil))
def s4_law : Stm := (.asg (.nm 15) (.tup (.cons (.tup (.cons (.cst (.str "=")) (.cons (.cst (.str "A")) .nil))) .nil)))
def s5_law : Stm := (.asg (.nm 14) (.fz (.call 621 (.cons (.var 13) .nil))))
def s6_law : Stm := (.asg (.nm 13) (.fz (.call 620 (.cons (.plc 1) (.cons (.var 4) .nil)))))
def b7_law : Stms := (.cons (.asg (.nm 16) (.and (.cons (.cmp .isnot (.plc 9) (.cst .non)) (.cons (.cmp .eq (.plc 12) (.blt .tuple (.cons (.plc 9) .nil))) .nil))))
(.cons (.ife (.not (.call 606 (.cons (.call 611 (.cons (.cst (.int 3)) (.cons (.var 4) (.cons (.var 5) (.cons (.var 12) .nil))))) (.cons (.ix (.lst (.cons (.cst (.str "paper")) (.cons (.tup (.cons (.cst (.str "told")) (.cons (.cst (.bl true)) .nil))) .nil))) (.blt .int (.cons (.plc 16) .nil))) .nil))))
(.cons (.ret (.cst (.bl false)))
.nil)
.nil)
(.fgt [12, 16] .nil)))
def f8_law : Stm := .for_ (.nm 12) (.val (.var 11)) b7_law
def c9_law : Ex := .lc (.call 623 (.cons (.plc 1) (.cons (.blt .tuple (.cons (.plc 9) .nil)) .nil))) (.nm 17) (.rng (.cons (.cst (.int 4)) .nil)) .nil [17]
def s10_law : Stm := (.ife (.cmp .isnot (.plc 9) (.cst .non))
(.cons (.asg (.nm 11) (.bin .add (.bin .add (.plc 11) (.lst (.cons (.blt .tuple (.cons (.plc 9) .nil)) .nil))) c9_law))
.nil)
.nil)
def s11_law : Stm := (.asg (.nm 11) (.lst (.cons (.bin .mul (.tup (.cons (.tup (.cons (.cst (.int 0)) (.cons (.tup .nil) .nil))) .nil)) (.bin .add (.blt .len (.cons (.plc 5) .nil)) (.cst (.int 1)))) (.cons (.tup .nil) .nil))))
def c12_law : Ex := .lc (.call 611 (.cons (.var 17) (.cons (.var 4) (.cons (.var 5) (.cons (.cst (.int 0)) .nil))))) (.nm 17) (.rng (.cons (.cst (.int 3)) .nil)) .nil [17]
def s13_law : Stm := (.ife (.not (.call 606 (.cons c12_law (.cons (.lst (.cons (.tup (.cons (.cst (.str "told")) (.cons (.cst .non) .nil))) (.cons (.var 8) (.cons (.var 10) .nil)))) .nil))))
(.cons (.ret (.cst (.bl false)))
.nil)
.nil)
def s14_law : Stm := (.ife (.cmp .isnot (.plc 9) (.cst .non))
(.cons (.asg (.nm 10) (.tup (.cons (.cst (.str "told")) (.cons (.var 9) .nil))))
.nil)
.nil)
def s15_law : Stm := (.asg (.nm 10) (.cst (.str "missing")))
def s16_law : Stm := (.asg (.nm 9) (.fz (.call 622 (.cons (.var 4) (.cons (.var 5) .nil)))))
def s17_law : Stm := (.ife (.plc 7)
(.cons (.asg (.nm 8) (.tup (.cons (.cst (.str "told")) (.cons (.fz (.call 619 (.cons (.var 4) (.cons (.var 5) .nil)))) .nil))))
.nil)
.nil)
def s18_law : Stm := (.asg (.nm 8) (.cst (.str "refused")))
def s19_law : Stm := (.asg (.nm 7) (.fz (.call 608 (.cons (.var 5) .nil))))
def s20_law : Stm := (.asg (.nm 6) (.blt .repr (.cons (.tup (.cons (.var 4) (.cons (.var 5) .nil))) .nil)))
def s21_law : Stm := (.asg (.nm 5) (.ix (.lst (.cons (.fz (.call 616 (.cons (.plc 1) (.cons (.var 3) (.cons (.cst (.int 12)) .nil))))) (.cons (.fz (.call 617 (.cons (.plc 1) (.cons (.var 3) (.cons (.cst (.int 12)) .nil))))) .nil))) (.call 602 (.cons (.plc 1) (.cons (.cst (.int 2)) .nil)))))
def s22_law : Stm := (.asg (.nm 4) (.fz (.call 615 (.cons (.plc 1) (.cons (.var 3) (.cons (.cst (.int 8)) (.cons (.cst (.int 8)) .nil)))))))
def s23_law : Stm := (.asg (.nm 3) (.fz (.call 603 (.cons (.plc 1) .nil))))
def b24_law : Stms := (.cons s23_law
(.cons s22_law
(.cons s21_law
(.cons s20_law
(.cons s19_law
(.cons s18_law
(.cons s17_law
(.cons s16_law
(.cons s15_law
(.cons s14_law
(.cons s13_law
(.cons s11_law
(.cons s10_law
(.fgt [2, 3, 7, 8, 10, 12, 13, 14, 15, 16] (.cons f8_law
(.fgt [12, 16] (.cons s6_law
(.cons s5_law
(.cons s4_law
(.cons s3_law
(.fgt [14] (.cons s1_law
(.fgt [2, 3, 4, 5, 6, 7, 8, 9, 10, 11, 12, 13, 14, 15, 16] .nil)))))))))))))))))))))))
def f25_law : Stm := .for_ (.nm 2) (.rng (.cons (.cst (.int 8)) .nil)) b24_law
def b_law : Stms := (.cons (.asg (.nm 1) (.lst (.cons (.fz (.call 601 (.cons (.var 0) .nil))) (.cons (.cst (.int 0)) .nil))))
(.fgt [0] (.cons f25_law
(.fgt [2, 3, 4, 5, 6, 7, 8, 9, 10, 11, 12, 13, 14, 15, 16] (.cons (.ret (.cmp .eq (.tup (.cons (.glo 19) (.cons (.glo 20) .nil))) (.tup (.cons (.cst (.int 8)) (.cons (.cst (.int 8)) .nil)))))
.nil)))))
def n_law : List Str := ["script", "state", "turn", "signs", "machine", "word", "kept", "whole", "good", "made", "due", "papers", "paper", "odd", "wrong", "bad", "right", "k"]
def d_law (f : Nat) : Bool := [100, 101, 102, 103, 104, 105, 106, 107, 108, 116, 115, 117, 118, 119, 120, 121, 614, 602, 601, 603, 615, 616, 604, 617, 607, 608, 618, 619, 606, 620, 609, 610, 621, 611, 622, 623].contains f
theorem ck_law : chkSs [] ⟨n_law, defScope (top 57), fun _ => true, gnm, d_law, fun x => decide (x < 5), true, true⟩ b_law (defBody (top 57)) = true := by decide +kernel
theorem sc_law : FnScope n_law ["script"] (defScope (top 57)) := ⟨rfl, rfl, rfl, by decide +kernel, rfl, by decide +kernel, by decide +kernel⟩
def tab : List Df := [⟨100, b_is_label, 2, 1⟩, ⟨101, b_rising, 3, 1⟩, ⟨102, b_check_signs, 3, 1⟩, ⟨103, b_sorted_signs, 5, 1⟩, ⟨104, b_check_word, 3, 1⟩, ⟨105, b_check_of, 4, 2⟩, ⟨106, b_heights, 4, 1⟩, ⟨107, b_is_known_whole, 2, 1⟩, ⟨108, b_check_whole, 2, 2⟩, ⟨116, b_check_row, 11, 4⟩, ⟨115, b_check_machine, 9, 1⟩, ⟨117, b_moved, 15, 3⟩, ⟨118, b_led, 5, 3⟩, ⟨119, b_is_good, 2, 2⟩, ⟨120, b_trace, 5, 2⟩, ⟨121, b_check_trace, 4, 3⟩, ⟨614, b_law_behind, 7, 3⟩, ⟨602, b_law_next, 3, 2⟩, ⟨601, b_law_stream, 6, 1⟩, ⟨603, b_law_signs, 3, 1⟩, ⟨615, b_law_machine, 14, 4⟩, ⟨616, b_law_word, 7, 3⟩, ⟨604, b_law_all_signs, 4, 1⟩, ⟨617, b_law_any_word, 5, 3⟩, ⟨607, b_law_heights, 4, 1⟩, ⟨608, b_law_is_whole, 2, 1⟩, ⟨618, b_law_led, 5, 3⟩, ⟨619, b_law_good, 2, 2⟩, ⟨606, b_law_same, 2, 2⟩, ⟨620, b_law_odd_machine, 13, 2⟩, ⟨609, b_law_is_label, 2, 1⟩, ⟨610, b_law_signs_due, 3, 1⟩, ⟨621, b_law_machine_due, 16, 1⟩, ⟨611, b_law_told, 5, 4⟩, ⟨622, b_law_trace, 4, 2⟩, ⟨623, b_law_bent, 6, 2⟩, ⟨613, b_law, 18, 1⟩]
def ioOf (f : Nat) : List Nat := (([(602, [0]), (603, [0]), (615, [0]), (616, [0]), (617, [0]), (620, [0]), (623, [0])] : List (Nat × List Nat)).lookup f).getD []
def cstOf (c : Nat) : Option D := ([(10, .int 10), (11, .int 3), (12, .int 200), (14, .str "<"), (15, .str "="), (16, .str ">"), (17, .str "abcdefghijklmnopqrstuvwxyz"), (18, .str "abcdefghijklmnopqrstuvwxyz0123456789"), (19, .int 8), (20, .int 8)] : List (Nat × D)).lookup c
def leOf (x k : Nat) : Option D := if x = 0 then (if k = 1 then some (.str "refused") else if k = 2 then some (.str "large") else if k = 3 then some (.str "missing") else if k = 4 then some (.str "paper") else none) else none
def subT : List (Nat × Nat × Bool) := [(0, 0, true), (0, 1, false), (0, 2, false), (0, 3, false), (0, 4, false), (1, 0, true), (1, 1, true), (1, 2, false), (1, 3, false), (1, 4, false), (2, 0, true), (2, 1, false), (2, 2, true), (2, 3, false), (2, 4, false), (3, 0, true), (3, 1, false), (3, 2, false), (3, 3, true), (3, 4, false), (4, 0, true), (4, 1, false), (4, 2, false), (4, 3, false), (4, 4, true)]
def subOf (k x : Nat) : Option Bool := (subT.find? fun p => p.1 == k && p.2.1 == x).map (·.2.2)
def G0 : Glb := ⟨gnm, fun _ => none, ioOf, cstOf, leOf, subOf⟩
def G : Glb := G0.adds tab
theorem tab_ok : dfsOk [] tab = true := by decide +kernel
theorem G_io (f : Nat) : G.io f = ioOf f := congrFun (adds_io tab G0) f
theorem G_le : G.le = leOf := adds_le tab G0
@[simp] theorem le_1 : G.le 0 1 = some (.str "refused") := rfl
@[simp] theorem le_2 : G.le 0 2 = some (.str "large") := rfl
@[simp] theorem le_3 : G.le 0 3 = some (.str "missing") := rfl
@[simp] theorem le_4 : G.le 0 4 = some (.str "paper") := rfl
@[simp] theorem sb_10 : G.sub 1 0 = some true := rfl
@[simp] theorem sb_11 : G.sub 1 1 = some true := rfl
@[simp] theorem sb_12 : G.sub 1 2 = some false := rfl
@[simp] theorem sb_13 : G.sub 1 3 = some false := rfl
@[simp] theorem sb_14 : G.sub 1 4 = some false := rfl
@[simp] theorem sb_20 : G.sub 2 0 = some true := rfl
@[simp] theorem sb_21 : G.sub 2 1 = some false := rfl
@[simp] theorem sb_22 : G.sub 2 2 = some true := rfl
@[simp] theorem sb_23 : G.sub 2 3 = some false := rfl
@[simp] theorem sb_24 : G.sub 2 4 = some false := rfl
@[simp] theorem sb_30 : G.sub 3 0 = some true := rfl
@[simp] theorem sb_31 : G.sub 3 1 = some false := rfl
@[simp] theorem sb_32 : G.sub 3 2 = some false := rfl
@[simp] theorem sb_33 : G.sub 3 3 = some true := rfl
@[simp] theorem sb_34 : G.sub 3 4 = some false := rfl
@[simp] theorem sb_40 : G.sub 4 0 = some true := rfl
@[simp] theorem sb_41 : G.sub 4 1 = some false := rfl
@[simp] theorem sb_42 : G.sub 4 2 = some false := rfl
@[simp] theorem sb_43 : G.sub 4 3 = some false := rfl
@[simp] theorem sb_44 : G.sub 4 4 = some true := rfl
@[simp] theorem gc_MAX_LABEL : G.cst 10 = some (.int 10) := rfl
@[simp] theorem gc_MAX_OF_SORT : G.cst 11 = some (.int 3) := rfl
@[simp] theorem gc_MAX_WORD : G.cst 12 = some (.int 200) := rfl
@[simp] theorem gc_CALL : G.cst 14 = some (.str "<") := rfl
@[simp] theorem gc_STAY : G.cst 15 = some (.str "=") := rfl
@[simp] theorem gc_BACK : G.cst 16 = some (.str ">") := rfl
@[simp] theorem gc_FIRST : G.cst 17 = some (.str "abcdefghijklmnopqrstuvwxyz") := rfl
@[simp] theorem gc_LATER : G.cst 18 = some (.str "abcdefghijklmnopqrstuvwxyz0123456789") := rfl
@[simp] theorem gc_MAX_STATES : G.cst 19 = some (.int 8) := rfl
@[simp] theorem gc_MAX_MARKS : G.cst 20 = some (.int 8) := rfl
theorem fx_is_label : G.fn 100 = some (runDef G [] b_is_label 2 1) := adds_fn tab [] G0 tab_ok ⟨100, b_is_label, 2, 1⟩ (List.mem_of_getElem? (i := 0) rfl)
theorem fx_rising : G.fn 101 = some (runDef G [] b_rising 3 1) := adds_fn tab [] G0 tab_ok ⟨101, b_rising, 3, 1⟩ (List.mem_of_getElem? (i := 1) rfl)
theorem fx_check_signs : G.fn 102 = some (runDef G [] b_check_signs 3 1) := adds_fn tab [] G0 tab_ok ⟨102, b_check_signs, 3, 1⟩ (List.mem_of_getElem? (i := 2) rfl)
theorem fx_sorted_signs : G.fn 103 = some (runDef G [] b_sorted_signs 5 1) := adds_fn tab [] G0 tab_ok ⟨103, b_sorted_signs, 5, 1⟩ (List.mem_of_getElem? (i := 3) rfl)
theorem fx_check_word : G.fn 104 = some (runDef G [] b_check_word 3 1) := adds_fn tab [] G0 tab_ok ⟨104, b_check_word, 3, 1⟩ (List.mem_of_getElem? (i := 4) rfl)
theorem fx_check_of : G.fn 105 = some (runDef G [] b_check_of 4 2) := adds_fn tab [] G0 tab_ok ⟨105, b_check_of, 4, 2⟩ (List.mem_of_getElem? (i := 5) rfl)
theorem fx_heights : G.fn 106 = some (runDef G [] b_heights 4 1) := adds_fn tab [] G0 tab_ok ⟨106, b_heights, 4, 1⟩ (List.mem_of_getElem? (i := 6) rfl)
theorem fx_is_known_whole : G.fn 107 = some (runDef G [] b_is_known_whole 2 1) := adds_fn tab [] G0 tab_ok ⟨107, b_is_known_whole, 2, 1⟩ (List.mem_of_getElem? (i := 7) rfl)
theorem fx_check_whole : G.fn 108 = some (runDef G [] b_check_whole 2 2) := adds_fn tab [] G0 tab_ok ⟨108, b_check_whole, 2, 2⟩ (List.mem_of_getElem? (i := 8) rfl)
theorem fx_check_row : G.fn 116 = some (runDef G [] b_check_row 11 4) := adds_fn tab [] G0 tab_ok ⟨116, b_check_row, 11, 4⟩ (List.mem_of_getElem? (i := 9) rfl)
theorem fx_check_machine : G.fn 115 = some (runDef G [] b_check_machine 9 1) := adds_fn tab [] G0 tab_ok ⟨115, b_check_machine, 9, 1⟩ (List.mem_of_getElem? (i := 10) rfl)
theorem fx_moved : G.fn 117 = some (runDef G [] b_moved 15 3) := adds_fn tab [] G0 tab_ok ⟨117, b_moved, 15, 3⟩ (List.mem_of_getElem? (i := 11) rfl)
theorem fx_led : G.fn 118 = some (runDef G [] b_led 5 3) := adds_fn tab [] G0 tab_ok ⟨118, b_led, 5, 3⟩ (List.mem_of_getElem? (i := 12) rfl)
theorem fx_is_good : G.fn 119 = some (runDef G [] b_is_good 2 2) := adds_fn tab [] G0 tab_ok ⟨119, b_is_good, 2, 2⟩ (List.mem_of_getElem? (i := 13) rfl)
theorem fx_trace : G.fn 120 = some (runDef G [] b_trace 5 2) := adds_fn tab [] G0 tab_ok ⟨120, b_trace, 5, 2⟩ (List.mem_of_getElem? (i := 14) rfl)
theorem fx_check_trace : G.fn 121 = some (runDef G [] b_check_trace 4 3) := adds_fn tab [] G0 tab_ok ⟨121, b_check_trace, 4, 3⟩ (List.mem_of_getElem? (i := 15) rfl)
theorem fx_law_behind : G.fn 614 = some (runDef G [] b_law_behind 7 3) := adds_fn tab [] G0 tab_ok ⟨614, b_law_behind, 7, 3⟩ (List.mem_of_getElem? (i := 16) rfl)
theorem fx_law_next : G.fn 602 = some (runDef G [0] b_law_next 3 2) := adds_fn tab [] G0 tab_ok ⟨602, b_law_next, 3, 2⟩ (List.mem_of_getElem? (i := 17) rfl)
theorem fx_law_stream : G.fn 601 = some (runDef G [] b_law_stream 6 1) := adds_fn tab [] G0 tab_ok ⟨601, b_law_stream, 6, 1⟩ (List.mem_of_getElem? (i := 18) rfl)
theorem fx_law_signs : G.fn 603 = some (runDef G [0] b_law_signs 3 1) := adds_fn tab [] G0 tab_ok ⟨603, b_law_signs, 3, 1⟩ (List.mem_of_getElem? (i := 19) rfl)
theorem fx_law_machine : G.fn 615 = some (runDef G [0] b_law_machine 14 4) := adds_fn tab [] G0 tab_ok ⟨615, b_law_machine, 14, 4⟩ (List.mem_of_getElem? (i := 20) rfl)
theorem fx_law_word : G.fn 616 = some (runDef G [0] b_law_word 7 3) := adds_fn tab [] G0 tab_ok ⟨616, b_law_word, 7, 3⟩ (List.mem_of_getElem? (i := 21) rfl)
theorem fx_law_all_signs : G.fn 604 = some (runDef G [] b_law_all_signs 4 1) := adds_fn tab [] G0 tab_ok ⟨604, b_law_all_signs, 4, 1⟩ (List.mem_of_getElem? (i := 22) rfl)
theorem fx_law_any_word : G.fn 617 = some (runDef G [0] b_law_any_word 5 3) := adds_fn tab [] G0 tab_ok ⟨617, b_law_any_word, 5, 3⟩ (List.mem_of_getElem? (i := 23) rfl)
theorem fx_law_heights : G.fn 607 = some (runDef G [] b_law_heights 4 1) := adds_fn tab [] G0 tab_ok ⟨607, b_law_heights, 4, 1⟩ (List.mem_of_getElem? (i := 24) rfl)
theorem fx_law_is_whole : G.fn 608 = some (runDef G [] b_law_is_whole 2 1) := adds_fn tab [] G0 tab_ok ⟨608, b_law_is_whole, 2, 1⟩ (List.mem_of_getElem? (i := 25) rfl)
theorem fx_law_led : G.fn 618 = some (runDef G [] b_law_led 5 3) := adds_fn tab [] G0 tab_ok ⟨618, b_law_led, 5, 3⟩ (List.mem_of_getElem? (i := 26) rfl)
theorem fx_law_good : G.fn 619 = some (runDef G [] b_law_good 2 2) := adds_fn tab [] G0 tab_ok ⟨619, b_law_good, 2, 2⟩ (List.mem_of_getElem? (i := 27) rfl)
theorem fx_law_same : G.fn 606 = some (runDef G [] b_law_same 2 2) := adds_fn tab [] G0 tab_ok ⟨606, b_law_same, 2, 2⟩ (List.mem_of_getElem? (i := 28) rfl)
theorem fx_law_odd_machine : G.fn 620 = some (runDef G [0] b_law_odd_machine 13 2) := adds_fn tab [] G0 tab_ok ⟨620, b_law_odd_machine, 13, 2⟩ (List.mem_of_getElem? (i := 29) rfl)
theorem fx_law_is_label : G.fn 609 = some (runDef G [] b_law_is_label 2 1) := adds_fn tab [] G0 tab_ok ⟨609, b_law_is_label, 2, 1⟩ (List.mem_of_getElem? (i := 30) rfl)
theorem fx_law_signs_due : G.fn 610 = some (runDef G [] b_law_signs_due 3 1) := adds_fn tab [] G0 tab_ok ⟨610, b_law_signs_due, 3, 1⟩ (List.mem_of_getElem? (i := 31) rfl)
theorem fx_law_machine_due : G.fn 621 = some (runDef G [] b_law_machine_due 16 1) := adds_fn tab [] G0 tab_ok ⟨621, b_law_machine_due, 16, 1⟩ (List.mem_of_getElem? (i := 32) rfl)
theorem fx_law_told : G.fn 611 = some (runDef G [] b_law_told 5 4) := adds_fn tab [] G0 tab_ok ⟨611, b_law_told, 5, 4⟩ (List.mem_of_getElem? (i := 33) rfl)
theorem fx_law_trace : G.fn 622 = some (runDef G [] b_law_trace 4 2) := adds_fn tab [] G0 tab_ok ⟨622, b_law_trace, 4, 2⟩ (List.mem_of_getElem? (i := 34) rfl)
theorem fx_law_bent : G.fn 623 = some (runDef G [0] b_law_bent 6 2) := adds_fn tab [] G0 tab_ok ⟨623, b_law_bent, 6, 2⟩ (List.mem_of_getElem? (i := 35) rfl)
theorem fx_law : G.fn 613 = some (runDef G [] b_law 18 1) := adds_fn tab [] G0 tab_ok ⟨613, b_law, 18, 1⟩ (List.mem_of_getElem? (i := 36) rfl)
end NW

set_option Elab.async false
set_option linter.all false
set_option maxRecDepth 100000
set_option maxHeartbeats 0
namespace NW
open PySem PySem.Spec PyProof.Rows L2 DD
def D_is_label : He.DefD := ⟨("is_label", none), "is_label", "is_label", defArgs (top 16), defBody (top 16), defScope (top 16), [], []⟩
def D_rising : He.DefD := ⟨("rising", none), "rising", "rising", defArgs (top 17), defBody (top 17), defScope (top 17), [], []⟩
def D_check_signs : He.DefD := ⟨("check_signs", none), "check_signs", "check_signs", defArgs (top 18), defBody (top 18), defScope (top 18), [], []⟩
def D_sorted_signs : He.DefD := ⟨("sorted_signs", none), "sorted_signs", "sorted_signs", defArgs (top 19), defBody (top 19), defScope (top 19), [], []⟩
def D_check_word : He.DefD := ⟨("check_word", none), "check_word", "check_word", defArgs (top 20), defBody (top 20), defScope (top 20), [], []⟩
def D_check_of : He.DefD := ⟨("check_of", none), "check_of", "check_of", defArgs (top 21), defBody (top 21), defScope (top 21), [], []⟩
def D_heights : He.DefD := ⟨("heights", none), "heights", "heights", defArgs (top 22), defBody (top 22), defScope (top 22), [], []⟩
def D_is_known_whole : He.DefD := ⟨("is_known_whole", none), "is_known_whole", "is_known_whole", defArgs (top 23), defBody (top 23), defScope (top 23), [], []⟩
def D_check_whole : He.DefD := ⟨("check_whole", none), "check_whole", "check_whole", defArgs (top 24), defBody (top 24), defScope (top 24), [], []⟩
def D_check_row : He.DefD := ⟨("check_row", none), "check_row", "check_row", defArgs (top 29), defBody (top 29), defScope (top 29), [], []⟩
def D_check_machine : He.DefD := ⟨("check_machine", none), "check_machine", "check_machine", defArgs (top 28), defBody (top 28), defScope (top 28), [], []⟩
def D_moved : He.DefD := ⟨("moved", none), "moved", "moved", defArgs (top 30), defBody (top 30), defScope (top 30), [], []⟩
def D_led : He.DefD := ⟨("led", none), "led", "led", defArgs (top 31), defBody (top 31), defScope (top 31), [], []⟩
def D_is_good : He.DefD := ⟨("is_good", none), "is_good", "is_good", defArgs (top 32), defBody (top 32), defScope (top 32), [], []⟩
def D_trace : He.DefD := ⟨("trace", none), "trace", "trace", defArgs (top 33), defBody (top 33), defScope (top 33), [], []⟩
def D_check_trace : He.DefD := ⟨("check_trace", none), "check_trace", "check_trace", defArgs (top 34), defBody (top 34), defScope (top 34), [], []⟩
def D_law_error : He.DefD := ⟨("_law_error", none), "_law_error", "_law_error", defArgs (top 36), defBody (top 36), defScope (top 36), [], []⟩
def D_law_behind : He.DefD := ⟨("_law_behind", none), "_law_behind", "_law_behind", defArgs (top 37), defBody (top 37), defScope (top 37), [], []⟩
def D_law_next : He.DefD := ⟨("_law_next", none), "_law_next", "_law_next", defArgs (top 38), defBody (top 38), defScope (top 38), [], []⟩
def D_law_stream : He.DefD := ⟨("_law_stream", none), "_law_stream", "_law_stream", defArgs (top 39), defBody (top 39), defScope (top 39), [], []⟩
def D_law_signs : He.DefD := ⟨("_law_signs", none), "_law_signs", "_law_signs", defArgs (top 40), defBody (top 40), defScope (top 40), [], []⟩
def D_law_machine : He.DefD := ⟨("_law_machine", none), "_law_machine", "_law_machine", defArgs (top 41), defBody (top 41), defScope (top 41), [], []⟩
def D_law_word : He.DefD := ⟨("_law_word", none), "_law_word", "_law_word", defArgs (top 42), defBody (top 42), defScope (top 42), [], []⟩
def D_law_all_signs : He.DefD := ⟨("_law_all_signs", none), "_law_all_signs", "_law_all_signs", defArgs (top 43), defBody (top 43), defScope (top 43), [], []⟩
def D_law_any_word : He.DefD := ⟨("_law_any_word", none), "_law_any_word", "_law_any_word", defArgs (top 44), defBody (top 44), defScope (top 44), [], []⟩
def D_law_heights : He.DefD := ⟨("_law_heights", none), "_law_heights", "_law_heights", defArgs (top 45), defBody (top 45), defScope (top 45), [], []⟩
def D_law_is_whole : He.DefD := ⟨("_law_is_whole", none), "_law_is_whole", "_law_is_whole", defArgs (top 46), defBody (top 46), defScope (top 46), [], []⟩
def D_law_led : He.DefD := ⟨("_law_led", none), "_law_led", "_law_led", defArgs (top 47), defBody (top 47), defScope (top 47), [], []⟩
def D_law_good : He.DefD := ⟨("_law_good", none), "_law_good", "_law_good", defArgs (top 48), defBody (top 48), defScope (top 48), [], []⟩
def D_law_same : He.DefD := ⟨("_law_same", none), "_law_same", "_law_same", defArgs (top 49), defBody (top 49), defScope (top 49), [], []⟩
def D_law_odd_machine : He.DefD := ⟨("_law_odd_machine", none), "_law_odd_machine", "_law_odd_machine", defArgs (top 50), defBody (top 50), defScope (top 50), [], []⟩
def D_law_is_label : He.DefD := ⟨("_law_is_label", none), "_law_is_label", "_law_is_label", defArgs (top 51), defBody (top 51), defScope (top 51), [], []⟩
def D_law_signs_due : He.DefD := ⟨("_law_signs_due", none), "_law_signs_due", "_law_signs_due", defArgs (top 52), defBody (top 52), defScope (top 52), [], []⟩
def D_law_machine_due : He.DefD := ⟨("_law_machine_due", none), "_law_machine_due", "_law_machine_due", defArgs (top 53), defBody (top 53), defScope (top 53), [], []⟩
def D_law_told : He.DefD := ⟨("_law_told", none), "_law_told", "_law_told", defArgs (top 54), defBody (top 54), defScope (top 54), [], []⟩
def D_law_trace : He.DefD := ⟨("_law_trace", none), "_law_trace", "_law_trace", defArgs (top 55), defBody (top 55), defScope (top 55), [], []⟩
def D_law_bent : He.DefD := ⟨("_law_bent", none), "_law_bent", "_law_bent", defArgs (top 56), defBody (top 56), defScope (top 56), [], []⟩
def D_law : He.DefD := ⟨("law", none), "law", "law", defArgs (top 57), defBody (top 57), defScope (top 57), [], []⟩
def fn : List He.DefD := [D_is_label, D_rising, D_check_signs, D_sorted_signs, D_check_word, D_check_of, D_heights, D_is_known_whole, D_check_whole, D_check_row, D_check_machine, D_moved, D_led, D_is_good, D_trace, D_check_trace, D_law_error, D_law_behind, D_law_next, D_law_stream, D_law_signs, D_law_machine, D_law_word, D_law_all_signs, D_law_any_word, D_law_heights, D_law_is_whole, D_law_led, D_law_good, D_law_same, D_law_odd_machine, D_law_is_label, D_law_signs_due, D_law_machine_due, D_law_told, D_law_trace, D_law_bent, D_law]
def fa : List He.Fa := [.glo "NestError", .glo "NotAllowed", .glo "TooLarge", .glo "Missing", .glo "BadPaper", .glo "BadForm", .int "MAX_LABEL" 10, .int "MAX_OF_SORT" 3, .int "MAX_WORD" 200, .str "CALL" "<", .str "STAY" "=", .str "BACK" ">", .str "FIRST" "abcdefghijklmnopqrstuvwxyz", .str "LATER" "abcdefghijklmnopqrstuvwxyz0123456789", .int "MAX_STATES" 8, .int "MAX_MARKS" 8, .glo "is_label", .glo "rising", .glo "check_signs", .glo "sorted_signs", .glo "check_word", .glo "check_of", .glo "heights", .glo "is_known_whole", .glo "check_whole", .glo "check_machine", .glo "check_row", .glo "moved", .glo "led", .glo "is_good", .glo "trace", .glo "check_trace", .glo "_law_error", .glo "_law_behind", .glo "_law_next", .glo "_law_stream", .glo "_law_signs", .glo "_law_machine", .glo "_law_word", .glo "_law_all_signs", .glo "_law_any_word", .glo "_law_heights", .glo "_law_is_whole", .glo "_law_led", .glo "_law_good", .glo "_law_same", .glo "_law_odd_machine", .glo "_law_is_label", .glo "_law_signs_due", .glo "_law_machine_due", .glo "_law_told", .glo "_law_trace", .glo "_law_bent", .glo "law", .exm "NestError" "NestError" true, .exm "NestError" "NotAllowed" false, .exm "NestError" "TooLarge" false, .exm "NestError" "Missing" false, .exm "NestError" "BadPaper" false, .exm "NotAllowed" "NestError" true, .exm "NotAllowed" "NotAllowed" true, .exm "NotAllowed" "TooLarge" false, .exm "NotAllowed" "Missing" false, .exm "NotAllowed" "BadPaper" false, .exm "TooLarge" "NestError" true, .exm "TooLarge" "NotAllowed" false, .exm "TooLarge" "TooLarge" true, .exm "TooLarge" "Missing" false, .exm "TooLarge" "BadPaper" false, .exm "Missing" "NestError" true, .exm "Missing" "NotAllowed" false, .exm "Missing" "TooLarge" false, .exm "Missing" "Missing" true, .exm "Missing" "BadPaper" false, .exm "BadPaper" "NestError" true, .exm "BadPaper" "NotAllowed" false, .exm "BadPaper" "TooLarge" false, .exm "BadPaper" "Missing" false, .exm "BadPaper" "BadPaper" true] ++ bltNames.map .free
abbrev ys : List Str := ["NotAllowed", "TooLarge", "Missing", "BadPaper", "BadForm"]
def fb (K : PySem.W.Frag) : Bool := lawB K ["NotAllowed", "TooLarge", "Missing", "BadPaper"] ys && rsB K "NestError"
abbrev Rw : PySem.W.OpenRow := PySem.W.OpenLaw.row PySem.Challenge.rw_nestward_k04_machines_and_traces
abbrev hk : PySem.W.Hook := hookX 4 fb fa fn
def ob (s : PySem.W.SharedT) : AlX := obsX 4 fb fa fn (HandSHeadRun.getT s)
theorem ob_eq (s : PySem.W.SharedT) : ob s = hk.obs s.abs := obsX_eq (HandSHeadRun.getT_eq s)
def loose : List Str := (["NestError", "NotAllowed", "TooLarge", "Missing", "BadPaper", "BadForm", "MAX_LABEL", "MAX_OF_SORT", "MAX_WORD", "CALL", "STAY", "BACK", "FIRST", "LATER", "MAX_STATES", "MAX_MARKS", "is_label", "rising", "check_signs", "sorted_signs", "check_word", "check_of", "heights", "is_known_whole", "check_whole"] : List Str) ++ (["check_machine", "check_row", "moved", "led", "is_good", "trace", "check_trace", "_law_error", "_law_behind", "_law_next", "_law_stream", "_law_signs", "_law_machine", "_law_word", "_law_all_signs", "_law_any_word", "_law_heights", "_law_is_whole", "_law_led", "_law_good", "_law_same", "_law_odd_machine", "_law_is_label", "_law_signs_due", "_law_machine_due"] : List Str) ++ (["_law_told", "_law_trace", "_law_bent"] : List Str)
theorem run (w : World) : HandSHeadRun.RunEq Rw (PySem.W.view Rw.prog [57]) hk ob 6000 loose w := by
  intro os
  kernel_rfl
end NW

set_option Elab.async false
set_option linter.all false
set_option maxRecDepth 100000
set_option maxHeartbeats 1000000
namespace NW
open PySem DD
/-! ### labels, words -/
def firstC : List Nat := ("abcdefghijklmnopqrstuvwxyz" : Str).cps.toList
def laterC : List Nat := ("abcdefghijklmnopqrstuvwxyz0123456789" : Str).cps.toList
def isLab (t : Str) : Bool := decide (1 ≤ t.length) && decide (t.length ≤ 10) && decide (t.cps.toList.getD 0 0 ∈ firstC) && t.cps.toList.all fun c => decide (c ∈ laterC)
theorem q_is_label {t : Str} (hl : t.length ≤ 1000) : runDef G [] b_is_label 2 1 [.str t] = .ret (.bl (isLab t)) [] := by
  have hl2 : t.length ≤ lim := Nat.le_trans hl (by decide)
  have comp : (ev G [] c0_is_label).v [some (.str t), none] = .ok (.lst true ((t.cps.toList.map fun c => decide (c ∈ laterC)).map .bl)) [some (.str t), none] := by
    rw [List.map_map]
    refine lc_mapS (g := fun c => D.str ⟨#[c]⟩) (fun c => .bl (decide (c ∈ laterC))) (by simp; rfl) (by rw [Array.length_toList]; exact hl2) (fun c _ => by rfl) (fun _ _ => rfl) rfl
  obtain ⟨bs, hbs⟩ : ∃ bs, bs = t.cps.toList.map fun c => decide (c ∈ laterC) := ⟨_, rfl⟩
  rw [← hbs] at comp
  by_cases c1 : 1 ≤ t.length
  · have c1' : (1 : Int) ≤ t.length := by omega
    obtain ⟨c0, r0, h0⟩ : ∃ c r, t.cps.toList = c :: r := by
      cases e : t.cps.toList with
      | nil =>
        have : t.length = 0 := by show t.cps.size = 0; rw [← Array.length_toList, e]; rfl
        omega
      | cons c r => exact ⟨c, r, rfl⟩
    have i0 : isin (.str ⟨#[c0]⟩) (.str "abcdefghijklmnopqrstuvwxyz") = some (decide (c0 ∈ firstC)) := rfl
    by_cases c2 : t.length ≤ 10
    · have c2' : (t.length : Int) ≤ 10 := by omega
      by_cases c3 : c0 ∈ firstC <;> simp [runDef, b_is_label, hl2, c1, c1', c2, c2', h0, ↓i0, c3, comp, isLab, hbs, Function.comp_def]
    · have c2' : ¬ (t.length : Int) ≤ 10 := by omega
      simp [runDef, b_is_label, hl2, c1, c1', c2, c2', isLab]
  · have c1' : ¬ (1 : Int) ≤ t.length := by omega
    simp [runDef, b_is_label, hl2, c1, c1', isLab]
theorem c_is_label {t : Str} (hl : t.length ≤ 1000) (env : DD.Env) : callTo G 100 [.str t] env = .ok (.bl (isLab t)) env := call_ret fx_is_label rfl rfl (q_is_label hl)
/-- a row that rises -/
def rises (l : List Str) : Bool := (l.zip l.tail).all fun p => strLt p.1 p.2
theorem q_rising {l : List Str} (hl : l.length ≤ 1000) : runDef G [] b_rising 3 1 [sts l] = .ret (.bl (rises l)) [] := by
  have hl2 : l.length ≤ lim := Nat.le_trans hl (by decide)
  have comp : (ev G [] c0_rising).v [some (sts l), none, none] = .ok (.lst true (((l.zip l.tail).map fun p => strLt p.1 p.2).map .bl)) [some (sts l), none, none] := by
    rw [List.map_map]
    refine lc_mapS (l := l.zip l.tail) (g := fun p => .pr (D.str p.1) (D.str p.2)) (fun p => .bl (strLt p.1 p.2)) (e1 := [some (sts l), none, none]) ?_ ?_ (fun c _ => by simp) (fun _ _ => rfl) rfl
    · have := cut_from l 1
      simp at this
      simp [zipL_tail, this]
    · rw [List.length_zip]; omega
  simp [runDef, b_rising, comp, rises, Function.comp_def]
theorem c_rising {l : List Str} (hl : l.length ≤ 1000) (env : DD.Env) : callTo G 101 [sts l] env = .ok (.bl (rises l)) env := call_ret fx_rising rfl rfl (q_rising hl)
/-! ### labels of words -/
def sgnD (S : List (List Str)) : D := .tup (S.map fun l => sts l)
instance : EncF sgnD := ⟨fun a => by simp [sgnD], fun _ => rfl, fun a => by
  show dleL 11 (a.map fun l => sts l) = true
  exact dleL_of fun x hx => by
    obtain ⟨s, _, rfl⟩ := List.mem_map.mp hx
    show dleL 10 (s.map .str) = true
    exact dleL_of fun x hx => by
      obtain ⟨s, _, rfl⟩ := List.mem_map.mp hx; rfl⟩
@[simp] theorem items_sgn (S : List (List Str)) : items? (sgnD S) = some (S.map fun l => sts l) := rfl
@[simp] theorem seq_sgn (S : List (List Str)) : seq? (sgnD S) = some (S.map fun l => sts l) := rfl
@[simp] theorem ixop_sgn (S : List (List Str)) (i : Int) : ixop (sgnD S) (.int i) = (L2.atI S i).map fun l => sts l := atI_map _ _ _
@[simp] theorem zip_sgn (xs : List D) (S : List (List Str)) : zip? (.tup xs) (sgnD S) = some (zipL xs (S.map fun l => sts l)) := rfl
@[simp] theorem len_sgn (S : List (List Str)) : lenD (sgnD S) = some (.int S.length) := by simp [sgnD]
def okLs (l : List Str) : Bool := rises l && l.all isLab
def sgnErr (S : List (List Str)) : Option Nat := if S.any (fun l => decide (3 < l.length)) then some 2 else if S.all okLs then none else some 1
def shortL (l : List Str) : Bool := decide (l.length ≤ 1000) && l.all fun t => decide (t.length ≤ 1000)
def shortS (S : List (List Str)) : Bool := decide (S.length ≤ 1000) && S.all shortL
def tellN (o : Option Nat) : FR := match o with | some x => .exc x [] | none => .ret .non []
def tellE (o : Option Nat) (env : DD.Env) : R D := match o with | some x => .exc x env | none => .ok .non env
theorem call_tell {f : Nat} {g : List D → FR} {ds : List D} {o : Option Nat} (hf : G.fn f = some g) (hio : G.io f = []) (np : ds.all noPlc = true) (hg : g ds = tellN o) (env : DD.Env) : callTo G f ds env = tellE o env := by
  cases o with
  | none => exact call_ret hf hio np hg
  | some x => exact call_exc hf hio np hg
theorem lab_comp {l : List Str} (hs : shortL l = true) (a : D) : (ev G [] c0_check_signs).v [some a, some (sts l), none] = .ok (.lst true ((l.map isLab).map .bl)) [some a, some (sts l), none] := by
  simp only [shortL, Bool.and_eq_true, decide_eq_true_eq, List.all_eq_true] at hs
  rw [List.map_map]
  exact lc_mapS (g := .str) (fun t => .bl (isLab t)) (e1 := [some a, some (sts l), none]) (by simp) (Nat.le_trans hs.1 (by decide)) (fun t ht => by simp [c_is_label (hs.2 t ht)]) (fun _ _ => rfl) rfl
theorem q_check_signs {S : List (List Str)} (hs : shortS S = true) : runDef G [] b_check_signs 3 1 [sgnD S] = tellN (sgnErr S) := by
  simp only [shortS, Bool.and_eq_true, decide_eq_true_eq, List.all_eq_true] at hs
  have hl : S.length ≤ lim := Nat.le_trans hs.1 (by decide)
  have it : evI G [] (.val (.var 0)) [some (sgnD S), none, none] = .ok (S.map fun l => sts l) [some (sgnD S), none, none] := by simp
  have comp : (ev G [] c3_check_signs).v [some (sgnD S), none, none] = .ok (.lst true ((S.map fun l => decide (3 < l.length)).map .bl)) [some (sgnD S), none, none] := by
    rw [List.map_map]
    exact lc_mapS (g := fun l => sts l) (fun l => .bl (decide (3 < l.length))) it hl (fun l hl => by simp; omega) (fun _ _ => rfl) rfl
  have L := for_chk (G := G) (io := []) (tg := .nm 1) (b := b1_check_signs) (g := fun l => sts l) okLs it (fun l hl h => by
    have h1 := hs.2 l hl
    have h2 := h1
    simp only [shortL, Bool.and_eq_true, decide_eq_true_eq] at h2
    unfold okLs at h
    rw [Bool.and_eq_true] at h
    have h' : (l.map isLab).all id = true := by rw [← h.2]; simp
    simp [b1_check_signs, c_rising h2.1, lab_comp h1, h.1, h']) (fun l hl h => by
    have h1 := hs.2 l hl
    have h2 := h1
    simp only [shortL, Bool.and_eq_true, decide_eq_true_eq] at h2
    unfold okLs at h
    cases hr : rises l with
    | false => simp [b1_check_signs, c_rising h2.1, hr, stops]
    | true =>
      rw [hr, Bool.true_and] at h
      have h' : (l.map isLab).all id = false := by rw [← h]; simp
      simp [b1_check_signs, c_rising h2.1, lab_comp h1, hr, h', stops])
  cases h3 : S.any (fun l => decide (3 < l.length)) with
  | true =>
    have h3' : (S.map fun l => decide (3 < l.length)).any id = true := by rw [← h3]; simp
    simp [runDef, b_check_signs, comp, tellN, sgnErr, h3, h3', -List.map_map, -List.any_map, -List.any_eq_true]
  | false =>
    have h3' : (S.map fun l => decide (3 < l.length)).any id = false := by rw [← h3]; simp
    cases h4 : S.all okLs with
    | true =>
      have e := L.1 h4
      simp [runDef, b_check_signs, comp, tellN, sgnErr, h3, h3', h4, f2_check_signs, e, -List.map_map, -List.any_map, -List.any_eq_true, -List.all_eq_true, -evS_for_]
    | false =>
      obtain ⟨a, ha, hp, e⟩ := L.2 h4
      have h1 := hs.2 a ha
      have h2 := h1
      simp only [shortL, Bool.and_eq_true, decide_eq_true_eq] at h2
      have e' : ∃ e2, evS G [] f2_check_signs [some (sgnD S), none, none] = .exc 1 e2 := by
        refine ⟨[some (sgnD S), some (sts a), none], Eq.trans e ?_⟩
        cases hr : rises a with
        | false => simp [b1_check_signs, c_rising h2.1, hr]
        | true =>
          have h' : (a.map isLab).all id = false := by
            have hp' := hp
            unfold okLs at hp'
            rw [hr, Bool.true_and] at hp'
            rw [← hp']; simp
          simp [b1_check_signs, c_rising h2.1, lab_comp h1, hr, h']
      obtain ⟨e2, e'⟩ := e'
      simp [runDef, b_check_signs, comp, tellN, sgnErr, h3, h3', h4, e', -List.map_map, -List.any_map, -List.any_eq_true, -List.all_eq_true]
theorem c_check_signs {S : List (List Str)} (hs : shortS S = true) (env : DD.Env) : callTo G 102 [sgnD S] env = tellE (sgnErr S) env := call_tell fx_check_signs rfl rfl (q_check_signs hs) env
/-- all signs -/
def ofK (k : Str) (l : List Str) : List Sg := l.map fun x => (k, x)
def allSg (A B C : List Str) : List Sg := ofK "<" A ++ (ofK "=" B ++ ofK ">" C)
theorem q_sorted_signs {A B C : List Str} (hA : A.length ≤ 1000) (hB : B.length ≤ 1000) (hC : C.length ≤ 1000) : runDef G [] b_sorted_signs 5 1 [sgnD [A, B, C]] = .ret (wd (allSg A B C)) [] := by
  have cp : ∀ (k : Str) (l : List Str) (a b : Option D), l.length ≤ 1000 → (ev G [] c0_sorted_signs).v [a, b, some (.str k), some (sts l), none] = .ok (.lst true ((ofK k l).map sg)) [a, b, some (.str k), some (sts l), none] := fun k l a b hl => by
    unfold ofK
    rw [List.map_map]
    exact lc_mapS (g := .str) (fun x => sg (k, x)) (e1 := [a, b, some (.str k), some (sts l), none]) (by simp) (Nat.le_trans hl (by decide)) (fun x _ => by simp [sg]) (fun _ _ => rfl) rfl
  have l1 : ∀ k l, (ofK k l).length = l.length := fun k l => by simp [ofK]
  have b1 : A.length ≤ lim := Nat.le_trans hA (by decide)
  have b2 : A.length + B.length ≤ lim := Nat.le_trans (Nat.add_le_add hA hB) (by decide)
  have b3 : A.length + B.length + C.length ≤ lim := Nat.le_trans (Nat.add_le_add (Nat.add_le_add hA hB) hC) (by decide)
  have b3' : A.length + (B.length + C.length) ≤ lim := by omega
  simp [runDef, b_sorted_signs, f2_sorted_signs, b1_sorted_signs, zipL, cp, hA, hB, hC, l1, b1, b2, b3, b3', allSg]
theorem c_sorted_signs {A B C : List Str} (hA : A.length ≤ 1000) (hB : B.length ≤ 1000) (hC : C.length ≤ 1000) (env : DD.Env) : callTo G 103 [sgnD [A, B, C]] env = .ok (wd (allSg A B C)) env := call_ret fx_sorted_signs rfl rfl (q_sorted_signs hA hB hC)
/-! ### words -/
def kOk (k : Str) : Bool := "<" == k || ("=" == k || ">" == k)
def okSg (s : Sg) : Bool := kOk s.1 && isLab s.2
def short (w : List Sg) : Bool := decide (w.length ≤ 1000) && w.all fun s => decide (s.2.length ≤ 1000)
def wrong (w : List Sg) : Option Nat := if 200 < w.length then some 2 else if w.all okSg then none else some 1
theorem short_len {w : List Sg} (h : short w = true) : w.length ≤ 1000 := by
  unfold short at h
  rw [Bool.and_eq_true] at h
  exact of_decide_eq_true h.1
theorem q_check_word {w : List Sg} (hs : short w = true) : runDef G [] b_check_word 3 1 [wd w] = tellN (wrong w) := by
  have hl := short_len hs
  simp only [short, Bool.and_eq_true, decide_eq_true_eq, List.all_eq_true] at hs
  have comp : (ev G [] c0_check_word).v [some (wd w), none, none] = .ok (.lst true ((w.map okSg).map .bl)) [some (wd w), none, none] := by
    rw [List.map_map]
    refine lc_mapS (g := sg) (fun s => .bl (okSg s)) (e1 := [some (wd w), none, none]) (by simp) (Nat.le_trans hl (by decide)) (fun s h => ?_) (fun _ _ => rfl) rfl
    obtain ⟨k, t⟩ := s
    have hin : isin (.str k) (.tup [.str "<", .str "=", .str ">"]) = some (kOk k) := by simp [kOk, beqd]
    cases hk : kOk k <;> simp [sg, ↓hin, hk, c_is_label (hs.2 _ h), okSg]
  have hb : (w.map okSg).all id = w.all okSg := by simp [Function.comp_def]
  unfold wrong
  by_cases c2 : 200 < w.length
  · have c2' : (200 : Int) < w.length := by omega
    simp [runDef, b_check_word, c2, c2', tellN]
  · have c2' : ¬ (200 : Int) < w.length := by omega
    cases ha : w.all okSg <;> simp [runDef, b_check_word, comp, c2, c2', tellN, hb, ha, -List.map_map, -List.all_map, -List.all_eq_true]
theorem c_check_word {w : List Sg} (hs : short w = true) (env : DD.Env) : callTo G 104 [wd w] env = tellE (wrong w) env := call_tell fx_check_word rfl rfl (q_check_word hs) env
def ofErr (A B C : List Str) (w : List Sg) : Option Nat := match wrong w with | some x => some x | none => if w.all fun s => decide (s ∈ allSg A B C) then none else some 1
theorem q_check_of {A B C : List Str} {w : List Sg} (hA : A.length ≤ 1000) (hB : B.length ≤ 1000) (hC : C.length ≤ 1000) (hs : short w = true) : runDef G [] b_check_of 4 2 [sgnD [A, B, C], wd w] = tellN (ofErr A B C w) := by
  have hl := short_len hs
  have comp : (ev G [] c0_check_of).v [some (sgnD [A, B, C]), some (wd w), some (wd (allSg A B C)), none] = .ok (.lst true ((w.map fun s => decide (s ∈ allSg A B C)).map .bl)) [some (sgnD [A, B, C]), some (wd w), some (wd (allSg A B C)), none] := by
    rw [List.map_map]
    exact lc_mapS (g := sg) (fun s => .bl (decide (s ∈ allSg A B C))) (e1 := [some (sgnD [A, B, C]), some (wd w), some (wd (allSg A B C)), none]) (by simp) (Nat.le_trans hl (by decide)) (fun s h => by simp) (fun _ _ => rfl) rfl
  have hb : (w.map fun s => decide (s ∈ allSg A B C)).all id = w.all fun s => decide (s ∈ allSg A B C) := by simp [Function.comp_def]
  have cs := c_sorted_signs hA hB hC
  unfold ofErr
  cases hw : wrong w with
  | some x => simp [runDef, b_check_of, c_check_word hs, hw, tellE, tellN]
  | none => cases ha : (w.all fun s => decide (s ∈ allSg A B C)) <;> simp [runDef, b_check_of, c_check_word hs, hw, tellE, tellN, cs, comp, hb, ha, -List.map_map, -List.all_map, -List.all_eq_true]
theorem c_check_of {A B C : List Str} {w : List Sg} (hA : A.length ≤ 1000) (hB : B.length ≤ 1000) (hC : C.length ≤ 1000) (hs : short w = true) (env : DD.Env) : callTo G 105 [sgnD [A, B, C], wd w] env = tellE (ofErr A B C w) env := call_tell fx_check_of rfl rfl (q_check_of hA hB hC hs) env
@[simp] theorem s1 : (((">" : Str) = "<")) = False := by rw [eq_iff_iff]; decide +kernel
@[simp] theorem s2 : (((">" : Str) = "=")) = False := by rw [eq_iff_iff]; decide +kernel
@[simp] theorem s3 : ((("=" : Str) = "<")) = False := by rw [eq_iff_iff]; decide +kernel
@[simp] theorem s4 : ((("=" : Str) = ">")) = False := by rw [eq_iff_iff]; decide +kernel
@[simp] theorem s5 : ((("<" : Str) = "=")) = False := by rw [eq_iff_iff]; decide +kernel
@[simp] theorem s6 : ((("<" : Str) = ">")) = False := by rw [eq_iff_iff]; decide +kernel
/-! ### how many calls are open -/
def stp (k : Str) : Int := if k = "<" then 1 else if k = ">" then -1 else 0
def hgt (s : List Int) (x : Sg) : List Int := s ++ [s.getLast?.getD 0 + stp x.1]
def hts (w : List Sg) : List Int := w.foldl hgt [0]
theorem hgt_len (s : List Int) (x : Sg) : (hgt s x).length = s.length + 1 := by simp [hgt]
theorem q_heights {w : List Sg} (hw : w.length ≤ 1000) : runDef G [] b_heights 4 1 [wd w] = .ret (listI (hts w)) [] := by
  have L := (for_S (G := G) (io := []) (tg := .tup (.cons (.nm 2) (.cons (.nm 3) .nil))) (b := b0_heights) (it := .val (.var 0)) (l := w) (g := sg) (env := [some (wd w), some (listI [0]), none, none]) (fun s => [some (wd w), some (listI s), none, none]) (fun j s => s.length = j + 1) hgt (s := [0]) (by simp) (fun j s x hx hj => by
    obtain ⟨k, l⟩ := x
    have hj2 := (List.getElem?_eq_some_iff.mp hx).1
    obtain ⟨n, hn⟩ : ∃ n, s.getLast? = some n := by
      cases e : s.getLast? with
      | none => rw [List.getLast?_eq_none_iff] at e; rw [e] at hj; simp at hj
      | some n => exact ⟨n, rfl⟩
    have hl : s.length < lim := Nat.lt_of_le_of_lt (show s.length ≤ 1001 by omega) (by decide)
    have gl : (s.map D.int).getLast? = some (.int n) := by rw [List.getLast?_map, hn]; rfl
    refine ⟨?_, by rw [hgt_len, hj]⟩
    by_cases c1 : k = "<"
    · simp [b0_heights, sg, hl, gl, c1, hgt, hn, stp]
    · by_cases c2 : k = ">" <;> simp [b0_heights, sg, hl, gl, c1, c2, hgt, hn, stp]) rfl).1
  have e : evS G [] f1_heights [some (wd w), some (.lst true [.int 0]), none, none] = .ok .nx [some (wd w), some (listI (hts w)), none, none] := L
  simp [runDef, b_heights, e]
theorem c_heights {w : List Sg} (hl : w.length ≤ 1000) (env : DD.Env) : callTo G 106 [wd w] env = .ok (listI (hts w)) env := call_ret fx_heights rfl rfl (q_heights hl)
theorem len_hts (w : List Sg) : ∀ s : List Int, (w.foldl hgt s).length = s.length + w.length := by
  induction w with
  | nil => intro s; rfl
  | cons x w ih => intro s; rw [List.foldl_cons, ih, hgt_len, List.length_cons]; omega
theorem hts_ne (w : List Sg) : hts w ≠ [] := by
  intro h
  have := len_hts w [0]
  unfold hts at h
  rw [h] at this
  simp at this
  omega
def isW (w : List Sg) : Bool := decide ((hts w).getLast? = some 0) && decide (minI (hts w) = some 0)
theorem q_is_known_whole {w : List Sg} (hl : w.length ≤ 1000) : runDef G [] b_is_known_whole 2 1 [wd w] = .ret (.bl (isW w)) [] := by
  obtain ⟨n, hn⟩ : ∃ n, (hts w).getLast? = some n := by
    cases e : (hts w).getLast? with
    | none => rw [List.getLast?_eq_none_iff] at e; exact (hts_ne w e).elim
    | some n => exact ⟨n, rfl⟩
  obtain ⟨m, hm⟩ : ∃ m, minI (hts w) = some m := by
    cases e : hts w with
    | nil => exact (hts_ne w e).elim
    | cons a r => exact ⟨_, rfl⟩
  by_cases c : n = 0 <;> by_cases c' : m = 0 <;>
  simp [runDef, b_is_known_whole, c_heights hl, hn, hm, isW, c, c']
theorem c_is_known_whole {w : List Sg} (hl : w.length ≤ 1000) (env : DD.Env) : callTo G 107 [wd w] env = .ok (.bl (isW w)) env := call_ret fx_is_known_whole rfl rfl (q_is_known_whole hl)
def wholeErr (A B C : List Str) (w : List Sg) : Option Nat := match ofErr A B C w with | some x => some x | none => if isW w then none else some 1
theorem q_check_whole {A B C : List Str} {w : List Sg} (hA : A.length ≤ 1000) (hB : B.length ≤ 1000) (hC : C.length ≤ 1000) (hs : short w = true) : runDef G [] b_check_whole 2 2 [sgnD [A, B, C], wd w] = tellN (wholeErr A B C w) := by
  have co := c_check_of hA hB hC hs
  unfold wholeErr
  cases he : ofErr A B C w with
  | some x => simp [runDef, b_check_whole, co, he, tellE, tellN]
  | none => cases hk : isW w <;> simp [runDef, b_check_whole, co, he, tellE, tellN, c_is_known_whole (short_len hs), hk]
theorem c_check_whole {A B C : List Str} {w : List Sg} (hA : A.length ≤ 1000) (hB : B.length ≤ 1000) (hC : C.length ≤ 1000) (hs : short w = true) (env : DD.Env) : callTo G 108 [sgnD [A, B, C], wd w] env = tellE (wholeErr A B C w) env := call_tell fx_check_whole rfl rfl (q_check_whole hA hB hC hs) env
end NW

set_option Elab.async false
set_option linter.all false
set_option maxRecDepth 100000
set_option maxHeartbeats 1000000
namespace NW
open PySem DD
/-! ### machines -/
structure Row where
  calls : List (Int × Int)
  stays : List Int
  backs : List (List Int)
deriving Inhabited
structure Mach where
  A : List Str
  B : List Str
  C : List Str
  m : Int
  rows : List Row
  goods : List Int
def prI (p : Int × Int) : D := .tup [.int p.1, .int p.2]
instance : EncF prI := ⟨fun _ => rfl, fun _ => rfl, fun _ => rfl⟩
def rowD (r : Row) : D := .tup [.tup (r.calls.map prI), its r.stays, .tup (r.backs.map fun l => its l)]
theorem dle_its (n : Nat) (l : List Int) : dle (n + 1) (its l) = true := dleL_of fun x hx => by
  obtain ⟨s, _, rfl⟩ := List.mem_map.mp hx; cases n <;> rfl
instance : EncF rowD := ⟨fun r => by simp [rowD], fun _ => rfl, fun r => by
  show dleL 11 [_, _, _] = true
  simp only [dleL_cons, dleL_nil, Bool.and_true, Bool.and_eq_true]
  refine ⟨dleL_of fun x hx => ?_, dle_its 10 _, dleL_of fun x hx => ?_⟩
  · obtain ⟨s, _, rfl⟩ := List.mem_map.mp hx; rfl
  · obtain ⟨s, _, rfl⟩ := List.mem_map.mp hx; exact dle_its 9 s⟩
def machD (M : Mach) : D := .tup [sgnD [M.A, M.B, M.C], .int M.m, .tup (M.rows.map rowD), its M.goods]
instance : EncF machD := ⟨fun r => by simp [machD], fun _ => rfl, fun r => by
  show dleL 11 [_, _, _, _] = true
  simp only [dleL_cons, dleL_nil, Bool.and_true, Bool.and_eq_true]
  refine ⟨dleL_of fun x hx => ?_, rfl, dleL_of fun x hx => ?_, dle_its 10 _⟩
  · obtain ⟨s, _, rfl⟩ := List.mem_map.mp hx
    exact dleL_of fun x hx => by
      obtain ⟨s, _, rfl⟩ := List.mem_map.mp hx; rfl
  · obtain ⟨s, _, rfl⟩ := List.mem_map.mp hx
    show dleL 9 [_, _, _] = true
    simp only [dleL_cons, dleL_nil, Bool.and_true, Bool.and_eq_true]
    refine ⟨dleL_of fun x hx => ?_, dle_its 8 _, dleL_of fun x hx => ?_⟩
    · obtain ⟨s, _, rfl⟩ := List.mem_map.mp hx; rfl
    · obtain ⟨s, _, rfl⟩ := List.mem_map.mp hx; exact dle_its 7 s⟩
abbrev lstF (l : List Int) : D := .lst false (l.map .int)
def inS (st : List Int) (t : Int) : Bool := decide (t ∈ st)
def rowOk (A B C : List Str) (m : Int) (st : List Int) (r : Row) : Bool := decide (r.calls.length = A.length) && (decide (r.stays.length = B.length) && (decide (r.backs.length = C.length) && ((r.calls.all fun p => inS st p.1 && (decide (0 ≤ p.2) && decide (p.2 < m))) && (r.stays.all (inS st) && r.backs.all fun l => decide ((l.length : Int) = m) && l.all (inS st)))))
def rowSm (r : Row) : Bool := decide (r.calls.length ≤ 1000) && (decide (r.stays.length ≤ 1000) && (decide (r.backs.length ≤ 1000) && r.backs.all fun l => decide (l.length ≤ 1000)))
theorem all_id {α : Type} (l : List α) (p : α → Bool) : (l.map p).all id = l.all p := by simp [Function.comp_def]
theorem q_check_row {A B C : List Str} {m : Int} {st : List Int} {r : Row} (hs : rowSm r = true) : runDef G [] b_check_row 11 4 [sgnD [A, B, C], .int m, lstF st, rowD r] = tellN (if rowOk A B C m st r then none else some 1) := by
  simp only [rowSm, Bool.and_eq_true, decide_eq_true_eq, List.all_eq_true] at hs
  obtain ⟨h1, h2, h3, h4⟩ := hs
  have L : ∀ {k : Nat}, k ≤ 1000 → k ≤ lim := fun h => Nat.le_trans h (by decide)
  have c3 : ∀ g : Option D, (ev G [] c3_check_row).v [some (sgnD [A, B, C]), some (.int m), some (lstF st), some (rowD r), g, some (.tup (r.calls.map prI)), some (its r.stays), some (.tup (r.backs.map fun l => its l)), none, none, none] = .ok (.lst true ((r.calls.map fun p => inS st p.1 && (decide (0 ≤ p.2) && decide (p.2 < m))).map .bl)) [some (sgnD [A, B, C]), some (.int m), some (lstF st), some (rowD r), g, some (.tup (r.calls.map prI)), some (its r.stays), some (.tup (r.backs.map fun l => its l)), none, none, none] := fun g => by
    rw [List.map_map]
    refine lc_mapS (l := r.calls) (g := prI) (fun p => .bl (inS st p.1 && (decide (0 ≤ p.2) && decide (p.2 < m)))) (e1 := [some (sgnD [A, B, C]), some (.int m), some (lstF st), some (rowD r), g, some (.tup (r.calls.map prI)), some (its r.stays), some (.tup (r.backs.map fun l => its l)), none, none, none]) (by simp) (L h1) (fun p _ => ?_) (fun _ _ => rfl) rfl
    by_cases a : p.1 ∈ st <;> by_cases b : 0 ≤ p.2 <;> by_cases c : p.2 < m <;> simp [prI, a, b, c, inS]
  have c2 : ∀ g : Option D, (ev G [] c2_check_row).v [some (sgnD [A, B, C]), some (.int m), some (lstF st), some (rowD r), g, some (.tup (r.calls.map prI)), some (its r.stays), some (.tup (r.backs.map fun l => its l)), none, none, none] = .ok (.lst true ((r.stays.map (inS st)).map .bl)) [some (sgnD [A, B, C]), some (.int m), some (lstF st), some (rowD r), g, some (.tup (r.calls.map prI)), some (its r.stays), some (.tup (r.backs.map fun l => its l)), none, none, none] := fun g => by
    rw [List.map_map]
    exact lc_mapS (l := r.stays) (g := .int) (fun t => .bl (inS st t)) (e1 := [some (sgnD [A, B, C]), some (.int m), some (lstF st), some (rowD r), g, some (.tup (r.calls.map prI)), some (its r.stays), some (.tup (r.backs.map fun l => its l)), none, none, none]) (by simp) (L h2) (fun p _ => by simp [inS]) (fun _ _ => rfl) rfl
  have c0 : ∀ (g : Option D) (l : List Int), l ∈ r.backs → (ev G [] c0_check_row).v [some (sgnD [A, B, C]), some (.int m), some (lstF st), some (rowD r), g, some (.tup (r.calls.map prI)), some (its r.stays), some (.tup (r.backs.map fun l => its l)), none, none, some (its l)] = .ok (.lst true ((l.map (inS st)).map .bl)) [some (sgnD [A, B, C]), some (.int m), some (lstF st), some (rowD r), g, some (.tup (r.calls.map prI)), some (its r.stays), some (.tup (r.backs.map fun l => its l)), none, none, some (its l)] := fun g l hl => by
    rw [List.map_map]
    exact lc_mapS (l := l) (g := .int) (fun t => .bl (inS st t)) (e1 := [some (sgnD [A, B, C]), some (.int m), some (lstF st), some (rowD r), g, some (.tup (r.calls.map prI)), some (its r.stays), some (.tup (r.backs.map fun l => its l)), none, none, some (its l)]) (by simp) (L (h4 l hl)) (fun p _ => by simp [inS]) (fun _ _ => rfl) rfl
  have c1 : ∀ g : Option D, (ev G [] c1_check_row).v [some (sgnD [A, B, C]), some (.int m), some (lstF st), some (rowD r), g, some (.tup (r.calls.map prI)), some (its r.stays), some (.tup (r.backs.map fun l => its l)), none, none, none] = .ok (.lst true ((r.backs.map fun l => decide ((l.length : Int) = m) && l.all (inS st)).map .bl)) [some (sgnD [A, B, C]), some (.int m), some (lstF st), some (rowD r), g, some (.tup (r.calls.map prI)), some (its r.stays), some (.tup (r.backs.map fun l => its l)), none, none, none] := fun g => by
    rw [List.map_map]
    refine lc_mapS (l := r.backs) (g := fun l => its l) (fun l => .bl (decide ((l.length : Int) = m) && l.all (inS st))) (e1 := [some (sgnD [A, B, C]), some (.int m), some (lstF st), some (rowD r), g, some (.tup (r.calls.map prI)), some (its r.stays), some (.tup (r.backs.map fun l => its l)), none, none, none]) (by simp) (L h3) (fun l hl => ?_) (fun _ _ => rfl) rfl
    have c := c0 g l hl
    have ai := all_id l (inS st)
    obtain ⟨bs, hbs⟩ : ∃ bs, bs = l.map (inS st) := ⟨_, rfl⟩
    rw [← hbs] at c ai
    by_cases a : (l.length : Int) = m <;> simp [a, c, ai, -List.all_eq_true]
  have a1 := all_id r.calls fun p => inS st p.1 && (decide (0 ≤ p.2) && decide (p.2 < m))
  have a2 := all_id r.stays (inS st)
  have a3 := all_id r.backs fun l => decide ((l.length : Int) = m) && l.all (inS st)
  obtain ⟨b1, hb1⟩ : ∃ bs, bs = r.calls.map fun p => inS st p.1 && (decide (0 ≤ p.2) && decide (p.2 < m)) := ⟨_, rfl⟩
  obtain ⟨b2, hb2⟩ : ∃ bs, bs = r.stays.map (inS st) := ⟨_, rfl⟩
  obtain ⟨b3, hb3⟩ : ∃ bs, bs = r.backs.map fun l => decide ((l.length : Int) = m) && l.all (inS st) := ⟨_, rfl⟩
  rw [← hb1] at c3 a1
  rw [← hb2] at c2 a2
  rw [← hb3] at c1 a3
  unfold rowOk
  rw [← a1, ← a2, ← a3]
  have rd : rowD r = .tup [.tup (r.calls.map prI), its r.stays, .tup (r.backs.map fun l => its l)] := rfl
  rw [rd] at c1 c2 c3 ⊢
  have t0 : L2.atI [A, B, C] 0 = some A := rfl
  have t1 : L2.atI [A, B, C] 1 = some B := rfl
  have t2 : L2.atI [A, B, C] 2 = some C := rfl
  by_cases k1 : r.calls.length = A.length
  · by_cases k2 : r.stays.length = B.length
    · by_cases k3 : r.backs.length = C.length
      · cases k4 : b1.all id <;> cases k5 : b2.all id <;> cases k6 : b3.all id <;> simp [runDef, b_check_row, t0, t1, t2, k1, k2, k3, c3, c2, c1, k4, k5, k6, tellN, -List.all_eq_true]
      · have k3' : ¬ ((r.backs.length : Int) = C.length) := by omega
        simp [runDef, b_check_row, t0, t1, t2, k1, k2, k3, k3', tellN]
    · have k2' : ¬ ((r.stays.length : Int) = B.length) := by omega
      simp [runDef, b_check_row, t0, t1, t2, k1, k2, k2', tellN]
  · have k1' : ¬ ((r.calls.length : Int) = A.length) := by omega
    simp [runDef, b_check_row, t0, t1, t2, k1, k1', tellN]
theorem c_check_row {A B C : List Str} {m : Int} {st : List Int} {r : Row} (hs : rowSm r = true) (env : DD.Env) : callTo G 116 [sgnD [A, B, C], .int m, lstF st, rowD r] env = tellE (if rowOk A B C m st r then none else some 1) env := call_tell fx_check_row rfl rfl (q_check_row hs) env
end NW

set_option Elab.async false
set_option linter.all false
set_option maxRecDepth 100000
set_option maxHeartbeats 1000000
namespace NW
open PySem DD
def stI (n : Nat) : List Int := (List.range n).map fun (k : Nat) => (k : Int)
theorem stI_D (n : Nat) : (List.range n).map (fun (k : Nat) => D.int k) = (stI n).map .int := by unfold stI; rw [List.map_map]; rfl
theorem inS_iff (n : Nat) (t : Int) : inS (stI n) t = true ↔ 0 ≤ t ∧ t < n := by
  unfold inS stI
  rw [decide_eq_true_eq, List.mem_map]
  constructor
  · rintro ⟨k, hk, rfl⟩
    rw [List.mem_range] at hk
    omega
  · rintro ⟨h1, h2⟩
    exact ⟨t.toNat, by rw [List.mem_range]; omega, by omega⟩
def risesI (l : List Int) : Bool := (l.zip l.tail).all fun p => decide (p.1 < p.2)
def machSm (M : Mach) : Bool := shortS [M.A, M.B, M.C] && (decide (M.rows.length ≤ 1000) && (decide (M.goods.length ≤ 1000) && M.rows.all rowSm))
def machErr (M : Mach) : Option Nat := match sgnErr [M.A, M.B, M.C] with
  | some x => some x
  | none => if 8 < M.rows.length then some 2 else if 8 < M.m then some 2 else if M.rows.length = 0 then some 1 else if M.m < 1 then some 1 else if M.goods.all (inS (stI M.rows.length)) then (if risesI M.goods then (if M.rows.all (rowOk M.A M.B M.C M.m (stI M.rows.length)) then none else some 1) else some 1) else some 1
theorem q_check_machine {M : Mach} (hs : machSm M = true) : runDef G [] b_check_machine 9 1 [machD M] = tellN (machErr M) := by
  obtain ⟨A, B, C, m, rows, goods⟩ := M
  simp only [machSm, Bool.and_eq_true, decide_eq_true_eq] at hs
  obtain ⟨h1, h2, h3, h4⟩ := hs
  have L : ∀ {k : Nat}, k ≤ 1000 → k ≤ lim := fun h => Nat.le_trans h (by decide)
  obtain ⟨st, hst⟩ : ∃ st, st = stI rows.length := ⟨_, rfl⟩
  have c5 : (ev G [] c5_check_machine).v [some (machD ⟨A, B, C, m, rows, goods⟩), some (lstF st), none, some (sgnD [A, B, C]), some (.int m), some (.tup (rows.map rowD)), some (its goods), none, none] = .ok (.lst true ((goods.map (inS st)).map .bl)) [some (machD ⟨A, B, C, m, rows, goods⟩), some (lstF st), none, some (sgnD [A, B, C]), some (.int m), some (.tup (rows.map rowD)), some (its goods), none, none] := by
    rw [List.map_map]
    exact lc_mapS (l := goods) (g := .int) (fun t => .bl (inS st t)) (e1 := [some (machD ⟨A, B, C, m, rows, goods⟩), some (lstF st), none, some (sgnD [A, B, C]), some (.int m), some (.tup (rows.map rowD)), some (its goods), none, none]) (by simp) (L h3) (fun p _ => by simp [inS]) (fun _ _ => rfl) rfl
  have c3 : (ev G [] c3_check_machine).v [some (machD ⟨A, B, C, m, rows, goods⟩), some (lstF st), none, some (sgnD [A, B, C]), some (.int m), some (.tup (rows.map rowD)), some (its goods), none, none] = .ok (.lst true (((goods.zip goods.tail).map fun p => decide (p.1 < p.2)).map .bl)) [some (machD ⟨A, B, C, m, rows, goods⟩), some (lstF st), none, some (sgnD [A, B, C]), some (.int m), some (.tup (rows.map rowD)), some (its goods), none, none] := by
    rw [List.map_map]
    refine lc_mapS (l := goods.zip goods.tail) (g := fun p => .pr (D.int p.1) (D.int p.2)) (fun p => .bl (decide (p.1 < p.2))) (e1 := [some (machD ⟨A, B, C, m, rows, goods⟩), some (lstF st), none, some (sgnD [A, B, C]), some (.int m), some (.tup (rows.map rowD)), some (its goods), none, none]) ?_ ?_ (fun c _ => by simp) (fun _ _ => rfl) rfl
    · have := cut_from goods 1
      simp at this
      simp [zipL_tail, this]
    · rw [List.length_zip]; exact Nat.le_trans (Nat.min_le_left _ _) (L h3)
  have F := for_chk (G := G) (io := []) (tg := .nm 2) (b := b1_check_machine) (it := .val (.var 5)) (l := rows) (g := rowD) (env := [none, some (lstF st), none, some (sgnD [A, B, C]), some (.int m), some (.tup (rows.map rowD)), none, none, none]) (e0 := [none, some (lstF st), none, some (sgnD [A, B, C]), some (.int m), some (.tup (rows.map rowD)), none, none, none]) (rowOk A B C m st) (by simp) (fun r hr h => by
    have c := c_check_row (A := A) (B := B) (C := C) (m := m) (st := st) (r := r) (List.all_eq_true.mp h4 r hr)
    rw [h] at c
    simp [b1_check_machine, c, tellE]) (fun r hr h => by
    have c := c_check_row (A := A) (B := B) (C := C) (m := m) (st := st) (r := r) (List.all_eq_true.mp h4 r hr)
    rw [h] at c
    simp [b1_check_machine, c, tellE, stops])
  have a5 := all_id goods (inS st)
  have a3 := all_id (goods.zip goods.tail) fun p => decide (p.1 < p.2)
  have rg := rng_nat (n := rows.length) (by omega)
  rw [stI_D, ← hst] at rg
  have sl : st.length ≤ lim := by rw [hst]; unfold stI; rw [List.length_map, List.length_range]; exact L h2
  unfold machErr risesI
  simp only [← hst]
  rw [← a5, ← a3]
  obtain ⟨b5, hb5⟩ : ∃ bs, bs = goods.map (inS st) := ⟨_, rfl⟩
  obtain ⟨b3, hb3⟩ : ∃ bs, bs = (goods.zip goods.tail).map fun p => decide (p.1 < p.2) := ⟨_, rfl⟩
  rw [← hb5] at c5 ⊢
  rw [← hb3] at c3 ⊢
  have md : machD ⟨A, B, C, m, rows, goods⟩ = .tup [sgnD [A, B, C], .int m, .tup (rows.map rowD), its goods] := rfl
  rw [md] at c5 c3 ⊢
  cases e0 : sgnErr [A, B, C] with
  | some x => simp [runDef, b_check_machine, s10_check_machine, s9_check_machine, c_check_signs h1, e0, tellE, tellN]
  | none =>
    by_cases k1 : 8 < rows.length
    · have k1' : (8 : Int) < rows.length := by omega
      simp [runDef, b_check_machine, s10_check_machine, s9_check_machine, s8_check_machine, c_check_signs h1, e0, tellE, tellN, k1, k1']
    · have k1' : ¬ (8 : Int) < rows.length := by omega
      by_cases k2 : 8 < m
      · simp [runDef, b_check_machine, s10_check_machine, s9_check_machine, s8_check_machine, c_check_signs h1, e0, tellE, tellN, k1, k1', k2]
      · by_cases k3 : rows.length = 0
        · have r0 := List.length_eq_zero_iff.mp k3
          subst r0
          have st0 : st = [] := hst
          subst st0
          clear c5 c3 F
          have rg' : rng? [D.int 0] = some [] := rg
          simp [runDef, b_check_machine, s10_check_machine, s9_check_machine, s8_check_machine, s7_check_machine, s6_check_machine, c_check_signs h1, e0, tellE, tellN, k2, rg']
        · have k3' : ¬ (rows.length : Int) = 0 := by omega
          by_cases k4 : m < 1
          · simp [runDef, b_check_machine, s10_check_machine, s9_check_machine, s8_check_machine, s7_check_machine, s6_check_machine, c_check_signs h1, e0, tellE, tellN, k1, k1', k2, k3, k3', k4, rg, sl]
          · cases k5 : b5.all id with
            | false => simp [runDef, b_check_machine, s10_check_machine, s9_check_machine, s8_check_machine, s7_check_machine, s6_check_machine, c_check_signs h1, e0, tellE, tellN, k1, k1', k2, k3, k3', k4, rg, sl, c5, k5, -List.all_eq_true]
            | true =>
              cases k6 : b3.all id with
              | false => simp [runDef, b_check_machine, s10_check_machine, s9_check_machine, s8_check_machine, s7_check_machine, s6_check_machine, s4_check_machine, c_check_signs h1, e0, tellE, tellN, k1, k1', k2, k3, k3', k4, rg, sl, c5, k5, c3, k6, -List.all_eq_true]
              | true =>
                cases k7 : rows.all (rowOk A B C m st) with
                | true =>
                  have e : evS G [] f2_check_machine _ = _ := F.1 k7
                  simp [runDef, b_check_machine, s10_check_machine, s9_check_machine, s8_check_machine, s7_check_machine, s6_check_machine, s4_check_machine, s0_check_machine, c_check_signs h1, e0, tellE, tellN, k1, k1', k2, k3, k3', k4, rg, sl, c5, k5, c3, k6, e, -List.all_eq_true]
                | false =>
                  obtain ⟨r, hr, hp, e⟩ := F.2 k7
                  have c := c_check_row (A := A) (B := B) (C := C) (m := m) (st := st) (r := r) (List.all_eq_true.mp h4 r hr)
                  rw [hp] at c
                  have e' : evS G [] f2_check_machine [none, some (lstF st), none, some (sgnD [A, B, C]), some (.int m), some (.tup (rows.map rowD)), none, none, none] = .exc 1 [none, some (lstF st), some (rowD r), some (sgnD [A, B, C]), some (.int m), some (.tup (rows.map rowD)), none, none, none] := Eq.trans e (by simp [b1_check_machine, c, tellE])
                  simp [runDef, b_check_machine, s10_check_machine, s9_check_machine, s8_check_machine, s7_check_machine, s6_check_machine, s4_check_machine, s0_check_machine, c_check_signs h1, e0, tellE, tellN, k1, k1', k2, k3, k3', k4, rg, sl, c5, k5, c3, k6, e', -List.all_eq_true]
theorem c_check_machine {M : Mach} (hs : machSm M = true) (env : DD.Env) : callTo G 115 [machD M] env = tellE (machErr M) env := call_tell fx_check_machine rfl rfl (q_check_machine hs) env
end NW

set_option Elab.async false
set_option linter.all false
set_option maxRecDepth 100000
set_option maxHeartbeats 1000000
namespace NW
open PySem DD
abbrev Here := Int × List Int
def hereD (h : Here) : D := .tup [.int h.1, its h.2]
instance : EncF hereD := ⟨fun r => by simp [hereD], fun _ => rfl, fun r => by
  show dleL 11 [_, _] = true
  simp only [dleL_cons, dleL_nil, Bool.and_true, Bool.and_eq_true]
  exact ⟨rfl, dle_its 10 _⟩⟩
instance : EqF hereD := ⟨fun a b => by
  obtain ⟨a1, a2⟩ := a
  obtain ⟨b1, b2⟩ := b
  simp [hereD]⟩
@[simp] theorem cut_m1 {α : Type} (xs : List α) : cutL xs none (some (-1)) = xs.dropLast := by
  unfold cutL
  cases xs with
  | nil => rfl
  | cons x xs =>
    have e : HT.sIx (xs.length + 1) (xs.length + 1) (some (-1)) - HT.sIx (xs.length + 1) 0 none = xs.length := by
      simp [HT.sIx]
      try omega
    show List.take (HT.sIx (xs.length + 1) (xs.length + 1) (some (-1)) - HT.sIx (xs.length + 1) 0 none) (List.drop (HT.sIx (xs.length + 1) 0 none) (x :: xs)) = _
    rw [e, HT.sIx_none]
    simp [List.dropLast_eq_take]
@[simp] theorem atI_2 {α : Type} {x y z : α} {xs : List α} : L2.atI (x :: y :: z :: xs) 2 = some z := by
  have := atI_nat (xs := x :: y :: z :: xs) 2
  simpa using this
@[simp] theorem atI_3 {α : Type} {x y z u : α} {xs : List α} : L2.atI (x :: y :: z :: u :: xs) 3 = some u := by
  have := atI_nat (xs := x :: y :: z :: u :: xs) 3
  simpa using this
theorem sidx_at (z k : Str) (n : Nat) (e : (Builtin.Str.occurrences z k 0 z.length 1).head? = some n) : sidx? z (.str k) = some (.int (n : Nat)) := by
  show (Builtin.Str.occurrences z k 0 z.length 1).head?.map _ = _
  rw [e]; rfl
@[simp] theorem sidx_c : sidx? "<=>" (.str "<") = some (.int 0) := sidx_at _ _ 0 (by decide +kernel)
@[simp] theorem sidx_s : sidx? "<=>" (.str "=") = some (.int 1) := sidx_at _ _ 1 (by decide +kernel)
@[simp] theorem sidx_r : sidx? "<=>" (.str ">") = some (.int 2) := sidx_at _ _ 2 (by decide +kernel)
structure OkM (M : Mach) : Prop where
  sg : sgnErr [M.A, M.B, M.C] = none
  m1 : 1 ≤ M.m
  m8 : M.m ≤ 8
  r1 : 1 ≤ M.rows.length
  r8 : M.rows.length ≤ 8
  goods : M.goods.all (inS (stI M.rows.length)) = true
  rise : risesI M.goods = true
  row : ∀ r ∈ M.rows, rowOk M.A M.B M.C M.m (stI M.rows.length) r = true
theorem okM_of {M : Mach} (h : machErr M = none) : OkM M := by
  unfold machErr at h
  cases e : sgnErr [M.A, M.B, M.C] with
  | some x => rw [e] at h; simp at h
  | none =>
    rw [e] at h
    simp only at h
    by_cases k1 : 8 < M.rows.length
    · simp [k1] at h
    by_cases k2 : 8 < M.m
    · simp [k1, k2] at h
    by_cases k3 : M.rows.length = 0
    · simp [k3, k2] at h
    by_cases k4 : M.m < 1
    · simp [k1, k2, k3, k4] at h
    simp only [k1, k2, k3, k4, if_false] at h
    cases k5 : M.goods.all (inS (stI M.rows.length))
    · rw [k5] at h; simp at h
    cases k6 : risesI M.goods
    · rw [k5, k6] at h; simp at h
    cases k7 : M.rows.all (rowOk M.A M.B M.C M.m (stI M.rows.length))
    · rw [k5, k6, k7] at h; simp at h
    exact ⟨e, by omega, by omega, by omega, by omega, k5, k6, List.all_eq_true.mp k7⟩
def okH (M : Mach) (h : Here) : Prop := 0 ≤ h.1 ∧ h.1 < M.rows.length ∧ ∀ x ∈ h.2, 0 ≤ x ∧ x < M.m
def fdx (l : List Str) (z : Str) : Option Nat := l.findIdx? fun y => decide (y = z)
theorem fdx_of {l : List Str} {z : Str} (h : z ∈ l) : ∃ k, fdx l z = some k ∧ k < l.length := by
  unfold fdx
  cases e : l.findIdx? fun y => decide (y = z) with
  | none => rw [List.findIdx?_eq_none_iff] at e; have := e z h; simp at this
  | some k => exact ⟨k, rfl, (List.findIdx?_eq_some_iff_findIdx_eq.mp e).1⟩
def mv (M : Mach) (h : Here) (s : Sg) : Option Here :=
  (M.rows[h.1.toNat]?).bind fun r =>
    if s.1 = "<" then (fdx M.A s.2).bind fun k => (r.calls[k]?).bind fun p => some (p.1, h.2 ++ [p.2])
    else if s.1 = "=" then (fdx M.B s.2).bind fun k => (r.stays[k]?).bind fun t => some (t, h.2)
    else h.2.getLast?.bind fun x => (fdx M.C s.2).bind fun k => (r.backs[k]?).bind fun b => (b[x.toNat]?).bind fun t => some (t, h.2.dropLast)
theorem mem_all {A B C : List Str} {s : Sg} (h : s ∈ allSg A B C) : (s.1 = "<" ∧ s.2 ∈ A) ∨ (s.1 = "=" ∧ s.2 ∈ B) ∨ (s.1 = ">" ∧ s.2 ∈ C) := by
  unfold allSg ofK at h
  simp only [List.mem_append, List.mem_map] at h
  rcases h with ⟨x, hx, rfl⟩ | ⟨x, hx, rfl⟩ | ⟨x, hx, rfl⟩
  · exact .inl ⟨rfl, hx⟩
  · exact .inr (.inl ⟨rfl, hx⟩)
  · exact .inr (.inr ⟨rfl, hx⟩)
theorem mv_do {M : Mach} (ok : OkM M) {h : Here} (hh : okH M h) {s : Sg} (hs : s ∈ allSg M.A M.B M.C) (hl : h.2.length ≤ 1000) : (runDef G [] b_moved 15 3 [machD M, hereD h, sg s] = .ret (match mv M h s with | some h' => hereD h' | none => .non) []) ∧ ((s.1 = ">" ∧ h.2 = [] ∧ mv M h s = none) ∨ ∃ h', mv M h s = some h' ∧ okH M h' ∧ (h'.2.length : Int) = h.2.length + stp s.1 ∧ runDef G [] b_law_behind 7 3 [machD M, hereD h, sg s] = .ret (hereD h') []) := by
  obtain ⟨A, B, C, m, rows, goods⟩ := M
  obtain ⟨i, ms⟩ := h
  obtain ⟨sk, sl⟩ := s
  obtain ⟨h0, h1, h2⟩ := hh
  simp only at h0 h1 h2 hl hs
  obtain ⟨n, rfl⟩ := Int.eq_ofNat_of_zero_le h0
  have hn : n < rows.length := by simpa using h1
  obtain ⟨r, hr⟩ : ∃ r, rows[n]? = some r := ⟨_, List.getElem?_eq_getElem hn⟩
  have ra : L2.atI rows (n : Int) = some r := by rw [atI_nat, hr]
  have ro := ok.row r (List.mem_of_getElem? hr)
  simp only [rowOk, Bool.and_eq_true, decide_eq_true_eq, List.all_eq_true] at ro
  obtain ⟨q1, q2, q3, q4, q5, q6⟩ := ro
  obtain ⟨rc, rs, rb⟩ := r
  simp only at q1 q2 q3 q4 q5 q6
  have t0 : L2.atI [A, B, C] 0 = some A := rfl
  have t1 : L2.atI [A, B, C] 1 = some B := rfl
  have t2 : L2.atI [A, B, C] 2 = some C := rfl
  have L : ms.length < lim := Nat.lt_of_le_of_lt hl (by decide)
  have L' : ms.length + 1 ≤ lim := L
  have ht : ((n : Int)).toNat = n := rfl
  have okT : ∀ {t : Int}, inS (stI rows.length) t = true → 0 ≤ t ∧ t < rows.length := fun h => (inS_iff _ _).mp h
  rcases mem_all hs with ⟨e, hx⟩ | ⟨e, hx⟩ | ⟨e, hx⟩ <;> simp only at e hx <;> subst e
  · obtain ⟨k, hk, hkl⟩ := fdx_of hx
    obtain ⟨p, hp⟩ : ∃ p, rc[k]? = some p := ⟨_, List.getElem?_eq_getElem (by omega)⟩
    have pa : L2.atI rc (k : Int) = some p := by rw [atI_nat, hp]
    have q := q4 p (List.mem_of_getElem? hp)
    have e : mv ⟨A, B, C, m, rows, goods⟩ (n, ms) ("<", sl) = some (p.1, ms ++ [p.2]) := by simp [mv, hr, hk, hp]
    unfold fdx at hk
    constructor
    · rw [e]
      simp [runDef, b_moved, s7_moved, s6_moved, s5_moved, s4_moved, s3_moved, machD, hereD, sg, rowD, prI, ra, t0, hk, pa, L, L', its]
    · refine .inr ⟨_, e, ⟨(okT q.1).1, (okT q.1).2, fun x hx => ?_⟩, by simp [stp], ?_⟩
      · rcases List.mem_append.mp hx with hx | hx
        · exact h2 x hx
        · rw [List.mem_singleton] at hx; subst hx; exact q.2
      · simp [runDef, b_law_behind, machD, hereD, sg, rowD, prI, ra, t0, hk, pa, L, L', its]
  · obtain ⟨k, hk, hkl⟩ := fdx_of hx
    obtain ⟨t, hp⟩ : ∃ p, rs[k]? = some p := ⟨_, List.getElem?_eq_getElem (by omega)⟩
    have pa : L2.atI rs (k : Int) = some t := by rw [atI_nat, hp]
    have q := q5 t (List.mem_of_getElem? hp)
    have e : mv ⟨A, B, C, m, rows, goods⟩ (n, ms) ("=", sl) = some (t, ms) := by simp [mv, hr, hk, hp]
    unfold fdx at hk
    constructor
    · rw [e]
      simp [runDef, b_moved, s7_moved, s6_moved, s5_moved, s4_moved, s3_moved, s2_moved, machD, hereD, sg, rowD, ra, t1, hk, pa, L, L', its]
    · refine .inr ⟨_, e, ⟨(okT q).1, (okT q).2, h2⟩, by simp [stp], ?_⟩
      simp [runDef, b_law_behind, machD, hereD, sg, rowD, ra, t1, hk, pa, L, L', its]
  · obtain ⟨k, hk, hkl⟩ := fdx_of hx
    rcases List.eq_nil_or_concat ms with rfl | ⟨ms, x, rfl⟩
    ·
      have e : mv ⟨A, B, C, m, rows, goods⟩ (n, []) (">", sl) = none := by simp [mv, hr]
      refine ⟨?_, .inl ⟨rfl, rfl, e⟩⟩
      rw [e]
      simp [runDef, b_moved, s7_moved, s6_moved, s5_moved, s4_moved, s3_moved, s2_moved, s1_moved, machD, hereD, sg, rowD, ra]
    · rw [List.concat_eq_append] at *
      obtain ⟨b, hp⟩ : ∃ p, rb[k]? = some p := ⟨_, List.getElem?_eq_getElem (by omega)⟩
      have pa : L2.atI rb (k : Int) = some b := by rw [atI_nat, hp]
      have q := q6 b (List.mem_of_getElem? hp)
      have hx2 := h2 x (by simp)
      obtain ⟨y, rfl⟩ := Int.eq_ofNat_of_zero_le hx2.1
      have hx3 := hx2.2
      obtain ⟨t, hq⟩ : ∃ p, b[y]? = some p := ⟨_, List.getElem?_eq_getElem (by have := q.1; omega)⟩
      have qa : L2.atI b (y : Int) = some t := by rw [atI_nat, hq]
      have e : mv ⟨A, B, C, m, rows, goods⟩ (n, ms ++ [(y : Int)]) (">", sl) = some (t, ms) := by simp [mv, hr, hk, hp, hq]
      have q' := q.2 t (List.mem_of_getElem? hq)
      unfold fdx at hk
      constructor
      · rw [e]
        have ne : ¬ ((ms.length : Int) + 1 = 0) := by omega
        simp [runDef, b_moved, s7_moved, s6_moved, s5_moved, s4_moved, s3_moved, s2_moved, s1_moved, s0_moved, machD, hereD, sg, rowD, ra, t2, hk, pa, qa, ne, its]
      · refine .inr ⟨_, e, ⟨(okT q').1, (okT q').2, fun x hx => h2 x (by simp [hx])⟩, by simp [stp]; omega, ?_⟩
        simp [runDef, b_law_behind, machD, hereD, sg, rowD, ra, t2, hk, pa, qa, its]
theorem c_moved {M : Mach} (ok : OkM M) {h : Here} (hh : okH M h) {s : Sg} (hs : s ∈ allSg M.A M.B M.C) (hl : h.2.length ≤ 1000) (env : DD.Env) : callTo G 117 [machD M, hereD h, sg s] env = .ok (match mv M h s with | some h' => hereD h' | none => .non) env := call_ret fx_moved rfl rfl (mv_do ok hh hs hl).1
end NW

set_option Elab.async false
set_option linter.all false
set_option maxRecDepth 100000
set_option maxHeartbeats 1000000
namespace NW
open PySem DD
/-! ### words led, traces -/
def sc : Int → List Sg → List Int
  | _, [] => []
  | a, x :: w => (a + stp x.1) :: sc (a + stp x.1) w
theorem hts_sc : ∀ (w : List Sg) (s : List Int) (a : Int), w.foldl hgt (s ++ [a]) = s ++ [a] ++ sc a w
  | [], s, a => by simp [sc]
  | x :: w, s, a => by
    rw [List.foldl_cons, sc]
    have e : hgt (s ++ [a]) x = (s ++ [a]) ++ [a + stp x.1] := by simp [hgt]
    rw [e, hts_sc w]
    simp
theorem minI_le : ∀ (l : List Int) (a m : Int), l.foldl (fun a b => if b < a then b else a) a = m → m ≤ a ∧ ∀ x ∈ l, m ≤ x
  | [], a, m, h => ⟨by subst h; exact Int.le_refl _, by simp⟩
  | y :: l, a, m, h => by
    have := minI_le l (if y < a then y else a) m h
    have q : (if y < a then y else a) ≤ a ∧ (if y < a then y else a) ≤ y := by split <;> omega
    refine ⟨by omega, fun x hx => ?_⟩
    rcases List.mem_cons.mp hx with rfl | hx
    · omega
    · exact this.2 x hx
theorem isW_sc {w : List Sg} (h : isW w = true) : ∀ x ∈ sc 0 w, 0 ≤ x := by
  unfold isW at h
  rw [Bool.and_eq_true, decide_eq_true_eq, decide_eq_true_eq] at h
  have e : hts w = 0 :: sc 0 w := hts_sc w [] 0
  have h2 := h.2
  rw [e] at h2
  exact (minI_le _ _ _ (Option.some.inj h2)).2
structure OfM (M : Mach) (w : List Sg) : Prop where
  mem : ∀ s ∈ w, s ∈ allSg M.A M.B M.C
  len : w.length ≤ 200
def ledF (M : Mach) (h : Here) (w : List Sg) : Here := w.foldl (fun h s => (mv M h s).getD h) h
theorem ok0 {M : Mach} (ok : OkM M) : okH M (0, []) := ⟨by simp, by have := ok.r1; simp; omega, by simp⟩
theorem led_step {M : Mach} (ok : OkM M) {w : List Sg} (ow : OfM M w) {j : Nat} {h : Here} {a : Sg} (ha : w[j]? = some a) (hi : okH M h ∧ h.2.length ≤ j ∧ ∀ x ∈ sc h.2.length (w.drop j), 0 ≤ x) : ∃ h', mv M h a = some h' ∧ (okH M h' ∧ h'.2.length ≤ j + 1 ∧ ∀ x ∈ sc h'.2.length (w.drop (j + 1)), 0 ≤ x) ∧ runDef G [] b_law_behind 7 3 [machD M, hereD h, sg a] = .ret (hereD h') [] ∧ runDef G [] b_moved 15 3 [machD M, hereD h, sg a] = .ret (hereD h') [] := by
  obtain ⟨hj, e⟩ := List.getElem?_eq_some_iff.mp ha
  have hl := ow.len
  have hd : w.drop j = a :: w.drop (j + 1) := by rw [List.drop_eq_getElem_cons hj, e]
  obtain ⟨i1, i2, i3⟩ := hi
  rw [hd, sc] at i3
  have hm : a ∈ allSg M.A M.B M.C := ow.mem a (List.mem_of_getElem? ha)
  obtain ⟨q1, q2⟩ := mv_do ok i1 hm (by omega)
  have p0 := i3 _ (List.mem_cons_self ..)
  rcases q2 with ⟨e1, e2, _⟩ | ⟨h', e1, e2, e3, e4⟩
  · rw [e1, e2] at p0
    have s3 : stp ">" = -1 := by decide +kernel
    rw [s3] at p0
    simp at p0
  · rw [e1] at q1
    refine ⟨h', e1, ⟨e2, ?_, fun x hx => ?_⟩, e4, q1⟩
    · have : stp a.1 ≤ 1 := by unfold stp; split <;> (try split) <;> omega
      omega
    · rw [e3] at hx
      exact i3 x (List.mem_cons_of_mem _ hx)
theorem c_led {M : Mach} (ok : OkM M) {w : List Sg} (ow : OfM M w) (hw : isW w = true) (env : DD.Env) : callTo G 118 [machD M, .int 0, wd w] env = .ok (.int (ledF M (0, []) w).1) env := by
  have F := for_S (G := G) (io := []) (tg := .nm 4) (b := b0_led) (it := .val (.var 2)) (l := w) (g := sg) (env := [some (machD M), none, some (wd w), some (hereD (0, [])), none]) (s := ((0, []) : Here)) (fun h => [some (machD M), none, some (wd w), some (hereD h), none]) (fun j h => okH M h ∧ h.2.length ≤ j ∧ ∀ x ∈ sc h.2.length (w.drop j), 0 ≤ x) (fun h s => (mv M h s).getD h)
    (by simp) (fun j h a ha hi => by
      obtain ⟨h', e1, e2, e3, e4⟩ := led_step ok ow ha hi
      rw [e1]
      refine ⟨?_, e2⟩
      have c : ∀ env, callTo G 117 [machD M, hereD h, sg a] env = .ok (hereD h') env := fun env => call_ret fx_moved rfl rfl e4
      simp [b0_led, c]) ⟨ok0 ok, Nat.le_refl _, isW_sc hw⟩
  have e : evS G [] f1_led [some (machD M), none, some (wd w), some (.tup [.int 0, .tup []]), none] = _ := F.1
  refine call_ret fx_led rfl rfl ?_
  simp [runDef, b_led, e, hereD, ledF]
theorem c_law_led {M : Mach} (ok : OkM M) {w : List Sg} (ow : OfM M w) (hw : isW w = true) (env : DD.Env) : callTo G 618 [machD M, .int 0, wd w] env = .ok (.int (ledF M (0, []) w).1) env := by
  have F := for_S (G := G) (io := []) (tg := .nm 4) (b := b0_law_led) (it := .val (.var 2)) (l := w) (g := sg) (env := [some (machD M), none, some (wd w), some (hereD (0, [])), none]) (s := ((0, []) : Here)) (fun h => [some (machD M), none, some (wd w), some (hereD h), none]) (fun j h => okH M h ∧ h.2.length ≤ j ∧ ∀ x ∈ sc h.2.length (w.drop j), 0 ≤ x) (fun h s => (mv M h s).getD h)
    (by simp) (fun j h a ha hi => by
      obtain ⟨h', e1, e2, e3, e4⟩ := led_step ok ow ha hi
      rw [e1]
      refine ⟨?_, e2⟩
      have c : ∀ env, callTo G 614 [machD M, hereD h, sg a] env = .ok (hereD h') env := fun env => call_ret fx_law_behind rfl rfl e3
      simp [b0_law_led, c]) ⟨ok0 ok, Nat.le_refl _, isW_sc hw⟩
  have e : evS G [] f1_law_led [some (machD M), none, some (wd w), some (.tup [.int 0, .tup []]), none] = _ := F.1
  refine call_ret fx_law_led rfl rfl ?_
  simp [runDef, b_law_led, e, hereD, ledF]
def goodF (M : Mach) (w : List Sg) : Bool := decide ((ledF M (0, []) w).1 ∈ M.goods)
theorem c_law_good {M : Mach} (ok : OkM M) {w : List Sg} (ow : OfM M w) (hw : isW w = true) (env : DD.Env) : callTo G 619 [machD M, wd w] env = .ok (.bl (goodF M w)) env := by
  refine call_ret fx_law_good rfl rfl ?_
  have c := c_law_led ok ow hw
  rw [show machD M = .tup [sgnD [M.A, M.B, M.C], .int M.m, .tup (M.rows.map rowD), its M.goods] from rfl] at c ⊢
  simp [runDef, b_law_good, c, goodF]
theorem le3 {M : Mach} (h : sgnErr [M.A, M.B, M.C] = none) : M.A.length ≤ 3 ∧ M.B.length ≤ 3 ∧ M.C.length ≤ 3 := by
  unfold sgnErr at h
  by_cases c : ([M.A, M.B, M.C].any fun l => decide (3 < l.length)) = true
  · rw [if_pos c] at h; simp at h
  · simp at c
    omega
theorem of_none {A B C : List Str} {w : List Sg} (h : ofErr A B C w = none) : w.length ≤ 200 ∧ ∀ s ∈ w, s ∈ allSg A B C := by
  unfold ofErr wrong at h
  by_cases c : 200 < w.length
  · rw [if_pos c] at h; simp at h
  rw [if_neg c] at h
  by_cases c2 : w.all okSg = true
  · rw [if_pos c2] at h
    simp only at h
    by_cases c3 : (w.all fun s => decide (s ∈ allSg A B C)) = true
    · refine ⟨by omega, fun s hs => ?_⟩
      have := List.all_eq_true.mp c3 s hs
      simpa using this
    · rw [if_neg c3] at h; simp at h
  · rw [if_neg c2] at h; simp at h
def goodErr (M : Mach) (w : List Sg) : Option Nat := match machErr M with | some x => some x | none => wholeErr M.A M.B M.C w
theorem good_ok {M : Mach} {w : List Sg} (h : goodErr M w = none) : OkM M ∧ OfM M w ∧ isW w = true := by
  unfold goodErr at h
  cases e : machErr M with
  | some x => rw [e] at h; simp at h
  | none =>
    rw [e] at h
    simp only [wholeErr] at h
    cases e2 : ofErr M.A M.B M.C w with
    | some x => rw [e2] at h; simp at h
    | none =>
      rw [e2] at h
      obtain ⟨q1, q2⟩ := of_none e2
      refine ⟨okM_of e, ⟨q2, q1⟩, ?_⟩
      cases c : isW w
      · rw [c] at h; simp at h
      · rfl
theorem q_is_good {M : Mach} (hs : machSm M = true) {w : List Sg} (hw : short w = true) : runDef G [] b_is_good 2 2 [machD M, wd w] = match goodErr M w with | some x => .exc x [] | none => .ret (.bl (goodF M w)) [] := by
  have c1 := c_check_machine hs
  cases e : goodErr M w with
  | none =>
    obtain ⟨ok, ow, w1⟩ := good_ok e
    have c3 := c_led ok ow w1
    obtain ⟨l1, l2, l3⟩ := le3 ok.sg
    have c2 := c_check_whole (A := M.A) (B := M.B) (C := M.C) (w := w) (by omega) (by omega) (by omega) hw
    unfold goodErr at e
    cases e1 : machErr M with
    | some x => rw [e1] at e; simp at e
    | none =>
      rw [e1] at e c1
      simp only at e
      rw [e] at c2
      rw [show machD M = .tup [sgnD [M.A, M.B, M.C], .int M.m, .tup (M.rows.map rowD), its M.goods] from rfl] at c1 c3 ⊢
      simp [runDef, b_is_good, c1, c2, c3, goodF, tellE]
  | some x =>
    unfold goodErr at e
    cases e1 : machErr M with
    | some y =>
      rw [e1] at e c1
      simp only [Option.some.injEq] at e
      subst e
      simp [runDef, b_is_good, c1, tellE]
    | none =>
      obtain ⟨l1, l2, l3⟩ := le3 (okM_of e1).sg
      have c2 := c_check_whole (A := M.A) (B := M.B) (C := M.C) (w := w) (by omega) (by omega) (by omega) hw
      rw [e1] at e c1
      simp only at e
      rw [e] at c2
      rw [show machD M = .tup [sgnD [M.A, M.B, M.C], .int M.m, .tup (M.rows.map rowD), its M.goods] from rfl] at c1 ⊢
      simp [runDef, b_is_good, c1, c2, tellE]
end NW

set_option Elab.async false
set_option linter.all false
set_option maxRecDepth 100000
set_option maxHeartbeats 1000000
namespace NW
open PySem DD
@[simp] theorem blt_tupleT (xs : List D) : bltop .tuple [.tup xs] = some (.tup xs) := rfl
@[simp] theorem isNonD_n : isNonD .non = true := rfl
@[simp] theorem isNonD_t (xs : List D) : isNonD (.tup xs) = false := rfl
@[simp] theorem isNonD_l (o : Bool) (xs : List D) : isNonD (.lst o xs) = false := rfl
@[simp] theorem isNonD_s (s : Str) : isNonD (.str s) = false := rfl
@[simp] theorem isNonD_h (h : Here) : isNonD (hereD h) = false := rfl
def trO (M : Mach) : List Sg → List Here → Here → Option (List Here)
  | [], f, _ => some f
  | s :: w, f, h => match mv M h s with | none => none | some h' => trO M w (f ++ [h']) h'
abbrev hrs (o : Bool) (f : List Here) : D := .lst o (f.map hereD)
theorem tr_len {M : Mach} : ∀ (w : List Sg) (f : List Here) (h : Here) (f' : List Here), trO M w f h = some f' → f'.length = f.length + w.length
  | [], f, h, f', e => by simp [trO] at e; subst e; simp
  | s :: w, f, h, f', e => by
    unfold trO at e
    cases q : mv M h s with
    | none => rw [q] at e; simp at e
    | some h' => rw [q] at e; have := tr_len w _ _ _ e; simp at this ⊢; omega
theorem tr_run {M : Mach} (ok : OkM M) (W : D) : ∀ (w : List Sg) (f : List Here) (h : Here), okH M h → h.2.length ≤ f.length → f.length + w.length ≤ 900 → (∀ s ∈ w, s ∈ allSg M.A M.B M.C) → f.getLast? = some h →
    match trO M w f h with
    | some f' => forLoop (asgT G [] (.nm 3)) (evSs G [] b0_trace) (w.map sg) [some (machD M), some (W), some (hrs true f), none, none] = .ok .nx [some (machD M), some (W), some (hrs true f'), none, none]
    | none => ∃ e, forLoop (asgT G [] (.nm 3)) (evSs G [] b0_trace) (w.map sg) [some (machD M), some (W), some (hrs true f), none, none] = .exc 3 e
  | [], f, h, h1, h2, h3, h4, h5 => by simp [trO]
  | s :: w, f, h, h1, h2, h3, h4, h5 => by
    rw [List.length_cons] at h3
    have c := c_moved ok h1 (h4 s (List.mem_cons_self ..)) (by omega)
    have fl : f.length < lim := Nat.lt_of_le_of_lt (show f.length ≤ 900 by omega) (by decide)
    obtain ⟨q1, q2⟩ := mv_do ok h1 (h4 s (List.mem_cons_self ..)) (by omega)
    rcases q2 with ⟨e1, e2, e3⟩ | ⟨h', e1, e2, e3, e4⟩
    · rw [e3] at c
      simp only [trO, e3]
      refine ⟨[some (machD M), some (W), some (hrs true f), some (sg s), some (.non)], ?_⟩
      simp [b0_trace, h5, c]
    · rw [e1] at c
      simp only [trO, e1]
      have st : stp s.1 ≤ 1 := by unfold stp; split <;> (try split) <;> omega
      have IH := tr_run ok W w (f ++ [h']) h' e2 (by simp; omega) (by simp; omega) (fun x hx => h4 x (List.mem_cons_of_mem _ hx)) (by simp)
      have step : forLoop (asgT G [] (.nm 3)) (evSs G [] b0_trace) ((s :: w).map sg) [some (machD M), some (W), some (hrs true f), none, none] = forLoop (asgT G [] (.nm 3)) (evSs G [] b0_trace) (w.map sg) [some (machD M), some (W), some (hrs true (f ++ [h'])), none, none] := by
        simp [b0_trace, h5, c, fl, hrs]
      rw [step]
      exact IH
def trc (M : Mach) (w : List Sg) : Option (List Here) := trO M w [(0, [])] (0, [])
def trErr (M : Mach) (w : List Sg) : Option Nat := match machErr M with
  | some x => some x
  | none => match ofErr M.A M.B M.C w with | some x => some x | none => match trc M w with | some _ => none | none => some 3
theorem q_trace {M : Mach} (hs : machSm M = true) {w : List Sg} (hw : short w = true) : runDef G [] b_trace 5 2 [machD M, wd w] = match trErr M w with | some x => .exc x [] | none => .ret (hrs true ((trc M w).getD [])) [] := by
  have c1 := c_check_machine hs
  unfold trErr
  cases e1 : machErr M with
  | some y =>
    rw [e1] at c1
    simp [runDef, b_trace, c1, tellE]
  | none =>
    have ok := okM_of e1
    obtain ⟨l1, l2, l3⟩ := le3 ok.sg
    have c2 := c_check_of (A := M.A) (B := M.B) (C := M.C) (w := w) (by omega) (by omega) (by omega) hw
    rw [e1] at c1
    cases e2 : ofErr M.A M.B M.C w with
    | some y =>
      rw [e2] at c2
      rw [show machD M = .tup [sgnD [M.A, M.B, M.C], .int M.m, .tup (M.rows.map rowD), its M.goods] from rfl] at c1 ⊢
      simp [runDef, b_trace, c1, c2, tellE]
    | none =>
      rw [e2] at c2
      obtain ⟨q1, q2⟩ := of_none e2
      have F := tr_run ok (wd w) w [(0, [])] (0, []) (ok0 ok) (by simp) (by simp; omega) q2 rfl
      simp only
      unfold trc
      cases e3 : trO M w [(0, [])] (0, []) with
      | none =>
        rw [e3] at F
        obtain ⟨e, F⟩ := F
        have e' : evS G [] f1_trace [some (machD M), some (wd w), some (hrs true [(0, [])]), none, none] = .exc 3 e := by
          simp only [f1_trace, evS_for_]
          simpa using F
        have e : evS G [] f1_trace [some (machD M), some (wd w), some (.lst true [.tup [.int 0, .tup []]]), none, none] = _ := e'
        rw [show machD M = .tup [sgnD [M.A, M.B, M.C], .int M.m, .tup (M.rows.map rowD), its M.goods] from rfl] at c1 e ⊢
        simp [runDef, b_trace, c1, c2, tellE, e]
      | some f' =>
        rw [e3] at F
        have e' : evS G [] f1_trace [some (machD M), some (wd w), some (hrs true [(0, [])]), none, none] = .ok .nx [some (machD M), some (wd w), some (hrs true f'), none, none] := by
          simp only [f1_trace, evS_for_]
          simpa using F
        have e : evS G [] f1_trace [some (machD M), some (wd w), some (.lst true [.tup [.int 0, .tup []]]), none, none] = _ := e'
        rw [show machD M = .tup [sgnD [M.A, M.B, M.C], .int M.m, .tup (M.rows.map rowD), its M.goods] from rfl] at c1 e ⊢
        simp [runDef, b_trace, c1, c2, tellE, e]
theorem c_trace {M : Mach} (hs : machSm M = true) {w : List Sg} (hw : short w = true) (env : DD.Env) : callTo G 120 [machD M, wd w] env = match trErr M w with | some x => .exc x env | none => .ok (hrs true ((trc M w).getD [])) env := by
  have q := q_trace hs hw
  cases e : trErr M w with
  | some x => rw [e] at q; exact call_exc fx_trace rfl rfl q
  | none => rw [e] at q; exact call_ret fx_trace rfl rfl q
theorem e12_s {S : List (List Str)} {x : Nat} (h : sgnErr S = some x) : x = 1 ∨ x = 2 := by
  unfold sgnErr at h
  repeat' split at h
  all_goals simp at h
  all_goals omega
theorem e12_m {M : Mach} {x : Nat} (h : machErr M = some x) : x = 1 ∨ x = 2 := by
  unfold machErr at h
  cases e : sgnErr [M.A, M.B, M.C] with
  | some y => rw [e] at h; simp at h; subst h; exact e12_s e
  | none =>
    rw [e] at h
    simp only at h
    repeat' split at h
    all_goals simp at h
    all_goals omega
theorem e12_o {A B C : List Str} {w : List Sg} {x : Nat} (h : ofErr A B C w = some x) : x = 1 ∨ x = 2 := by
  unfold ofErr wrong at h
  by_cases c : 200 < w.length
  · rw [if_pos c] at h; simp at h; omega
  rw [if_neg c] at h
  by_cases c2 : w.all okSg = true
  · rw [if_pos c2] at h
    simp only at h
    by_cases c3 : (w.all fun s => decide (s ∈ allSg A B C)) = true
    · rw [if_pos c3] at h; simp at h
    · rw [if_neg c3] at h; simp at h; omega
  · rw [if_neg c2] at h; simp at h; omega
theorem e12_t {M : Mach} {w : List Sg} {x : Nat} (h : trErr M w = some x) : x = 1 ∨ x = 2 ∨ x = 3 := by
  unfold trErr at h
  cases e1 : machErr M with
  | some y => rw [e1] at h; simp at h; subst h; have := e12_m e1; omega
  | none =>
    cases e2 : ofErr M.A M.B M.C w with
    | some y => rw [e1, e2] at h; simp at h; subst h; have := e12_o e2; omega
    | none =>
      cases e3 : trc M w with
      | none => rw [e1, e2, e3] at h; simp at h; omega
      | some f => rw [e1, e2, e3] at h; simp at h
def papErr (M : Mach) (w : List Sg) (p : List Here) : Option Nat := match trErr M w with
  | some 3 => some 4
  | some x => some x
  | none => if (trc M w).getD [] = p then none else some 4
theorem tr_len2 {M : Mach} {w : List Sg} (h : trErr M w = none) : ((trc M w).getD []).length ≤ 201 := by
  unfold trErr at h
  cases e1 : machErr M with
  | some y => rw [e1] at h; simp at h
  | none =>
    cases e2 : ofErr M.A M.B M.C w with
    | some y => rw [e1, e2] at h; simp at h
    | none =>
      obtain ⟨q1, q2⟩ := of_none e2
      cases e3 : trc M w with
      | none => simp
      | some f => have := tr_len w _ _ _ e3; simp at this ⊢; omega
theorem q_check_trace {M : Mach} (hs : machSm M = true) {w : List Sg} (hw : short w = true) {p : List Here} (hp : p.length ≤ 1000) : runDef G [] b_check_trace 4 3 [machD M, wd w, .tup (p.map hereD)] = match papErr M w p with | some x => .exc x [] | none => .ret (.bl true) [] := by
  have c := c_trace hs hw
  have lp : p.length ≤ lim := Nat.le_trans hp (by decide)
  unfold papErr
  cases e : trErr M w with
  | none =>
    rw [e] at c
    have lt : ((trc M w).getD []).length ≤ lim := Nat.le_trans (tr_len2 e) (by decide)
    simp only
    obtain ⟨t, ht⟩ : ∃ t, t = (trc M w).getD [] := ⟨_, rfl⟩
    rw [← ht] at c lt ⊢
    by_cases k : t = p
    · simp [runDef, b_check_trace, c, k, lp]
    · simp [runDef, b_check_trace, c, k, lp, lt]
  | some x =>
    rw [e] at c
    rcases e12_t e with rfl | rfl | rfl <;> simp [runDef, b_check_trace, c]
theorem c_check_trace {M : Mach} (hs : machSm M = true) {w : List Sg} (hw : short w = true) {p : List Here} (hp : p.length ≤ 1000) (env : DD.Env) : callTo G 121 [machD M, wd w, .tup (p.map hereD)] env = match papErr M w p with | some x => .exc x env | none => .ok (.bl true) env := by
  have q := q_check_trace hs hw hp
  cases e : papErr M w p with
  | some x => rw [e] at q; exact call_exc fx_check_trace rfl rfl q
  | none => rw [e] at q; exact call_ret fx_check_trace rfl rfl q
theorem c_is_good {M : Mach} (hs : machSm M = true) {w : List Sg} (hw : short w = true) (env : DD.Env) : callTo G 119 [machD M, wd w] env = match goodErr M w with | some x => .exc x env | none => .ok (.bl (goodF M w)) env := by
  have q := q_is_good hs hw
  cases e : goodErr M w with
  | some x => rw [e] at q; exact call_exc fx_is_good rfl rfl q
  | none => rw [e] at q; exact call_ret fx_is_good rfl rfl q
/-! the law's own trace -/
theorem ltr_run {M : Mach} (ok : OkM M) (W : D) : ∀ (w : List Sg) (f : List Here) (h : Here), okH M h → h.2.length ≤ f.length → f.length + w.length ≤ 900 → (∀ s ∈ w, s ∈ allSg M.A M.B M.C) → f.getLast? = some h →
    ∃ e, forLoop (asgT G [] (.nm 3)) (evSs G [] b0_law_trace) (w.map sg) [some (machD M), some (W), some (hrs true f), none] = match trO M w f h with
    | some f' => .ok .nx [some (machD M), some (W), some (hrs true f'), none]
    | none => .ok (.rt .non) e
  | [], f, h, h1, h2, h3, h4, h5 => by simp [trO]
  | s :: w, f, h, h1, h2, h3, h4, h5 => by
    rw [List.length_cons] at h3
    have fl : f.length < lim := Nat.lt_of_le_of_lt (show f.length ≤ 900 by omega) (by decide)
    have hl : h.2.length ≤ lim := Nat.le_trans (show h.2.length ≤ 900 by omega) (by decide)
    obtain ⟨q1, q2⟩ := mv_do ok h1 (h4 s (List.mem_cons_self ..)) (by omega)
    have hd : hereD h = .tup [.int h.1, its h.2] := rfl
    have sd : sg s = .tup [.str s.1, .str s.2] := rfl
    rcases q2 with ⟨e1, e2, e3⟩ | ⟨h', e1, e2, e3, e4⟩
    · simp only [trO, e3]
      refine ⟨[some (machD M), some (W), some (hrs true f), some (sg s)], ?_⟩
      simp [b0_law_trace, h5, hd, sd, e1, e2]
    · simp only [trO, e1]
      have c : ∀ env, callTo G 614 [machD M, hereD h, sg s] env = .ok (hereD h') env := fun env => call_ret fx_law_behind rfl rfl e4
      have st : stp s.1 ≤ 1 := by unfold stp; split <;> (try split) <;> omega
      obtain ⟨e, IH⟩ := ltr_run ok W w (f ++ [h']) h' e2 (by simp; omega) (by simp; omega) (fun x hx => h4 x (List.mem_cons_of_mem _ hx)) (by simp)
      have step : forLoop (asgT G [] (.nm 3)) (evSs G [] b0_law_trace) ((s :: w).map sg) [some (machD M), some (W), some (hrs true f), none] = forLoop (asgT G [] (.nm 3)) (evSs G [] b0_law_trace) (w.map sg) [some (machD M), some (W), some (hrs true (f ++ [h'])), none] := by
        rw [hd, sd] at c
        by_cases k : s.1 = ">"
        · have s3 : stp ">" = -1 := by decide +kernel
          rw [k, s3] at e3
          have k2 : ¬ ((h.2.length : Int) = 0) := by omega
          have k3 : ¬ (h.2 = []) := fun e => by rw [e] at k2; simp at k2
          rw [k] at c
          simp [b0_law_trace, h5, c, fl, hrs, hd, sd, k, k2, k3, hl]
        · simp [b0_law_trace, h5, c, fl, hrs, hd, sd, k, hl]
      exact ⟨e, step.trans IH⟩
theorem c_law_trace {M : Mach} (ok : OkM M) {w : List Sg} (ow : OfM M w) (env : DD.Env) : callTo G 622 [machD M, wd w] env = .ok (match trc M w with | some f => hrs true f | none => .non) env := by
  refine call_ret fx_law_trace rfl rfl ?_
  have hl := ow.len
  obtain ⟨e', F⟩ := ltr_run ok (wd w) w [(0, [])] (0, []) (ok0 ok) (by simp) (by simp; omega) ow.mem rfl
  unfold trc
  cases e3 : trO M w [(0, [])] (0, []) with
  | none =>
    rw [e3] at F
    have e'' : evS G [] f1_law_trace [some (machD M), some (wd w), some (hrs true [(0, [])]), none] = .ok (.rt .non) e' := by
      simp only [f1_law_trace, evS_for_]
      simpa using F
    have e : evS G [] f1_law_trace [some (machD M), some (wd w), some (.lst true [.tup [.int 0, .tup []]]), none] = _ := e''
    simp [runDef, b_law_trace, e]
  | some f' =>
    rw [e3] at F
    have e'' : evS G [] f1_law_trace [some (machD M), some (wd w), some (hrs true [(0, [])]), none] = .ok .nx [some (machD M), some (wd w), some (hrs true f'), none] := by
      simp only [f1_law_trace, evS_for_]
      simpa using F
    have e : evS G [] f1_law_trace [some (machD M), some (wd w), some (.lst true [.tup [.int 0, .tup []]]), none] = _ := e''
    simp [runDef, b_law_trace, e]
end NW

set_option Elab.async false
set_option linter.all false
set_option maxRecDepth 100000
set_option maxHeartbeats 1000000
namespace NW
open PySem DD
/-! ### what all laws draw by -/
/-- a row of ints -/
def IsL (n : Nat) (d : Option D) : Prop := ∃ acc : List Int, d = some (listI acc) ∧ acc.length ≤ n
theorem dig_run {s c st : Option D} {acc : List Int} {r : Int} (hl : acc.length ≤ 3720) : ∃ acc' : List Int, acc'.length ≤ acc.length + 60 ∧ ∃ r' k', evS G [] f1_law_stream [s, some (listI acc), c, some (.int r), none, st] = .ok .nx [s, some (listI acc'), c, some r', k', st] := by
  have z := for_any (G := G) (io := []) (tg := .nm 4) (b := b0_law_stream) (it := .rng (.cons (.cst (.int 60)) .nil)) (env := [s, some (listI acc), c, some (.int r), none, st]) (l := (List.range 60).map fun (k : Nat) => D.int k)
    (fun j e => ∃ acc' r' k, e = [s, some (listI acc'), c, some (.int r'), k, st] ∧ acc'.length ≤ acc.length + j) (fun e => ∃ acc' r' k, e = [s, some (listI acc'), c, some (.int r'), k, st] ∧ acc'.length ≤ acc.length + 60)
    (by have := rng_nat (n := 60) (by omega); simp at this; simp [this]) (fun j x e hx ⟨acc', r', k, he, hq⟩ => by
      subst he
      obtain ⟨q, e⟩ := List.getElem?_eq_some_iff.mp hx
      simp at q e
      subst e
      have hl2 : acc'.length < lim := Nat.lt_of_le_of_lt (show acc'.length ≤ 3800 by omega) (by decide)
      by_cases h : r' / 1009 = 0
      · exact ⟨.bk, [s, some (listI (acc' ++ [r' % 1009])), c, some (.int (r' / 1009)), some (.int j), st], by simp [b0_law_stream, hl2, h, inR], .inr ⟨rfl, _, _, _, rfl, by simp; omega⟩⟩
      · exact ⟨.nx, [s, some (listI (acc' ++ [r' % 1009])), c, some (.int (r' / 1009)), none, st], by simp [b0_law_stream, hl2, h, inR], .inl ⟨rfl, _, _, _, rfl, by simp; omega⟩⟩)
    (fun e ⟨acc', r', k, he, hq⟩ => ⟨acc', r', k, he, by simpa using hq⟩) ⟨acc, r, none, rfl, by omega⟩
  obtain ⟨e', h1, acc', r', k, rfl, h2⟩ := z
  exact ⟨acc', h2, _, _, h1⟩
theorem stir_run {s c r : Option D} {acc : List Int} {st : Int} (hl : acc.length ≤ 3720) : ∃ acc' : List Int, acc'.length ≤ acc.length + 60 ∧ ∃ st', evS G [] f3_law_stream [s, some (listI acc), c, r, none, some (.int st)] = .ok .nx [s, some (listI acc'), c, r, none, st'] ∧ acc.length < acc'.length := by
  have z := for_any (G := G) (io := []) (tg := .nm 4) (b := b2_law_stream) (it := .rng (.cons (.cst (.int 10)) .nil)) (env := [s, some (listI acc), c, r, none, some (.int st)]) (l := (List.range 10).map fun (k : Nat) => D.int k)
    (fun j e => ∃ (acc' : List Int) (st' : Int), e = [s, some (listI acc'), c, r, none, some (.int st')] ∧ acc'.length = acc.length + j) (fun e => ∃ (acc' : List Int) (st' : Option D), e = [s, some (listI acc'), c, r, none, st'] ∧ acc'.length = acc.length + 10)
    (by have := rng_nat (n := 10) (by omega); simp at this; simp [this]) (fun j x e hx ⟨acc', st', he, hq⟩ => by
      subst he
      obtain ⟨q, e⟩ := List.getElem?_eq_some_iff.mp hx
      simp at q e
      subst e
      have hl2 : acc'.length < lim := Nat.lt_of_le_of_lt (show acc'.length ≤ 3800 by omega) (by decide)
      have s1 : small 48271 = true := rfl
      have s2 : small 7 = true := rfl
      have s3 : small 69621 = true := rfl
      exact ⟨.nx, [s, some (listI (acc' ++ [(((st' * 48271 + 7 * (j : Int) + 11) % 2147483647) * 69621 + j) % 2147483629 % 1009])), c, r, none, some (.int ((st' * 48271 + 7 * (j : Int) + 11) % 2147483647))], by simp [b2_law_stream, hl2, s1, s2, s3], .inl ⟨rfl, _, _, rfl, by simp; omega⟩⟩)
    (fun e ⟨acc', st', he, hq⟩ => ⟨acc', _, he, by simpa using hq⟩) ⟨acc, st, rfl, by omega⟩
  obtain ⟨e', h1, acc', st', rfl, h2⟩ := z
  exact ⟨acc', by omega, _, h1, by omega⟩
theorem cell_run {s : Option D} {acc : List Int} {i : Int} (hl : acc.length ≤ 3720) : ∃ acc' : List Int, acc'.length ≤ acc.length + 60 ∧ evSs G [] b4_law_stream [s, some (listI acc), some (.int i), none, none, none] = .ok .nx [s, some (listI acc'), none, none, none, none] := by
  have hp : bop .pow (.int 10) (.int 18) = some (.int 1000000000000000000) := rfl
  obtain ⟨a, ha⟩ : ∃ a : Int, a = if i < 0 then -i else i := ⟨_, rfl⟩
  by_cases h : (1000000000000000000 : Int) ≤ a
  · obtain ⟨acc', h1, r', k', e⟩ := dig_run (s := s) (c := none) (st := none) (acc := acc) (r := a) hl
    refine ⟨acc', h1, ?_⟩
    simp [b4_law_stream, ↓hp, ← ha, h, e, -bop_powI]
  · obtain ⟨acc', h1, st', e, _⟩ := stir_run (s := s) (c := none) (r := none) (acc := acc) (st := a % 2147483647) hl
    refine ⟨acc', h1, ?_⟩
    simp [b4_law_stream, ↓hp, ← ha, h, e, -bop_powI]
theorem q_law_stream (ns : List Int) : ∃ nums : List Int, runDef G [] b_law_stream 6 1 [.ext (ns.map .int)] = .ret (listI nums) [] ∧ 0 < nums.length ∧ nums.length ≤ 3781 := by
  have sl : slop (.ext (ns.map .int)) none (some 63) = some (.lst true ((ns.take 63).map .int)) := by
    show some (D.lst true (cutL (ns.map D.int) none (some 63))) = _
    rw [cutL_map, show (63 : Int) = ((63 : Nat) : Int) from rfl, cut_to]
  have z := for_any (G := G) (io := []) (tg := .nm 2) (b := b4_law_stream) (it := .val (.sl (.plc 0) .nop (.cst (.int 63)))) (env := [some (.ext (ns.map .int)), some (listI []), none, none, none, none]) (l := (ns.take 63).map .int)
    (fun j e => ∃ acc' : List Int, e = [some (.ext (ns.map .int)), some (listI acc'), none, none, none, none] ∧ acc'.length ≤ 60 * j) (fun e => ∃ acc' : List Int, e = [some (.ext (ns.map .int)), some (listI acc'), none, none, none, none] ∧ acc'.length ≤ 3780)
    (by have kf : kidsFz (.ext (ns.map .int)) = true := by show D.isFzL (ns.map .int) = true; simp
        simp [kf, sl]) (fun j x e hx ⟨acc', he, hq⟩ => by
      subst he
      obtain ⟨q, e⟩ := List.getElem?_eq_some_iff.mp hx
      simp at q
      rw [List.getElem_map] at e
      subst e
      obtain ⟨acc2, h1, e⟩ := cell_run (s := some (.ext (ns.map .int))) (acc := acc') (i := (ns.take 63)[j]'(by simpa using q)) (by omega)
      exact ⟨.nx, _, by simp only [asgT_nm, asgNm_def, noPlc_int, List.contains_nil, Bool.not_false, Bool.and_self, List.length_cons, List.length_nil, bind_ok]; exact e, .inl ⟨rfl, _, rfl, by omega⟩⟩)
    (fun e ⟨acc', he, hq⟩ => ⟨acc', he, by
      simp at hq
      omega⟩) ⟨[], rfl, by simp⟩
  obtain ⟨e', h1, acc', rfl, h2⟩ := z
  have e : evS G [] f5_law_stream [some (.ext (ns.map .int)), some (.lst true []), none, none, none, none] = _ := h1
  have fe : D.fz (.ext (ns.map .int)) = .ext (ns.map .int) := by simp
  cases hc : acc' with
  | nil => exact ⟨[0], by subst hc; simp [runDef, b_law_stream, e, show 0 < lim by decide], by simp, by simp⟩
  | cons x r =>
    have hne : ¬ ((r.length : Int) + 1 = 0) := by omega
    exact ⟨x :: r, by subst hc; simp [runDef, b_law_stream, e, hne], by simp, by rw [hc] at h2; omega⟩
theorem c_law_stream (ns : List Int) : ∃ nums : List Int, (∀ env, callTo G 601 [.ext (ns.map .int)] env = .ok (listI nums) env) ∧ 0 < nums.length ∧ nums.length ≤ 3781 := by
  obtain ⟨nums, h1, h2, h3⟩ := q_law_stream ns
  exact ⟨nums, fun env => call_ret fx_law_stream rfl rfl h1, h2, h3⟩
/-! ### the next number -/
def stD (nums : List Int) (n : Int) : D := .lst true [.lst false (nums.map .int), .int n]
def stOk (nums : List Int) (n : Int) : Bool := decide (0 < nums.length) && (decide (nums.length ≤ 4000) && (decide (0 ≤ n) && decide (n < 100000000)))
def drawn (nums : List Int) (n many : Int) : Int := (nums.getD (n % nums.length).toNat 0 + n / nums.length * 389 + n * (n / nums.length) * 17) % many
theorem q_law_next {nums : List Int} {n many : Int} (hc : stOk nums n = true) (hm : 0 < many) : runDef G [0] b_law_next 3 2 [stD nums n, .int many] = .ret (.int (drawn nums (n + 1) many)) [stD nums (n + 1)] := by
  simp only [stOk, Bool.and_eq_true, decide_eq_true_eq] at hc
  obtain ⟨h1, h2, h3, h4⟩ := hc
  have q1 : (0 : Int) < nums.length := by omega
  have i1 : L2.ixN 2 1 = some 1 := rfl
  have hx : L2.atI nums ((n + 1) % nums.length) = some (nums.getD ((n + 1) % nums.length).toNat 0) := by
    have p1 := Int.emod_nonneg (n + 1) (show ((nums.length : Nat) : Int) ≠ 0 by omega)
    have p2 := Int.emod_lt_of_pos (n + 1) q1
    obtain ⟨k, hk⟩ := Int.eq_ofNat_of_zero_le p1
    rw [hk] at p2 ⊢
    rw [atI_at (by omega), List.getD_eq_getElem?_getD, show ((k : Int)).toNat = k from rfl, List.getElem?_eq_getElem (by omega)]; rfl
  have s1 : small 389 = true := rfl
  have s2 : small 17 = true := rfl
  have s3 : small (n + 1) = true := small_of (by omega) (by omega)
  have r1 : inR (nums.length : Int) 1073741823 = true := inR_of (by omega) (by omega)
  obtain ⟨x, hx2⟩ : ∃ x, x = nums.getD ((n + 1) % nums.length).toNat 0 := ⟨_, rfl⟩
  unfold drawn
  rw [← hx2] at hx ⊢
  simp [runDef, b_law_next, stD, i1, hx, h1, q1, r1, s1, s2, s3, hm]
theorem c_law_next {i : Nat} {nums : List Int} {n many : Int} {env : DD.Env} (hx : DD.get env i = some (stD nums n)) (hs : stOk nums n = true) (hm : 0 < many) : callTo G 602 [.plc i, .int many] env = .ok (.int (drawn nums (n + 1) many)) (env.set i (some (stD nums (n + 1)))) :=
  call_io fx_law_next rfl rfl hx (q_law_next hs hm)
theorem drawn_lt {nums : List Int} {n many : Int} (h : 0 < many) : 0 ≤ drawn nums n many ∧ drawn nums n many < many := ⟨Int.emod_nonneg _ (by omega), Int.emod_lt_of_pos _ h⟩
theorem stOk_of {nums : List Int} {n : Int} (h1 : 0 < nums.length) (h2 : nums.length ≤ 3781) (h3 : 0 ≤ n) (h4 : n < 100000000) : stOk nums n = true := by
  simp only [stOk, Bool.and_eq_true, decide_eq_true_eq]
  omega
/-! ### the same texts -/
def okS (d : D) : Bool := okR (.lst false [d.fz])
def shw (d : D) : Str := (D.lst false [d.fz]).py.shown
theorem q_law_same {a b : D} (ha : okS a = true) (hb : okS b = true) : runDef G [] b_law_same 2 2 [a, b] = .ret (.bl (shw a == shw b)) [] := by
  have key : ∀ d : D, okS d = true → noPlc d.fz = true := by
    intro d h
    unfold okS okR at h
    rw [Bool.and_eq_true] at h
    cases d <;> first | rfl | (simp [D.fz, dle, dleL] at h)
  have r1 : bltop .repr [.lst false [a.fz]] = some (.str (shw a)) := by
    show (if okR (.lst false [a.fz]) then some (D.str _) else none) = _
    rw [if_pos (show okR (.lst false [a.fz]) = true from ha)]; rfl
  have r2 : bltop .repr [.lst false [b.fz]] = some (.str (shw b)) := by
    show (if okR (.lst false [b.fz]) then some (D.str _) else none) = _
    rw [if_pos (show okR (.lst false [b.fz]) = true from hb)]; rfl
  simp [runDef, b_law_same, key a ha, key b hb, r1, r2, beqd]
end NW

set_option Elab.async false
set_option linter.all false
set_option maxRecDepth 100000
set_option maxHeartbeats 1000000
namespace NW
open PySem DD
/-! ### the law's own reading -/
theorem k3 {k : Str} (h : kOk k = true) : k = "<" ∨ k = "=" ∨ k = ">" := by
  unfold kOk at h
  rw [Bool.or_eq_true, Bool.or_eq_true, beq_iff_eq, beq_iff_eq, beq_iff_eq] at h
  rcases h with h | h | h
  · exact .inl h.symm
  · exact .inr (.inl h.symm)
  · exact .inr (.inr h.symm)
theorem sidx_h {k : Str} (h : kOk k = true) : ∃ j : Nat, sidx? "<=>" (.str k) = some (.int j) ∧ L2.atI [D.int 1, D.int 0, D.int (-1)] (j : Int) = some (.int (stp k)) := by
  have key : ∀ (z k : Str) (n : Nat), (Builtin.Str.occurrences z k 0 z.length 1).head? = some n → sidx? z (.str k) = some (.int (n : Nat)) := fun z k n e => by
    show (Builtin.Str.occurrences z k 0 z.length 1).head?.map _ = _
    rw [e]; rfl
  have s1 : stp "<" = 1 := by decide +kernel
  have s2 : stp "=" = 0 := by decide +kernel
  have s3 : stp ">" = -1 := by decide +kernel
  rcases k3 h with rfl | rfl | rfl
  · exact ⟨0, key _ _ 0 (by decide +kernel), by rw [s1]; rfl⟩
  · exact ⟨1, key _ _ 1 (by decide +kernel), by rw [s2]; rfl⟩
  · exact ⟨2, key _ _ 2 (by decide +kernel), by rw [s3]; rfl⟩
def kinds (w : List Sg) : Bool := w.all fun s => kOk s.1
theorem q_law_heights {w : List Sg} (hw : w.length ≤ 1000) (hk : kinds w = true) : runDef G [] b_law_heights 4 1 [wd w] = .ret (listI (hts w)) [] := by
  have L := (for_S (G := G) (io := []) (tg := .tup (.cons (.nm 2) (.cons (.nm 3) .nil))) (b := b0_law_heights) (it := .val (.var 0)) (l := w) (g := sg) (env := [some (wd w), some (listI [0]), none, none]) (fun s => [some (wd w), some (listI s), none, none]) (fun j s => s.length = j + 1) hgt (s := [0]) (by simp) (fun j s x hx hj => by
    obtain ⟨k, l⟩ := x
    have hj2 := (List.getElem?_eq_some_iff.mp hx).1
    have kk : kOk k = true := (List.all_eq_true.mp hk) (k, l) (List.mem_of_getElem? hx)
    obtain ⟨m, si, ai⟩ := sidx_h kk
    obtain ⟨n, hn⟩ : ∃ n, s.getLast? = some n := by
      cases e : s.getLast? with
      | none => rw [List.getLast?_eq_none_iff] at e; rw [e] at hj; simp at hj
      | some n => exact ⟨n, rfl⟩
    have hl : s.length < lim := Nat.lt_of_le_of_lt (show s.length ≤ 1001 by omega) (by decide)
    have gl : (s.map D.int).getLast? = some (.int n) := by rw [List.getLast?_map, hn]; rfl
    refine ⟨?_, by rw [hgt_len, hj]⟩
    simp [b0_law_heights, sg, hl, gl, hgt, hn, si, ai]) rfl).1
  have e : evS G [] f1_law_heights [some (wd w), some (.lst true [.int 0]), none, none] = .ok .nx [some (wd w), some (listI (hts w)), none, none] := L
  simp [runDef, b_law_heights, e]
theorem c_law_heights {w : List Sg} (hl : w.length ≤ 1000) (hk : kinds w = true) (env : DD.Env) : callTo G 607 [wd w] env = .ok (listI (hts w)) env := call_ret fx_law_heights rfl rfl (q_law_heights hl hk)
theorem q_law_is_whole {w : List Sg} (hl : w.length ≤ 1000) (hk : kinds w = true) : runDef G [] b_law_is_whole 2 1 [wd w] = .ret (.bl (isW w)) [] := by
  obtain ⟨n, hn⟩ : ∃ n, (hts w).getLast? = some n := by
    cases e : (hts w).getLast? with
    | none => rw [List.getLast?_eq_none_iff] at e; exact (hts_ne w e).elim
    | some n => exact ⟨n, rfl⟩
  obtain ⟨m, hm⟩ : ∃ m, minI (hts w) = some m := by
    cases e : hts w with
    | nil => exact (hts_ne w e).elim
    | cons a r => exact ⟨_, rfl⟩
  by_cases c : n = 0 <;> by_cases c' : m = 0 <;>
  simp [runDef, b_law_is_whole, c_law_heights hl hk, hn, hm, isW, c, c']
theorem c_law_is_whole {w : List Sg} (hl : w.length ≤ 1000) (hk : kinds w = true) (env : DD.Env) : callTo G 608 [wd w] env = .ok (.bl (isW w)) env := call_ret fx_law_is_whole rfl rfl (q_law_is_whole hl hk)
/-! ### drawn labels -/
@[simp] theorem cut2_0 (x y : D) : cutL [x, y] none (some 0) = [] := rfl
@[simp] theorem cut2_1 (x y : D) : cutL [x, y] none (some 1) = [x] := rfl
@[simp] theorem cut2_2 (x y : D) : cutL [x, y] none (some 2) = [x, y] := rfl
def lA : List (List Str) := [["b"], ["b", "c2"]]
def lB : List (List Str) := [[], ["a"], ["a", "x"]]
def lC : List (List Str) := [["e"], ["e", "f"]]
def allS : List (List (List Str)) := lA.flatMap (fun A => lB.flatMap fun B => lC.map fun C => [A, B, C]) ++ ([[["b"], ["a"], []], [[], ["a", "d", "x"], ["e"]], [[], [], []]] : List (List (List Str)))
theorem stOk_succ {nums : List Int} {n k : Int} (h : stOk nums (n + k) = true) (h0 : 0 ≤ n) (hk : 0 ≤ k) : stOk nums n = true := by
  simp only [stOk, Bool.and_eq_true, decide_eq_true_eq] at h ⊢
  omega
theorem q_law_signs {nums : List Int} {n : Int} (h0 : 0 ≤ n) (hs : stOk nums (n + 3) = true) : ∃ A B C, A ∈ lA ∧ B ∈ lB ∧ C ∈ lC ∧ runDef G [0] b_law_signs 3 1 [stD nums n] = .ret (sgnD [A, B, C]) [stD nums (n + 3)] := by
  have h1 : stOk nums n = true := stOk_succ hs h0 (by omega)
  have h2 : stOk nums (n + 1) = true := stOk_succ (k := 2) (by rwa [show n + 1 + 2 = n + 3 by omega]) (by omega) (by omega)
  have h3 : stOk nums (n + 2) = true := stOk_succ (k := 1) (by rwa [show n + 2 + 1 = n + 3 by omega]) (by omega) (by omega)
  have d1 := drawn_lt (nums := nums) (n := n + 1) (many := 2) (by omega)
  have d2 := drawn_lt (nums := nums) (n := n + 2) (many := 3) (by omega)
  have d3 := drawn_lt (nums := nums) (n := n + 3) (many := 3) (by omega)
  have e1 : ∀ (x y : Option D), callTo G 602 [.plc 0, .int 2] [some (stD nums n), x, y] = .ok (.int (drawn nums (n + 1) 2)) [some (stD nums (n + 1)), x, y] := fun x y => c_law_next (i := 0) rfl h1 (by omega)
  have e2 : ∀ (x y : Option D), callTo G 602 [.plc 0, .int 3] [some (stD nums (n + 1)), x, y] = .ok (.int (drawn nums (n + 2) 3)) [some (stD nums (n + 2)), x, y] := fun x y => by
    have := c_law_next (i := 0) (env := [some (stD nums (n + 1)), x, y]) (many := 3) rfl h2 (by omega)
    rwa [show n + 1 + 1 = n + 2 by omega] at this
  have e3 : ∀ (x y : Option D), callTo G 602 [.plc 0, .int 3] [some (stD nums (n + 2)), x, y] = .ok (.int (drawn nums (n + 3) 3)) [some (stD nums (n + 3)), x, y] := fun x y => by
    have := c_law_next (i := 0) (env := [some (stD nums (n + 2)), x, y]) (many := 3) rfl h3 (by omega)
    rwa [show n + 2 + 1 = n + 3 by omega] at this
  generalize drawn nums (n + 1) 2 = v1 at d1 e1
  generalize drawn nums (n + 2) 3 = v2 at d2 e2
  generalize drawn nums (n + 3) 3 = v3 at d3 e3
  refine ⟨if v1 = 0 then ["b"] else ["b", "c2"], if v2 = 0 then [] else if v2 = 1 then ["a"] else ["a", "x"], if v3 = 0 then ["e", "f"] else ["e"], ?_, ?_, ?_, ?_⟩
  · unfold lA; split <;> simp
  · unfold lB; split
    · simp
    · split <;> simp
  · unfold lC; split <;> simp
  · rcases (show v1 = 0 ∨ v1 = 1 by omega) with rfl | rfl <;> rcases (show v2 = 0 ∨ v2 = 1 ∨ v2 = 2 by omega) with rfl | rfl | rfl <;> rcases (show v3 = 0 ∨ v3 = 1 ∨ v3 = 2 by omega) with rfl | rfl | rfl <;> simp [runDef, b_law_signs, e1, e2, e3, sgnD]
end NW
namespace NW
open PySem DD
theorem c_law_signs {i : Nat} {nums : List Int} {n : Int} (h0 : 0 ≤ n) (hs : stOk nums (n + 3) = true) : ∃ A B C, A ∈ lA ∧ B ∈ lB ∧ C ∈ lC ∧ ∀ env : DD.Env, DD.get env i = some (stD nums n) → callTo G 603 [.plc i] env = .ok (sgnD [A, B, C]) (env.set i (some (stD nums (n + 3)))) := by
  obtain ⟨A, B, C, hA, hB, hC, h⟩ := q_law_signs h0 hs
  exact ⟨A, B, C, hA, hB, hC, fun env hx => call_io (ds := []) fx_law_signs rfl rfl hx h⟩
theorem q_law_all_signs {A B C : List Str} (hA : A.length ≤ 1000) (hB : B.length ≤ 1000) (hC : C.length ≤ 1000) : runDef G [] b_law_all_signs 4 1 [sgnD [A, B, C]] = .ret (.lst true ((allSg A B C).map sg)) [] := by
  have cp : ∀ (i : Int) (k : Str) (l : List Str) (a : Option D), l.length ≤ 1000 → L2.atI [A, B, C] i = some l → ixop (.str "<=>") (.int i) = some (.str k) → (ev G [] c0_law_all_signs).v [some (sgnD [A, B, C]), a, some (.int i), none] = .ok (.lst true ((ofK k l).map sg)) [some (sgnD [A, B, C]), a, some (.int i), none] := fun i k l a hl hi hk => by
    unfold ofK
    rw [List.map_map]
    exact lc_mapS (g := .str) (fun x => sg (k, x)) (e1 := [some (sgnD [A, B, C]), a, some (.int i), none]) (by simp [hi]) (Nat.le_trans hl (by decide)) (fun x _ => by simp [sg, ↓hk]) (fun _ _ => rfl) rfl
  have l1 : ∀ k l, (ofK k l).length = l.length := fun k l => by simp [ofK]
  have b1 : A.length ≤ lim := Nat.le_trans hA (by decide)
  have b2 : A.length + B.length ≤ lim := Nat.le_trans (Nat.add_le_add hA hB) (by decide)
  have b3 : A.length + B.length + C.length ≤ lim := Nat.le_trans (Nat.add_le_add (Nat.add_le_add hA hB) hC) (by decide)
  have b3' : A.length + (B.length + C.length) ≤ lim := by omega
  have c0 := fun a => cp 0 "<" A a hA rfl (by kernel_rfl)
  have c1 := fun a => cp 1 "=" B a hB rfl (by kernel_rfl)
  have c2 := fun a => cp 2 ">" C a hC rfl (by kernel_rfl)
  have it : ∀ x y : Option D, evI G [] (.rng (.cons (.cst (.int 3)) .nil)) [some (sgnD [A, B, C]), x, none, y] = .ok [.int 0, .int 1, .int 2] [some (sgnD [A, B, C]), x, none, y] := fun x y => by
    have := rng_nat (n := 3) (by omega)
    simp at this
    rw [evI_rng]
    simp [this]
    rfl
  have e : evS G [] f2_law_all_signs [some (sgnD [A, B, C]), some (.lst true []), none, none] = .ok .nx [some (sgnD [A, B, C]), some (.lst true ((allSg A B C).map sg)), none, none] := by
    refine for_eval (it (some (.lst true [])) none) ?_
    simp only [forLoop_cons, forLoop_nil]
    simp [b1_law_all_signs, c0, c1, c2, l1, b1, b2, b3, b3', allSg]
  simp [runDef, b_law_all_signs, e]
end NW

set_option Elab.async false
set_option linter.all false
set_option maxRecDepth 100000
set_option maxHeartbeats 1000000
namespace NW
open PySem DD
/-! ### a machine drawn -/
section
variable {nums : List Int} {A B C : List Str} {many few : Int}
theorem dr {n m : Int} {env : DD.Env} {i : Nat} {hi : Int} (hx : DD.get env i = some (stD nums n)) (hs : stOk nums hi = true) (h0 : 0 ≤ n) (h1 : n ≤ hi) (hm : 0 < m) : callTo G 602 [.plc i, .int m] env = .ok (.int (drawn nums (n + 1) m)) (env.set i (some (stD nums (n + 1)))) :=
  c_law_next hx (stOk_succ (k := hi - n) (by rwa [show n + (hi - n) = hi by omega]) h0 (by omega)) hm
theorem m_calls (h1 : 0 < many) (h2 : 0 < few) (hA : A.length ≤ 3) {n : Int} (h0 : 0 ≤ n) (hs : stOk nums (n + 8) = true) (r k : Option D) : ∃ (bs : List (Int × Int)) (n' : Int), bs.length = A.length ∧ (∀ p ∈ bs, (0 ≤ p.1 ∧ p.1 < many) ∧ 0 ≤ p.2 ∧ p.2 < few) ∧ n ≤ n' ∧ n' ≤ n + 6 ∧ (ev G [0] c4_law_machine).v [some (stD nums n), some (sgnD [A, B, C]), none, none, some (.int many), some (.int few), r, k, none, none, none, none, none, none] = .ok (.lst true (bs.map prI)) [some (stD nums n'), some (sgnD [A, B, C]), none, none, some (.int many), some (.int few), r, k, none, none, none, none, none, none] := by
  obtain ⟨bs, n', q1, q2, q3, q4, q5⟩ := lc_draw (G := G) (io := [0]) (elt := (.tup (.cons (.fz (.call 602 (.cons (.plc 0) (.cons (.var 4) .nil)))) (.cons (.fz (.call 602 (.cons (.plc 0) (.cons (.var 5) .nil)))) .nil)))) (tg := .nm 12) (it := (.val (.ix (.plc 1) (.cst (.int 0))))) (own := [12]) (l := A) (g := .str) (env := [some (stD nums n), some (sgnD [A, B, C]), none, none, some (.int many), some (.int few), r, k, none, none, none, none, none, none]) (e1 := [some (stD nums n), some (sgnD [A, B, C]), none, none, some (.int many), some (.int few), r, k, none, none, none, none, none, none])
    (fun n => [some (stD nums n), some (sgnD [A, B, C]), none, none, some (.int many), some (.int few), r, k, none, none, none, none, none, none]) (fun n => [some (stD nums n), some (sgnD [A, B, C]), none, none, some (.int many), some (.int few), r, k, none, none, none, none, none, none]) prI (fun p : Int × Int => (0 ≤ p.1 ∧ p.1 < many) ∧ 0 ≤ p.2 ∧ p.2 < few) (n0 := n) (c := 2) (by omega) (by simp) (Nat.le_trans hA (by decide)) rfl
    (fun m hm1 hm2 a _ => by
      have dA := fun env hx => dr (nums := nums) (n := m) (m := many) (env := env) (i := 0) hx hs (by omega) (by omega) h1
      have dB := fun env hx => dr (nums := nums) (n := m + 1) (m := few) (env := env) (i := 0) hx hs (by omega) (by omega) h2
      refine ⟨(drawn nums (m + 1) many, drawn nums (m + 2) few), m + 2, by omega, by omega, ⟨drawn_lt h1, drawn_lt h2⟩, rfl, ?_⟩
      rw [show m + 1 + 1 = m + 2 by omega] at dB
      simp [dA, dB, prI]) (fun _ => rfl)
  exact ⟨bs, n', q1, q2, q3, by omega, q5⟩
theorem m_stays (h1 : 0 < many) (hB : B.length ≤ 3) {n : Int} (h0 : 0 ≤ n) (hs : stOk nums (n + 6) = true) (r k c : Option D) : ∃ (bs : List Int) (n' : Int), bs.length = B.length ∧ (∀ p ∈ bs, 0 ≤ p ∧ p < many) ∧ n ≤ n' ∧ n' ≤ n + 3 ∧ (ev G [0] c3_law_machine).v [some (stD nums n), some (sgnD [A, B, C]), none, none, some (.int many), some (.int few), r, k, none, c, none, none, none, none] = .ok (.lst true (bs.map .int)) [some (stD nums n'), some (sgnD [A, B, C]), none, none, some (.int many), some (.int few), r, k, none, c, none, none, none, none] := by
  obtain ⟨bs, n', q1, q2, q3, q4, q5⟩ := lc_draw (G := G) (io := [0]) (elt := (.call 602 (.cons (.plc 0) (.cons (.var 4) .nil)))) (tg := .nm 12) (it := (.val (.ix (.plc 1) (.cst (.int 1))))) (own := [12]) (l := B) (g := .str) (env := [some (stD nums n), some (sgnD [A, B, C]), none, none, some (.int many), some (.int few), r, k, none, c, none, none, none, none]) (e1 := [some (stD nums n), some (sgnD [A, B, C]), none, none, some (.int many), some (.int few), r, k, none, c, none, none, none, none])
    (fun n => [some (stD nums n), some (sgnD [A, B, C]), none, none, some (.int many), some (.int few), r, k, none, c, none, none, none, none]) (fun n => [some (stD nums n), some (sgnD [A, B, C]), none, none, some (.int many), some (.int few), r, k, none, c, none, none, none, none]) .int (fun p : Int => 0 ≤ p ∧ p < many) (n0 := n) (c := 1) (by omega) (by simp) (Nat.le_trans hB (by decide)) rfl
    (fun m hm1 hm2 a _ => by
      have dA := fun env hx => dr (nums := nums) (n := m) (m := many) (env := env) (i := 0) hx hs (by omega) (by omega) h1
      exact ⟨drawn nums (m + 1) many, m + 1, by omega, by omega, drawn_lt h1, rfl, by simp [dA]⟩) (fun _ => rfl)
  exact ⟨bs, n', q1, q2, q3, by omega, q5⟩
theorem m_back (h1 : 0 < many) (h2 : 0 < few) (h3 : few ≤ 8) {n : Int} (h0 : 0 ≤ n) (hs : stOk nums (n + 8) = true) (r k c d : Option D) (l : D) : ∃ (bs : List Int) (n' : Int), (bs.length : Int) = few ∧ (∀ p ∈ bs, 0 ≤ p ∧ p < many) ∧ n ≤ n' ∧ n' ≤ n + 8 ∧ (ev G [0] c1_law_machine).v [some (stD nums n), some (sgnD [A, B, C]), none, none, some (.int many), some (.int few), r, k, none, c, d, none, some (l), none] = .ok (.lst true (bs.map .int)) [some (stD nums n'), some (sgnD [A, B, C]), none, none, some (.int many), some (.int few), r, k, none, c, d, none, some (l), none] := by
  obtain ⟨f, rfl⟩ := Int.eq_ofNat_of_zero_le (show 0 ≤ few by omega)
  have rg := rng_nat (n := f) (by omega)
  obtain ⟨bs, n', q1, q2, q3, q4, q5⟩ := lc_draw (G := G) (io := [0]) (elt := (.call 602 (.cons (.plc 0) (.cons (.var 4) .nil)))) (tg := .nm 13) (it := (.rng (.cons (.plc 5) .nil))) (own := [13]) (l := List.range f) (g := fun k : Nat => .int k) (env := [some (stD nums n), some (sgnD [A, B, C]), none, none, some (.int many), some (.int f), r, k, none, c, d, none, some (l), none]) (e1 := [some (stD nums n), some (sgnD [A, B, C]), none, none, some (.int many), some (.int f), r, k, none, c, d, none, some (l), none])
    (fun n => [some (stD nums n), some (sgnD [A, B, C]), none, none, some (.int many), some (.int f), r, k, none, c, d, none, some (l), none]) (fun n => [some (stD nums n), some (sgnD [A, B, C]), none, none, some (.int many), some (.int f), r, k, none, c, d, none, some (l), none]) .int (fun p : Int => 0 ≤ p ∧ p < many) (n0 := n) (c := 1) (by omega) (by simp [rg]) (by rw [List.length_range]; exact Nat.le_trans (show f ≤ 8 by omega) (by decide)) rfl
    (fun m hm1 hm2 a _ => by
      rw [List.length_range] at hm2
      have dA := fun env hx => dr (nums := nums) (n := m) (m := many) (env := env) (i := 0) hx hs (by omega) (by omega) h1
      exact ⟨drawn nums (m + 1) many, m + 1, by omega, by omega, drawn_lt h1, rfl, by simp [dA]⟩) (fun _ => rfl)
  rw [List.length_range] at q1 q4
  exact ⟨bs, n', by omega, q2, q3, by omega, q5⟩
theorem m_backs (h1 : 0 < many) (h2 : 0 < few) (h3 : few ≤ 8) (hC : C.length ≤ 3) {n : Int} (h0 : 0 ≤ n) (hs : stOk nums (n + 40) = true) (r k c d : Option D) : ∃ (bs : List (List Int)) (n' : Int), bs.length = C.length ∧ (∀ p ∈ bs, (p.length : Int) = few ∧ ∀ x ∈ p, 0 ≤ x ∧ x < many) ∧ n ≤ n' ∧ n' ≤ n + 24 ∧ (ev G [0] c2_law_machine).v [some (stD nums n), some (sgnD [A, B, C]), none, none, some (.int many), some (.int few), r, k, none, c, d, none, none, none] = .ok (.lst true (bs.map fun l => its l)) [some (stD nums n'), some (sgnD [A, B, C]), none, none, some (.int many), some (.int few), r, k, none, c, d, none, none, none] := by
  obtain ⟨bs, n', q1, q2, q3, q4, q5⟩ := lc_draw (G := G) (io := [0]) (elt := (.blt .tuple (.cons c1_law_machine .nil))) (tg := .nm 12) (it := (.val (.ix (.plc 1) (.cst (.int 2))))) (own := [12]) (l := C) (g := .str) (env := [some (stD nums n), some (sgnD [A, B, C]), none, none, some (.int many), some (.int few), r, k, none, c, d, none, none, none]) (e1 := [some (stD nums n), some (sgnD [A, B, C]), none, none, some (.int many), some (.int few), r, k, none, c, d, none, none, none])
    (fun n => [some (stD nums n), some (sgnD [A, B, C]), none, none, some (.int many), some (.int few), r, k, none, c, d, none, none, none]) (fun n => [some (stD nums n), some (sgnD [A, B, C]), none, none, some (.int many), some (.int few), r, k, none, c, d, none, none, none]) (fun l : List Int => its l) (fun p : List Int => (p.length : Int) = few ∧ ∀ x ∈ p, 0 ≤ x ∧ x < many) (n0 := n) (c := 8) (by omega) (by simp) (Nat.le_trans hC (by decide)) rfl
    (fun m hm1 hm2 a _ => by
      obtain ⟨bs, n', q1, q2, q3, q4, q5⟩ := m_back (A := A) (B := B) (C := C) h1 h2 h3 (n := m) (by omega) (stOk_succ (k := n + 40 - (m + 8)) (by rwa [show m + 8 + (n + 40 - (m + 8)) = n + 40 by omega]) (by omega) (by omega)) r k c d (.str a)
      exact ⟨bs, n', q3, q4, ⟨q1, q2⟩, by simp, by simp [q5]⟩) (fun _ => rfl)
  exact ⟨bs, n', q1, q2, q3, by omega, q5⟩
theorem m_row (h1 : 0 < many) (h2 : 0 < few) (h3 : few ≤ 8) (hA : A.length ≤ 3) (hB : B.length ≤ 3) (hC : C.length ≤ 3) {n : Int} (h0 : 0 ≤ n) (hs : stOk nums (n + 50) = true) {rows : List Row} (hr : rows.length ≤ 100) (k : D) : ∃ (r : Row) (n' : Int), ((r.calls.length = A.length ∧ r.stays.length = B.length ∧ r.backs.length = C.length) ∧ (∀ p ∈ r.calls, (0 ≤ p.1 ∧ p.1 < many) ∧ 0 ≤ p.2 ∧ p.2 < few) ∧ (∀ p ∈ r.stays, 0 ≤ p ∧ p < many) ∧ ∀ p ∈ r.backs, (p.length : Int) = few ∧ ∀ x ∈ p, 0 ≤ x ∧ x < many) ∧ n ≤ n' ∧ n' ≤ n + 33 ∧ evSs G [0] b5_law_machine [some (stD nums n), some (sgnD [A, B, C]), none, none, some (.int many), some (.int few), some (.lst true (rows.map rowD)), some (k), none, none, none, none, none, none] = .ok .nx [some (stD nums n'), some (sgnD [A, B, C]), none, none, some (.int many), some (.int few), some (.lst true ((rows ++ [r]).map rowD)), none, none, none, none, none, none, none] := by
  have S : ∀ {a : Int}, 0 ≤ a → a ≤ n + 50 → stOk nums a = true := fun {a} ha hb => stOk_succ (k := n + 50 - a) (by rwa [show a + (n + 50 - a) = n + 50 by omega]) ha (by omega)
  obtain ⟨cs, n1, p1, p2, p3, p4, p5⟩ := m_calls (A := A) (B := B) (C := C) h1 h2 hA h0 (S (by omega) (by omega)) (some (.lst true (rows.map rowD))) (some k)
  obtain ⟨ss, n2, q1, q2, q3, q4, q5⟩ := m_stays (A := A) (B := B) (C := C) (few := few) h1 hB (n := n1) (by omega) (S (by omega) (by omega)) (some (.lst true (rows.map rowD))) (some k) (some (.tup (cs.map prI)))
  obtain ⟨bs, n3, r1, r2, r3, r4, r5⟩ := m_backs (A := A) (B := B) (C := C) h1 h2 h3 hC (n := n2) (by omega) (S (by omega) (by omega)) (some (.lst true (rows.map rowD))) (some k) (some (.tup (cs.map prI))) (some (its ss))
  have lr : rows.length < lim := Nat.lt_of_le_of_lt hr (by decide)
  refine ⟨⟨cs, ss, bs⟩, n3, ⟨⟨p1, q1, r1⟩, p2, q2, r2⟩, by omega, by omega, ?_⟩
  simp [b5_law_machine, p5, q5, r5, lr, rowD]
theorem inS_nat {M : Nat} {t : Int} (h : 0 ≤ t ∧ t < (M : Int)) : inS (stI M) t = true := (inS_iff _ _).mpr h
theorem risesI_of {l : List Int} (h : l.Pairwise (· < ·)) : risesI l = true := by
  unfold risesI
  rw [List.all_eq_true]
  intro p hp
  induction l with
  | nil => simp at hp
  | cons x l ih =>
    cases l with
    | nil => simp at hp
    | cons y l =>
      rw [List.pairwise_cons] at h
      simp only [List.tail_cons, List.zip_cons_cons, List.mem_cons] at hp
      rcases hp with rfl | hp
      · simpa using h.1 y (List.mem_cons_self ..)
      · exact ih h.2 (by simpa using hp)
theorem q_law_machine (hA : sgnErr [A, B, C] = none) {n : Int} (h0 : 0 ≤ n) (hs : stOk nums (n + 400) = true) : ∃ (M : Mach) (n' : Int), (M.A = A ∧ M.B = B ∧ M.C = C) ∧ OkM M ∧ n ≤ n' ∧ n' ≤ n + 300 ∧ runDef G [0] b_law_machine 14 4 [stD nums n, sgnD [A, B, C], .int 8, .int 8] = .ret (machD M) [stD nums n'] := by
  obtain ⟨l1, l2, l3⟩ := le3 (M := ⟨A, B, C, 0, [], []⟩) hA
  simp only at l1 l2 l3
  have d1 := fun env hx => dr (nums := nums) (n := n) (m := 8) (env := env) (i := 0) hx hs (by omega) (by omega) (by omega)
  have d2 := fun env hx => dr (nums := nums) (n := n + 1) (m := 8) (env := env) (i := 0) hx hs (by omega) (by omega) (by omega)
  have b1 := drawn_lt (nums := nums) (n := n + 1) (many := 8) (by omega)
  have b2 := drawn_lt (nums := nums) (n := n + 1 + 1) (many := 8) (by omega)
  obtain ⟨m, hm⟩ := Int.eq_ofNat_of_zero_le (show 0 ≤ 1 + drawn nums (n + 1) 8 by omega)
  obtain ⟨few, hf⟩ : ∃ f, f = 1 + drawn nums (n + 1 + 1) 8 := ⟨_, rfl⟩
  have rg := rng_nat (n := m) (by omega)
  have S : ∀ {a : Int}, 0 ≤ a → a ≤ n + 400 → stOk nums a = true := fun {a} ha hb => stOk_succ (k := n + 400 - a) (by rwa [show a + (n + 400 - a) = n + 400 by omega]) ha (by omega)
  have F := for_any (G := G) (io := [0]) (tg := .nm 7) (b := b5_law_machine) (it := .rng (.cons (.plc 4) .nil)) (env := [some (stD nums (n + 2)), some (sgnD [A, B, C]), none, none, some (.int m), some (.int few), some (.lst true []), none, none, none, none, none, none, none]) (e1 := [some (stD nums (n + 2)), some (sgnD [A, B, C]), none, none, some (.int m), some (.int few), some (.lst true []), none, none, none, none, none, none, none]) (l := (List.range m).map fun (k : Nat) => D.int k)
    (fun j e => ∃ (rows : List Row) (a : Int), e = [some (stD nums a), some (sgnD [A, B, C]), none, none, some (.int m), some (.int few), some (.lst true (rows.map rowD)), none, none, none, none, none, none, none] ∧ rows.length = j ∧ n + 2 ≤ a ∧ a ≤ n + 2 + 33 * j ∧ ∀ r ∈ rows, ((r.calls.length = A.length ∧ r.stays.length = B.length ∧ r.backs.length = C.length) ∧ (∀ p ∈ r.calls, (0 ≤ p.1 ∧ p.1 < m) ∧ 0 ≤ p.2 ∧ p.2 < few) ∧ (∀ p ∈ r.stays, 0 ≤ p ∧ p < m) ∧ ∀ p ∈ r.backs, (p.length : Int) = few ∧ ∀ x ∈ p, 0 ≤ x ∧ x < m))
    (fun e => ∃ (rows : List Row) (a : Int), e = [some (stD nums a), some (sgnD [A, B, C]), none, none, some (.int m), some (.int few), some (.lst true (rows.map rowD)), none, none, none, none, none, none, none] ∧ rows.length = m ∧ n + 2 ≤ a ∧ a ≤ n + 2 + 33 * m ∧ ∀ r ∈ rows, ((r.calls.length = A.length ∧ r.stays.length = B.length ∧ r.backs.length = C.length) ∧ (∀ p ∈ r.calls, (0 ≤ p.1 ∧ p.1 < m) ∧ 0 ≤ p.2 ∧ p.2 < few) ∧ (∀ p ∈ r.stays, 0 ≤ p ∧ p < m) ∧ ∀ p ∈ r.backs, (p.length : Int) = few ∧ ∀ x ∈ p, 0 ≤ x ∧ x < m))
    (by simp [rg]) (fun j x e hx ⟨rows, a, he, q1, q2, q3, q4⟩ => by
      subst he
      obtain ⟨q, e⟩ := List.getElem?_eq_some_iff.mp hx
      simp at q e
      subst e
      obtain ⟨r, a', r1, r2, r3, r4⟩ := m_row (nums := nums) (A := A) (B := B) (C := C) (many := m) (few := few) (by omega) (by omega) (by omega) l1 l2 l3 (n := a) (by omega) (S (by omega) (by omega)) (rows := rows) (by omega) (.int j)
      refine ⟨.nx, _, ?_, .inl ⟨rfl, rows ++ [r], a', rfl, by simp; omega, by omega, by omega, ?_⟩⟩
      · rw [← r4]
        simp
      · intro r' hr
        rcases List.mem_append.mp hr with hr | hr
        · exact q4 r' hr
        · rw [List.mem_singleton] at hr; subst hr; exact r1)
    (fun e h => by simpa using h) ⟨[], n + 2, rfl, rfl, by omega, by omega, by simp⟩
  obtain ⟨e', F1, rows, a, rfl, g1, g2, g3, g4⟩ := F
  obtain ⟨bs, n', p1, p2, p3⟩ := lc_pick (G := G) (io := [0]) (elt := .var 7) (tg := .nm 7) (it := .rng (.cons (.plc 4) .nil)) (cond := (.cons (.cmp .eq (.call 602 (.cons (.plc 0) (.cons (.cst (.int 2)) .nil))) (.cst (.int 0))) .nil)) (own := [7]) (l := List.range m) (g := fun k : Nat => .int k) (f := fun k : Nat => .int k) (env := [some (stD nums a), some (sgnD [A, B, C]), none, none, some (.int m), some (.int few), some (.lst true (rows.map rowD)), none, none, none, none, none, none, none]) (e1 := [some (stD nums a), some (sgnD [A, B, C]), none, none, some (.int m), some (.int few), some (.lst true (rows.map rowD)), none, none, none, none, none, none, none])
    (fun a => [some (stD nums a), some (sgnD [A, B, C]), none, none, some (.int m), some (.int few), some (.lst true (rows.map rowD)), none, none, none, none, none, none, none]) (fun a => [some (stD nums a), some (sgnD [A, B, C]), none, none, some (.int m), some (.int few), some (.lst true (rows.map rowD)), none, none, none, none, none, none, none]) (n0 := a) (c := 1) (by omega) (by simp [rg]) (by rw [List.length_range]; exact Nat.le_trans (show m ≤ 8 by omega) (by decide)) rfl
    (fun b hb1 hb2 k _ => by
      rw [List.length_range] at hb2
      have dA := fun env hx => dr (nums := nums) (n := b) (m := 2) (env := env) (i := 0) hx hs (by omega) (by omega) (by omega)
      refine ⟨decide (drawn nums (b + 1) 2 = 0), b + 1, by omega, by omega, rfl, ?_⟩
      by_cases k : drawn nums (b + 1) 2 = 0 <;> simp [dA, k]) (fun _ => rfl)
  rw [List.length_range] at p2
  have sub := pickB_sub bs (List.range m)
  obtain ⟨gs, hgs⟩ : ∃ gs, gs = pickB bs (List.range m) := ⟨_, rfl⟩
  rw [← hgs] at sub p3
  have pw : (gs.map fun k : Nat => (k : Int)).Pairwise (· < ·) := by
    rw [List.pairwise_map]
    exact ((List.pairwise_lt_range).sublist sub).imp fun h => by omega
  refine ⟨⟨A, B, C, few, rows, gs.map fun k : Nat => (k : Int)⟩, n', ⟨rfl, rfl, rfl⟩, ⟨hA, by simp only; omega, by simp only; omega, by simp only; omega, by simp only; omega, ?_, risesI_of pw, fun r hr => ?_⟩, by omega, by omega, ?_⟩
  · simp only
    rw [List.all_eq_true]
    intro x hx
    obtain ⟨k, hk, rfl⟩ := List.mem_map.mp hx
    have := List.mem_range.mp (sub.subset hk)
    exact inS_nat (by omega)
  · obtain ⟨⟨u1, u2, u3⟩, u4, u5, u6⟩ := g4 r hr
    simp only [rowOk, Bool.and_eq_true, decide_eq_true_eq, List.all_eq_true]
    rw [g1]
    exact ⟨u1, u2, u3, fun p hp => ⟨inS_nat (u4 p hp).1, (u4 p hp).2⟩, fun p hp => inS_nat (u5 p hp), fun p hp => ⟨(u6 p hp).1, fun x hx => inS_nat ((u6 p hp).2 x hx)⟩⟩
  · have e6 : evS G [0] f6_law_machine [some (stD nums (n + 2)), some (sgnD [A, B, C]), none, none, some (.int m), some (.int few), some (.lst true []), none, none, none, none, none, none, none] = _ := F1
    have e7 : (ev G [0] c0_law_machine).v [some (stD nums a), some (sgnD [A, B, C]), none, none, some (.int m), some (.int few), some (.lst true (rows.map rowD)), none, none, none, none, none, none, none] = _ := p3
    rw [show n + 1 + 1 = n + 2 by omega] at d2 hf
    simp [runDef, b_law_machine, d1, d2, hm, ← hf, e6, e7, machD, Function.comp_def]
end
end NW

set_option Elab.async false
set_option linter.all false
set_option maxRecDepth 100000
set_option maxHeartbeats 1000000
namespace NW
open PySem DD
/-! ### words drawn -/
theorem atI_draw {α : Type} {l : List α} {d : Int} (h0 : 0 ≤ d) (h1 : d < l.length) : ∃ x, L2.atI l d = some x ∧ x ∈ l := by
  obtain ⟨n, rfl⟩ := Int.eq_ofNat_of_zero_le h0
  have hn : n < l.length := by omega
  exact ⟨l[n], by rw [atI_nat, List.getElem?_eq_getElem hn], List.getElem_mem hn⟩
section
variable {nums : List Int} {A B C : List Str}
theorem mA {x : Str} (h : x ∈ A) : (("<", x) : Sg) ∈ allSg A B C := List.mem_append_left _ (List.mem_map.mpr ⟨x, h, rfl⟩)
theorem mB {x : Str} (h : x ∈ B) : (("=", x) : Sg) ∈ allSg A B C := List.mem_append_right _ (List.mem_append_left _ (List.mem_map.mpr ⟨x, h, rfl⟩))
theorem mC {x : Str} (h : x ∈ C) : ((">", x) : Sg) ∈ allSg A B C := List.mem_append_right _ (List.mem_append_right _ (List.mem_map.mpr ⟨x, h, rfl⟩))
theorem word_step (hA : 0 < A.length) (hC : 0 < C.length) (sA : A.length ≤ 3) (sB : B.length ≤ 3) (sC : C.length ≤ 3) {a hi : Int} (hs : stOk nums hi = true) (h0 : 0 ≤ a) (h1 : a + 3 ≤ hi) {w : List Sg} (hw : w.length ≤ 100) {h : Nat} (hh : h ≤ 100) (k : D) : ∃ (w' : List Sg) (h' : Nat) (a' : Int), evSs G [0] b2_law_word [some (stD nums a), some (sgnD [A, B, C]), some (.int 12), some (.lst true (w.map sg)), some (.int h), some (k), none] = .ok .nx [some (stD nums a'), some (sgnD [A, B, C]), some (.int 12), some (.lst true (w'.map sg)), some (.int h'), none, none] ∧ w'.length + h' ≤ w.length + h + 2 ∧ a ≤ a' ∧ a' ≤ a + 2 ∧ ((∀ s ∈ w, s ∈ allSg A B C) → ∀ s ∈ w', s ∈ allSg A B C) := by
  have lw : w.length < lim := Nat.lt_of_le_of_lt hw (by decide)
  have t0 : L2.atI [A, B, C] 0 = some A := rfl
  have t1 : L2.atI [A, B, C] 1 = some B := rfl
  have t2 : L2.atI [A, B, C] 2 = some C := rfl
  have L : ∀ {k : Nat}, k ≤ 3 → k ≤ lim := fun h => Nat.le_trans h (by decide)
  have d1 := fun env hx => dr (nums := nums) (n := a) (m := 3) (env := env) (i := 0) hx hs (by omega) (by omega) (by omega)
  have dA := fun env hx => dr (nums := nums) (n := a + 1) (m := A.length) (env := env) (i := 0) hx hs (by omega) (by omega) (by omega)
  have dC := fun env hx => dr (nums := nums) (n := a + 1) (m := C.length) (env := env) (i := 0) hx hs (by omega) (by omega) (by omega)
  have b1 := drawn_lt (nums := nums) (n := a + 1) (many := 3) (by omega)
  have bA := drawn_lt (nums := nums) (n := a + 1 + 1) (many := A.length) (by omega)
  have bC := drawn_lt (nums := nums) (n := a + 1 + 1) (many := C.length) (by omega)
  obtain ⟨xa, ea, ma⟩ := atI_draw bA.1 bA.2
  obtain ⟨xc, ec, mc⟩ := atI_draw bC.1 bC.2
  have kA : (0 : Int) < A.length := by omega
  have kC : (0 : Int) < C.length := by omega
  by_cases k0 : drawn nums (a + 1) 3 = 0
  · refine ⟨w ++ [(("<", xa) : Sg)], h + 1, a + 1 + 1, ?_, by simp; omega, by omega, by omega, fun hm s hs => ?_⟩
    · simp [b2_law_word, d1, dA, k0, t0, t2, kA, kC, hA, hC, ea, lw, L sA, L sC, sg]
    · rcases List.mem_append.mp hs with hs | hs
      · exact hm s hs
      · rw [List.mem_singleton] at hs; subst hs; exact mA ma
  · by_cases k1 : drawn nums (a + 1) 3 = 1 ∧ 0 < h
    · obtain ⟨k1, k2⟩ := k1
      obtain ⟨g, rfl⟩ : ∃ g, h = g + 1 := ⟨h - 1, by omega⟩
      refine ⟨w ++ [((">", xc) : Sg)], g, a + 1 + 1, ?_, by simp; omega, by omega, by omega, fun hm s hs => ?_⟩
      · have k3 : (0 : Int) < (g : Int) + 1 := by omega
        simp [b2_law_word, d1, dC, k1, t0, t2, kA, kC, hA, hC, ec, lw, L sA, L sC, sg, k3]
      · rcases List.mem_append.mp hs with hs | hs
        · exact hm s hs
        · rw [List.mem_singleton] at hs; subst hs; exact mC mc
    · have k1' : ¬ drawn nums (a + 1) 3 = 1 ∨ ¬ (0 : Int) < h := by omega
      by_cases kB : 0 < B.length
      · have dB := fun env hx => dr (nums := nums) (n := a + 1) (m := B.length) (env := env) (i := 0) hx hs (by omega) (by omega) (by omega)
        have bB := drawn_lt (nums := nums) (n := a + 1 + 1) (many := B.length) (by omega)
        obtain ⟨xb, eb, mb⟩ := atI_draw bB.1 bB.2
        refine ⟨w ++ [(("=", xb) : Sg)], h, a + 1 + 1, ?_, by simp; omega, by omega, by omega, fun hm s hs => ?_⟩
        · have kB' : (0 : Int) < B.length := by omega
          rcases k1' with k1' | k1'
          · simp [b2_law_word, d1, dB, k0, k1', t0, t1, t2, kA, kC, kB, kB', hA, hC, eb, lw, L sA, L sC, L sB, sg]
          · obtain rfl : h = 0 := by omega
            by_cases k5 : drawn nums (a + 1) 3 = 1 <;> simp [b2_law_word, d1, dB, k0, k5, k1', t0, t1, t2, kA, kC, kB, kB', hA, hC, eb, lw, L sA, L sC, L sB, sg]
        · rcases List.mem_append.mp hs with hs | hs
          · exact hm s hs
          · rw [List.mem_singleton] at hs; subst hs; exact mB mb
      · refine ⟨w, h, a + 1, ?_, by omega, by omega, by omega, fun hm => hm⟩
        have kB' : ¬ (0 : Int) < B.length := by omega
        rcases k1' with k1' | k1'
        · simp [b2_law_word, d1, k0, k1', t0, t1, t2, kA, kC, kB, kB', hA, hC, L sA, L sC, L sB]
        · obtain rfl : h = 0 := by omega
          by_cases k5 : drawn nums (a + 1) 3 = 1 <;> simp [b2_law_word, d1, k0, k5, k1', t0, t1, t2, kA, kC, kB, kB', hA, hC, L sA, L sC, L sB]
theorem q_law_word (hA : 0 < A.length) (hC : 0 < C.length) (sA : A.length ≤ 3) (sB : B.length ≤ 3) (sC : C.length ≤ 3) {n : Int} (h0 : 0 ≤ n) (hs : stOk nums (n + 100) = true) : ∃ (w : List Sg) (n' : Int), (∀ s ∈ w, s ∈ allSg A B C) ∧ w.length ≤ 24 ∧ n ≤ n' ∧ n' ≤ n + 60 ∧ runDef G [0] b_law_word 7 3 [stD nums n, sgnD [A, B, C], .int 12] = .ret (wd w) [stD nums n'] := by
  have d1 := fun env hx => dr (nums := nums) (n := n) (m := 13) (env := env) (i := 0) hx hs (by omega) (by omega) (by omega)
  have b1 := drawn_lt (nums := nums) (n := n + 1) (many := 13) (by omega)
  obtain ⟨m, hm⟩ := Int.eq_ofNat_of_zero_le b1.1
  have rg := rng_nat (n := m) (by omega)
  have t2 : L2.atI [A, B, C] 2 = some C := rfl
  have F := for_any (G := G) (io := [0]) (tg := .nm 5) (b := b2_law_word) (it := (.rng (.cons (.call 602 (.cons (.plc 0) (.cons (.bin .add (.plc 2) (.cst (.int 1))) .nil))) .nil))) (env := [some (stD nums n), some (sgnD [A, B, C]), some (.int 12), some (.lst true []), some (.int 0), none, none]) (e1 := [some (stD nums (n + 1)), some (sgnD [A, B, C]), some (.int 12), some (.lst true []), some (.int 0), none, none]) (l := (List.range m).map fun (k : Nat) => D.int k)
    (fun j e => ∃ (w : List Sg) (h : Nat) (a : Int), e = [some (stD nums a), some (sgnD [A, B, C]), some (.int 12), some (.lst true (w.map sg)), some (.int h), none, none] ∧ w.length + h ≤ 2 * j ∧ n + 1 ≤ a ∧ a ≤ n + 1 + 2 * j ∧ ∀ s ∈ w, s ∈ allSg A B C)
    (fun e => ∃ (w : List Sg) (h : Nat) (a : Int), e = [some (stD nums a), some (sgnD [A, B, C]), some (.int 12), some (.lst true (w.map sg)), some (.int h), none, none] ∧ w.length + h ≤ 24 ∧ n + 1 ≤ a ∧ a ≤ n + 25 ∧ ∀ s ∈ w, s ∈ allSg A B C)
    (by simp [d1, hm, rg]) (fun j x e hx ⟨w, h, a, he, q1, q2, q3, q4⟩ => by
      subst he
      obtain ⟨q, e⟩ := List.getElem?_eq_some_iff.mp hx
      simp at q e
      subst e
      obtain ⟨w', h', a', r1, r2, r3, r4, r5⟩ := word_step (nums := nums) (A := A) (B := B) (C := C) hA hC sA sB sC hs (a := a) (by omega) (by omega) (w := w) (by omega) (h := h) (by omega) (.int j)
      exact ⟨.nx, _, by rw [← r1]; simp, .inl ⟨rfl, w', h', a', rfl, by omega, by omega, by omega, r5 q4⟩⟩)
    (fun e ⟨w, h, a, he, q1, q2, q3, q4⟩ => by simp at q1 q3; exact ⟨w, h, a, he, by omega, by omega, by omega, q4⟩) ⟨[], 0, n + 1, rfl, by simp, by omega, by omega, by simp⟩
  obtain ⟨e', F1, w, h, a, rfl, g1, g2, g3, g4⟩ := F
  have rh := rng_nat (n := h) (by omega)
  have L : ∀ {k : Nat}, k ≤ 3 → k ≤ lim := fun h => Nat.le_trans h (by decide)
  have F' := for_any (G := G) (io := [0]) (tg := .nm 5) (b := b0_law_word) (it := (.rng (.cons (.plc 4) .nil))) (env := [some (stD nums a), some (sgnD [A, B, C]), none, some (.lst true (w.map sg)), some (.int h), none, none]) (e1 := [some (stD nums a), some (sgnD [A, B, C]), none, some (.lst true (w.map sg)), some (.int h), none, none]) (l := (List.range h).map fun (k : Nat) => D.int k)
    (fun j e => ∃ (v : List Sg) (b : Int), e = [some (stD nums b), some (sgnD [A, B, C]), none, some (.lst true (v.map sg)), some (.int h), none, none] ∧ v.length = w.length + j ∧ a ≤ b ∧ b ≤ a + j ∧ ∀ s ∈ v, s ∈ allSg A B C)
    (fun e => ∃ (v : List Sg) (b : Int), e = [some (stD nums b), some (sgnD [A, B, C]), none, some (.lst true (v.map sg)), some (.int h), none, none] ∧ v.length = w.length + h ∧ a ≤ b ∧ b ≤ a + h ∧ ∀ s ∈ v, s ∈ allSg A B C)
    (by simp [rh]) (fun j x e hx ⟨v, b, he, q1, q2, q3, q4⟩ => by
      subst he
      obtain ⟨q, e⟩ := List.getElem?_eq_some_iff.mp hx
      simp at q e
      subst e
      have dC := fun env hx => dr (nums := nums) (n := b) (m := C.length) (env := env) (i := 0) hx hs (by omega) (by omega) (by omega)
      have bC := drawn_lt (nums := nums) (n := b + 1) (many := C.length) (by omega)
      obtain ⟨xc, ec, mc⟩ := atI_draw bC.1 bC.2
      have lv : v.length < lim := Nat.lt_of_le_of_lt (show v.length ≤ 100 by omega) (by decide)
      refine ⟨.nx, [some (stD nums (b + 1)), some (sgnD [A, B, C]), none, some (.lst true ((v ++ [((">", xc) : Sg)]).map sg)), some (.int h), none, none], by simp [b0_law_word, t2, dC, ec, L sC, lv, sg], .inl ⟨rfl, _, _, rfl, by simp; omega, by omega, by omega, fun s hs => ?_⟩⟩
      rcases List.mem_append.mp hs with hs | hs
      · exact q4 s hs
      · rw [List.mem_singleton] at hs; subst hs; exact mC mc)
    (fun e h => by simpa using h) ⟨w, a, rfl, rfl, by omega, by omega, g4⟩
  obtain ⟨e', F2, v, b, rfl, u1, u2, u3, u4⟩ := F'
  have e3 : evS G [0] f3_law_word [some (stD nums n), some (sgnD [A, B, C]), some (.int 12), some (.lst true []), some (.int 0), none, none] = _ := F1
  have e1 : evS G [0] f1_law_word [some (stD nums a), some (sgnD [A, B, C]), none, some (.lst true (w.map sg)), some (.int h), none, none] = _ := F2
  refine ⟨v, b, u4, by omega, by omega, by omega, ?_⟩
  simp [runDef, b_law_word, e3, e1]
theorem q_law_any_word (hA : 0 < A.length) (sA : A.length ≤ 3) (sB : B.length ≤ 3) (sC : C.length ≤ 3) {n : Int} (h0 : 0 ≤ n) (hs : stOk nums (n + 100) = true) : ∃ (w : List Sg) (n' : Int), (∀ s ∈ w, s ∈ allSg A B C) ∧ w.length ≤ 24 ∧ n ≤ n' ∧ n' ≤ n + 60 ∧ runDef G [0] b_law_any_word 5 3 [stD nums n, sgnD [A, B, C], .int 12] = .ret (wd w) [stD nums n'] := by
  have d1 := fun env hx => dr (nums := nums) (n := n) (m := 13) (env := env) (i := 0) hx hs (by omega) (by omega) (by omega)
  have b1 := drawn_lt (nums := nums) (n := n + 1) (many := 13) (by omega)
  obtain ⟨m, hm⟩ := Int.eq_ofNat_of_zero_le b1.1
  have rg := rng_nat (n := m) (by omega)
  have c604 : ∀ env : DD.Env, callTo G 604 [sgnD [A, B, C]] env = .ok (.lst true ((allSg A B C).map sg)) env := fun env => call_ret fx_law_all_signs rfl rfl (q_law_all_signs (by omega) (by omega) (by omega))
  have al : (allSg A B C).length = A.length + (B.length + C.length) := by simp [allSg, ofK]
  obtain ⟨al0, hal⟩ : ∃ l, l = allSg A B C := ⟨_, rfl⟩
  rw [← hal] at c604 al
  have ll : al0.length ≤ lim := Nat.le_trans (show al0.length ≤ 9 by omega) (by decide)
  have ne : ¬ ((al0.length : Int) = 0) := by omega
  have ne' : ¬ (al0 = []) := fun e => by rw [e] at ne; simp at ne
  obtain ⟨bs, n', q1, q2, q3, q4, q5⟩ := lc_draw (G := G) (io := [0]) (elt := (.ix (.plc 3) (.call 602 (.cons (.plc 0) (.cons (.blt .len (.cons (.plc 3) .nil)) .nil))))) (tg := .nm 4) (it := (.rng (.cons (.call 602 (.cons (.plc 0) (.cons (.bin .add (.plc 2) (.cst (.int 1))) .nil))) .nil))) (own := [4]) (l := List.range m) (g := fun k : Nat => .int k) (env := [some (stD nums n), some (sgnD [A, B, C]), some (.int 12), some (.lst false (al0.map sg)), none]) (e1 := [some (stD nums (n + 1)), some (sgnD [A, B, C]), some (.int 12), some (.lst false (al0.map sg)), none])
    (fun n => [some (stD nums n), some (sgnD [A, B, C]), some (.int 12), some (.lst false (al0.map sg)), none]) (fun n => [some (stD nums n), some (sgnD [A, B, C]), some (.int 12), some (.lst false (al0.map sg)), none]) sg (fun p : Sg => p ∈ al0) (n0 := n + 1) (c := 1) (by omega) (by simp [d1, hm, rg]) (by rw [List.length_range]; exact Nat.le_trans (show m ≤ 12 by omega) (by decide)) rfl
    (fun b hb1 hb2 a _ => by
      rw [List.length_range] at hb2
      have dA := fun env hx => dr (nums := nums) (n := b) (m := al0.length) (env := env) (i := 0) hx hs (by omega) (by omega) (by omega)
      have bA := drawn_lt (nums := nums) (n := b + 1) (many := al0.length) (by omega)
      obtain ⟨x, ex, mx⟩ := atI_draw bA.1 bA.2
      exact ⟨x, b + 1, by omega, by omega, mx, rfl, by simp [dA, ex, ll]⟩) (fun _ => rfl)
  rw [List.length_range] at q1 q4
  have e0 : (ev G [0] c0_law_any_word).v [some (stD nums n), some (sgnD [A, B, C]), some (.int 12), some (.lst false (al0.map sg)), none] = _ := q5
  refine ⟨bs, n', fun s hs => hal ▸ q2 s hs, by omega, by omega, by omega, ?_⟩
  simp [runDef, b_law_any_word, c604, e0, ll, ne, ne']
end
end NW

set_option Elab.async false
set_option linter.all false
set_option maxRecDepth 100000
set_option maxHeartbeats 1000000
namespace NW
open PySem DD
/-! ### rows in order -/
def ltS (x y : Str) : Prop := x.cps.toList < y.cps.toList
theorem ltS_trans {x y z : Str} (h : ltS x y) (g : ltS y z) : ltS x z := List.lt_trans h g
theorem str_ext {x y : Str} (h : x.cps.toList = y.cps.toList) : x = y := by
  obtain ⟨a⟩ := x
  obtain ⟨b⟩ := y
  simp only at h
  rw [Array.toList_inj.mp h]
theorem ltS_tri {x y : Str} (h : ¬ ltS x y) (g : x ≠ y) : ltS y x := by
  rcases List.le_iff_lt_or_eq.mp (List.not_lt.mp h) with h | h
  · exact h
  · exact (g (str_ext h.symm)).elim
theorem mem_insS (x z : Str) : ∀ l : List Str, z ∈ insS x l → z = x ∨ z ∈ l
  | [], h => by simp [insS] at h; exact .inl h
  | y :: l, h => by
    unfold insS at h
    split at h
    · simpa using h
    · split at h
      · exact .inr h
      · rcases List.mem_cons.mp h with rfl | h
        · exact .inr (List.mem_cons_self ..)
        · exact (mem_insS x z l h).imp id (List.mem_cons_of_mem _)
theorem insS_asc {x : Str} : ∀ {l : List Str}, l.Pairwise ltS → (insS x l).Pairwise ltS
  | [], _ => by simp [insS]
  | y :: l, h => by
    have h' := List.pairwise_cons.mp h
    unfold insS
    split
    · rename_i c
      refine List.pairwise_cons.mpr ⟨fun z hz => ?_, h⟩
      rcases List.mem_cons.mp hz with rfl | hz
      · exact c
      · exact ltS_trans c (h'.1 z hz)
    · split
      · exact h
      · rename_i c1 c2
        refine List.pairwise_cons.mpr ⟨fun z hz => ?_, insS_asc h'.2⟩
        rcases mem_insS x z l hz with rfl | hz
        · exact ltS_tri c1 c2
        · exact h'.1 z hz
theorem sortS_asc : ∀ l : List Str, (sortS l).Pairwise ltS
  | [] => List.Pairwise.nil
  | x :: l => insS_asc (sortS_asc l)
theorem rises_pw {l : List Str} (h : l.Pairwise ltS) : rises l = true := by
  unfold rises
  rw [List.all_eq_true]
  intro p hp
  induction l with
  | nil => simp at hp
  | cons x l ih =>
    cases l with
    | nil => simp at hp
    | cons y l =>
      rw [List.pairwise_cons] at h
      simp only [List.tail_cons, List.zip_cons_cons, List.mem_cons] at hp
      rcases hp with rfl | hp
      · exact decide_eq_true (h.1 y (List.mem_cons_self ..))
      · exact ih h.2 (by simpa using hp)
theorem sortS_rises : ∀ {l : List Str}, rises l = true → sortS l = l
  | [], _ => rfl
  | [x], _ => rfl
  | x :: y :: l, h => by
    have h' : strLt x y = true ∧ rises (y :: l) = true := by
      unfold rises at h ⊢
      simpa using h
    show insS x (sortS (y :: l)) = _
    rw [sortS_rises h'.2, insS, if_pos (of_decide_eq_true h'.1)]
theorem sortS_iff (l : List Str) : (sortS l = l) = (rises l = true) := propext ⟨fun h => rises_pw (h ▸ sortS_asc l), sortS_rises⟩
theorem mem_insI (x z : Int) : ∀ l : List Int, z ∈ insI x l → z = x ∨ z ∈ l
  | [], h => by simp [insI] at h; exact .inl h
  | y :: l, h => by
    unfold insI at h
    split at h
    · simpa using h
    · split at h
      · exact .inr h
      · rcases List.mem_cons.mp h with rfl | h
        · exact .inr (List.mem_cons_self ..)
        · exact (mem_insI x z l h).imp id (List.mem_cons_of_mem _)
theorem insI_asc {x : Int} : ∀ {l : List Int}, l.Pairwise (· < ·) → (insI x l).Pairwise (· < ·)
  | [], _ => by simp [insI]
  | y :: l, h => by
    have h' := List.pairwise_cons.mp h
    unfold insI
    split
    · rename_i c
      refine List.pairwise_cons.mpr ⟨fun z hz => ?_, h⟩
      rcases List.mem_cons.mp hz with rfl | hz
      · exact c
      · exact Int.lt_trans c (h'.1 z hz)
    · split
      · exact h
      · rename_i c1 c2
        refine List.pairwise_cons.mpr ⟨fun z hz => ?_, insI_asc h'.2⟩
        rcases mem_insI x z l hz with rfl | hz
        · omega
        · exact h'.1 z hz
theorem sortI_asc : ∀ l : List Int, (sortI l).Pairwise (· < ·)
  | [] => List.Pairwise.nil
  | x :: l => insI_asc (sortI_asc l)
theorem sortI_rises : ∀ {l : List Int}, risesI l = true → sortI l = l
  | [], _ => rfl
  | [x], _ => rfl
  | x :: y :: l, h => by
    have h' : x < y ∧ risesI (y :: l) = true := by
      unfold risesI at h ⊢
      simpa using h
    show insI x (sortI (y :: l)) = _
    rw [sortI_rises h'.2, insI, if_pos h'.1]
theorem sortI_iff (l : List Int) : (sortI l = l) = (risesI l = true) := propext ⟨fun h => risesI_of (h ▸ sortI_asc l), sortI_rises⟩
theorem sset_sts {l : List Str} (h : l.length < 64) : op1? .sset (sts l) = some (.lst true ((sortS l).map .str)) := by
  show (ksrt (l.map .str)).map (D.lst true ·) = _
  unfold ksrt
  have e : asS (l.map D.str) = some l := by
    clear h
    induction l with
    | nil => rfl
    | cons x l ih => rw [List.map_cons]; show (asS (l.map .str)).map (x :: ·) = _; rw [ih]; rfl
  rw [e]
  show (if l.length < 64 then _ else _ : Option (List D)).map _ = _
  rw [if_pos h]; rfl
theorem sset_its {l : List Int} (h : l.length < 64) : op1? .sset (its l) = some (.lst true ((sortI l).map .int)) := by
  show (ksrt (l.map .int)).map (D.lst true ·) = _
  unfold ksrt
  cases l with
  | nil => rfl
  | cons x l =>
    have e : asS ((x :: l).map D.int) = none := rfl
    rw [e, asI_ints]
    show (if (x :: l).length < 64 then _ else _ : Option (List D)).map _ = _
    rw [if_pos h]; rfl
/-! ### the law's own check of signs -/
theorem q_law_is_label {t : Str} (hl : t.length ≤ 1000) : runDef G [] b_law_is_label 2 1 [.str t] = .ret (.bl (isLab t)) [] := by
  have hl2 : t.length ≤ lim := Nat.le_trans hl (by decide)
  have comp : (ev G [] c0_law_is_label).v [some (.str t), none] = .ok (.lst true ((t.cps.toList.map fun c => decide (c ∈ laterC)).map .bl)) [some (.str t), none] := by
    rw [List.map_map]
    refine lc_mapS (g := fun c => D.str ⟨#[c]⟩) (fun c => .bl (decide (c ∈ laterC))) (by simp; rfl) (by rw [Array.length_toList]; exact hl2) (fun c _ => by rfl) (fun _ _ => rfl) rfl
  obtain ⟨bs, hbs⟩ : ∃ bs, bs = t.cps.toList.map fun c => decide (c ∈ laterC) := ⟨_, rfl⟩
  rw [← hbs] at comp
  by_cases c1 : 1 ≤ t.length
  · have c1' : ¬ (t.length : Int) < 1 := by omega
    obtain ⟨c0, r0, h0⟩ : ∃ c r, t.cps.toList = c :: r := by
      cases e : t.cps.toList with
      | nil =>
        have : t.length = 0 := by show t.cps.size = 0; rw [← Array.length_toList, e]; rfl
        omega
      | cons c r => exact ⟨c, r, rfl⟩
    have i0 : isin (.str ⟨#[c0]⟩) (.str "abcdefghijklmnopqrstuvwxyz") = some (decide (c0 ∈ firstC)) := rfl
    by_cases c2 : t.length ≤ 10
    · have c2' : ¬ (10 : Int) < t.length := by omega
      by_cases c3 : c0 ∈ firstC <;> simp [runDef, b_law_is_label, hl2, c1, c1', c2, c2', h0, ↓i0, c3, comp, isLab, hbs, Function.comp_def]
    · have c2' : (10 : Int) < t.length := by omega
      simp [runDef, b_law_is_label, hl2, c1, c1', c2, c2', isLab]
  · have c1' : (t.length : Int) < 1 := by omega
    simp [runDef, b_law_is_label, hl2, c1, c1', isLab]
theorem c_law_is_label {t : Str} (hl : t.length ≤ 1000) (env : DD.Env) : callTo G 609 [.str t] env = .ok (.bl (isLab t)) env := call_ret fx_law_is_label rfl rfl (q_law_is_label hl)
end NW

set_option Elab.async false
set_option linter.all false
set_option maxRecDepth 100000
set_option maxHeartbeats 1000000
namespace NW
open PySem DD
/-! ### the law's own check of machines -/
theorem fold_max : ∀ (l : List Int) (a k : Int), (k < l.foldl (fun a b => if b > a then b else a) a) ↔ (k < a ∨ ∃ x ∈ l, k < x)
  | [], a, k => by simp
  | y :: l, a, k => by
    rw [List.foldl_cons, fold_max l]
    constructor
    · rintro (h | ⟨x, hx, h⟩)
      · split at h
        · exact .inr ⟨y, List.mem_cons_self .., h⟩
        · exact .inl h
      · exact .inr ⟨x, List.mem_cons_of_mem _ hx, h⟩
    · rintro (h | ⟨x, hx, h⟩)
      · left; split <;> omega
      · rcases List.mem_cons.mp hx with rfl | hx
        · left; split <;> omega
        · exact .inr ⟨x, hx, h⟩
theorem maxI_gt {l : List Int} (hl : l ≠ []) (k : Int) : ∃ m, maxI l = some m ∧ ((k < m) ↔ ∃ x ∈ l, k < x) := by
  cases l with
  | nil => exact (hl rfl).elim
  | cons a l => exact ⟨_, rfl, by rw [fold_max]; simp⟩
def errS : Option Nat → D
  | none => .non
  | some x => if x = 1 then .str "refused" else .str "large"
theorem due_labels {l : List Str} (hs : shortL l = true) (hl : l.length ≤ 3) (a : Option D) : evSs G [] b1_law_signs_due [a, some (sts l), none] = if okLs l then .ok .nx [a, none, none] else .ok (.rt (.str "refused")) [a, some (sts l), none] := by
  simp only [shortL, Bool.and_eq_true, decide_eq_true_eq, List.all_eq_true] at hs
  have comp : (ev G [] c0_law_signs_due).v [a, some (sts l), none] = .ok (.lst true ((l.map isLab).map .bl)) [a, some (sts l), none] := by
    rw [List.map_map]
    exact lc_mapS (g := .str) (fun t => .bl (isLab t)) (e1 := [a, some (sts l), none]) (by simp) (Nat.le_trans hs.1 (by decide)) (fun t ht => by simp [c_law_is_label (hs.2 t ht)]) (fun _ _ => rfl) rfl
  have al := all_id l isLab
  obtain ⟨bs, hbs⟩ : ∃ bs, bs = l.map isLab := ⟨_, rfl⟩
  rw [← hbs] at comp al
  have so := sortS_iff l
  have ss := sset_sts (l := l) (by omega)
  have ll : l.length ≤ lim := Nat.le_trans hl (by decide)
  unfold okLs
  rw [← al]
  by_cases k1 : rises l = true
  · have so' : l = sortS l := (so ▸ k1 : sortS l = l).symm
    rw [← so'] at ss
    cases k2 : bs.all id <;> simp [b1_law_signs_due, ss, k1, k2, comp, -List.all_eq_true]
  · have so' : ¬ (l = sortS l) := fun e => k1 (so ▸ e.symm)
    have k1' : rises l = false := by simpa using k1
    simp [b1_law_signs_due, ss, k1', so']
theorem q_law_signs_due {S : List (List Str)} (h0 : S ≠ []) (hs : shortS S = true) : runDef G [] b_law_signs_due 3 1 [sgnD S] = .ret (errS (sgnErr S)) [] := by
  simp only [shortS, Bool.and_eq_true, decide_eq_true_eq, List.all_eq_true] at hs
  have hl : S.length ≤ lim := Nat.le_trans hs.1 (by decide)
  have comp : (ev G [] c3_law_signs_due).v [some (sgnD S), none, none] = .ok (.lst true ((S.map fun l => (l.length : Int)).map .int)) [some (sgnD S), none, none] := by
    rw [List.map_map]
    exact lc_mapS (g := fun l => sts l) (fun l => .int (l.length : Int)) (e1 := [some (sgnD S), none, none]) (by simp) hl (fun l _ => by simp) (fun _ _ => rfl) rfl
  obtain ⟨m, hm, hm3⟩ := maxI_gt (l := S.map fun l => (l.length : Int)) (by simpa using h0) 3
  obtain ⟨ls, hls⟩ : ∃ ls, ls = S.map fun l => (l.length : Int) := ⟨_, rfl⟩
  rw [← hls] at comp hm
  have any3 : (3 < m) ↔ S.any (fun l => decide (3 < l.length)) = true := by
    rw [hm3, List.any_eq_true]
    constructor
    · rintro ⟨x, hx, h⟩
      obtain ⟨l, hl, rfl⟩ := List.mem_map.mp (show x ∈ S.map fun l => (l.length : Int) from hx)
      exact ⟨l, hl, by simp; omega⟩
    · rintro ⟨l, hl, h⟩
      exact ⟨_, List.mem_map.mpr ⟨l, hl, rfl⟩, by simp at h; omega⟩
  unfold sgnErr
  by_cases c : 3 < m
  · rw [if_pos (any3.mp c)]
    simp [runDef, b_law_signs_due, comp, hm, c, errS]
  · have nc := fun h => c (any3.mpr h)
    rw [if_neg nc]
    have le : ∀ l ∈ S, l.length ≤ 3 := fun l hl => by
      by_cases h : l.length ≤ 3
      · exact h
      · exact (nc (List.any_eq_true.mpr ⟨l, hl, by simp; omega⟩)).elim
    have L := for_chk (G := G) (io := []) (tg := .nm 1) (b := b1_law_signs_due) (it := .val (.var 0)) (env := [some (sgnD S), none, none]) (e0 := [some (sgnD S), none, none]) (g := fun l => sts l) (l := S) okLs (by simp) (fun l hl h => by
      have := due_labels (hs.2 l hl) (le l hl) (some (sgnD S))
      rw [if_pos h] at this
      rw [← this]; simp) (fun l hl h => by
      have := due_labels (hs.2 l hl) (le l hl) (some (sgnD S))
      rw [h, if_neg Bool.false_ne_true] at this
      have e : ((asgT G [] (.nm 1) (sts l) [some (sgnD S), none, none]).bind fun _ e => evSs G [] b1_law_signs_due e) = .ok (.rt (.str "refused")) [some (sgnD S), some (sts l), none] := by rw [← this]; simp
      rw [e]; exact trivial)
    cases h4 : S.all okLs with
    | true =>
      have e : evS G [] f2_law_signs_due [some (sgnD S), none, none] = _ := L.1 h4
      simp [runDef, b_law_signs_due, comp, hm, c, errS, e]
    | false =>
      obtain ⟨l, hl, hp, e⟩ := L.2 h4
      have := due_labels (hs.2 l hl) (le l hl) (some (sgnD S))
      rw [hp, if_neg Bool.false_ne_true] at this
      have e' : evS G [] f2_law_signs_due [some (sgnD S), none, none] = .ok (.rt (.str "refused")) [some (sgnD S), some (sts l), none] := by
        refine Eq.trans e ?_
        rw [← this]; simp
      simp [runDef, b_law_signs_due, comp, hm, c, errS, e']
theorem c_law_signs_due {S : List (List Str)} (h0 : S ≠ []) (hs : shortS S = true) (env : DD.Env) : callTo G 610 [sgnD S] env = .ok (errS (sgnErr S)) env := call_ret fx_law_signs_due rfl rfl (q_law_signs_due h0 hs)
end NW

set_option Elab.async false
set_option linter.all false
set_option maxRecDepth 100000
set_option maxHeartbeats 1000000
namespace NW
open PySem DD
def inN (n : Nat) (t : Int) : Bool := decide (0 ≤ t) && decide (t < n)
theorem inS_eq (n : Nat) : inS (stI n) = inN n := by
  funext t
  rw [Bool.eq_iff_iff, inS_iff]
  simp [inN]
def numsR (r : Row) : List Int := r.backs.foldl (fun a l => a ++ l) (r.calls.map (·.1) ++ r.stays)
theorem mem_numsR (l : List (List Int)) (t : Int) : ∀ a : List Int, t ∈ l.foldl (fun a l => a ++ l) a ↔ (t ∈ a ∨ ∃ x ∈ l, t ∈ x) := by
  induction l with
  | nil => intro a; simp
  | cons x l ih => intro a; rw [List.foldl_cons, ih]; simp [or_assoc]
theorem len_numsR (l : List (List Int)) (h : ∀ x ∈ l, x.length ≤ 1000) : ∀ a : List Int, (l.foldl (fun a l => a ++ l) a).length ≤ a.length + 1000 * l.length := by
  induction l with
  | nil => intro a; simp
  | cons x l ih =>
    intro a
    have h1 := h x (List.mem_cons_self ..)
    have := ih (fun x hx => h x (List.mem_cons_of_mem _ hx)) (a ++ x)
    rw [List.foldl_cons]
    simp at this ⊢
    omega
theorem rowOk_iff (A B C : List Str) (m : Int) (n : Nat) (r : Row) : rowOk A B C m (stI n) r = (decide (r.calls.length = A.length ∧ r.stays.length = B.length ∧ r.backs.length = C.length) && ((r.backs.all fun l => decide ((l.length : Int) = m)) && ((numsR r).all (inN n) && r.calls.all fun p => decide (0 ≤ p.2) && decide (p.2 < m)))) := by
  unfold rowOk
  rw [inS_eq, Bool.eq_iff_iff]
  simp only [Bool.and_eq_true, decide_eq_true_eq, List.all_eq_true, numsR, mem_numsR, List.mem_append, List.mem_map]
  constructor
  · rintro ⟨h1, h2, h3, h4, h5, h6⟩
    refine ⟨⟨h1, h2, h3⟩, fun l hl => (h6 l hl).1, ?_, fun p hp => (h4 p hp).2⟩
    rintro t ((⟨p, hp, rfl⟩ | ht) | ⟨x, hx, ht⟩)
    · exact (h4 p hp).1
    · exact h5 t ht
    · exact (h6 x hx).2 t ht
  · rintro ⟨⟨h1, h2, h3⟩, h4, h5, h6⟩
    exact ⟨h1, h2, h3, fun p hp => ⟨h5 _ (.inl (.inl ⟨p, hp, rfl⟩)), h6 p hp⟩, fun t ht => h5 t (.inl (.inr ht)), fun l hl => ⟨h4 l hl, fun t ht => h5 t (.inr ⟨l, hl, ht⟩)⟩⟩
theorem due_row {A B C : List Str} {m : Int} {n : Nat} {r : Row} (hs : rowSm r = true) (R : D) : (rowOk A B C m (stI n) r = true → evSs G [] b8_law_machine_due [none, none, some (.int n), some (sgnD [A, B, C]), some (.int m), some (R), none, some (.tup (r.calls.map prI)), some (its r.stays), some (.tup (r.backs.map fun l => its l)), none, none, none, none, none, none] = .ok .nx [none, none, some (.int n), some (sgnD [A, B, C]), some (.int m), some (R), none, none, none, none, none, none, none, none, none, none]) ∧ (rowOk A B C m (stI n) r = false → ∃ e, evSs G [] b8_law_machine_due [none, none, some (.int n), some (sgnD [A, B, C]), some (.int m), some (R), none, some (.tup (r.calls.map prI)), some (its r.stays), some (.tup (r.backs.map fun l => its l)), none, none, none, none, none, none] = .ok (.rt (.str "refused")) e) := by
  simp only [rowSm, Bool.and_eq_true, decide_eq_true_eq, List.all_eq_true] at hs
  obtain ⟨h1, h2, h3, h4⟩ := hs
  have L : ∀ {k : Nat}, k ≤ 10000 → k ≤ lim := fun h => Nat.le_trans h (by decide)
  obtain ⟨cs, ss, bks⟩ := r
  simp only at h1 h2 h3 h4
  have c7 : (ev G [] c7_law_machine_due).v [none, none, some (.int n), some (sgnD [A, B, C]), some (.int m), some (R), none, some (.tup (cs.map prI)), some (its ss), some (.tup (bks.map fun l => its l)), none, none, none, none, none, none] = .ok (.lst true [.int A.length, .int B.length, .int C.length]) [none, none, some (.int n), some (sgnD [A, B, C]), some (.int m), some (R), none, some (.tup (cs.map prI)), some (its ss), some (.tup (bks.map fun l => its l)), none, none, none, none, none, none] :=
    lc_mapS (l := [A, B, C]) (g := fun l => sts l) (fun l => .int (l.length : Int)) (e1 := [none, none, some (.int n), some (sgnD [A, B, C]), some (.int m), some (R), none, some (.tup (cs.map prI)), some (its ss), some (.tup (bks.map fun l => its l)), none, none, none, none, none, none]) (by simp) (by simp) (fun l _ => by simp) (fun _ _ => rfl) rfl
  have c6 : (ev G [] c6_law_machine_due).v [none, none, some (.int n), some (sgnD [A, B, C]), some (.int m), some (R), none, some (.tup (cs.map prI)), some (its ss), some (.tup (bks.map fun l => its l)), none, none, none, none, none, none] = .ok (.lst true ((bks.map fun l => decide ((l.length : Int) = m)).map .bl)) [none, none, some (.int n), some (sgnD [A, B, C]), some (.int m), some (R), none, some (.tup (cs.map prI)), some (its ss), some (.tup (bks.map fun l => its l)), none, none, none, none, none, none] := by
    rw [List.map_map]
    exact lc_mapS (l := bks) (g := fun l => its l) (fun l => .bl (decide ((l.length : Int) = m))) (e1 := [none, none, some (.int n), some (sgnD [A, B, C]), some (.int m), some (R), none, some (.tup (cs.map prI)), some (its ss), some (.tup (bks.map fun l => its l)), none, none, none, none, none, none]) (by simp) (L (by omega)) (fun l _ => by simp) (fun _ _ => rfl) rfl
  have c5 : (ev G [] c5_law_machine_due).v [none, none, some (.int n), some (sgnD [A, B, C]), some (.int m), some (R), none, some (.tup (cs.map prI)), some (its ss), some (.tup (bks.map fun l => its l)), none, none, none, none, none, none] = .ok (.lst true ((cs.map (·.1)).map .int)) [none, none, some (.int n), some (sgnD [A, B, C]), some (.int m), some (R), none, some (.tup (cs.map prI)), some (its ss), some (.tup (bks.map fun l => its l)), none, none, none, none, none, none] := by
    rw [List.map_map]
    exact lc_mapS (l := cs) (g := prI) (fun p => .int p.1) (e1 := [none, none, some (.int n), some (sgnD [A, B, C]), some (.int m), some (R), none, some (.tup (cs.map prI)), some (its ss), some (.tup (bks.map fun l => its l)), none, none, none, none, none, none]) (by simp) (L (by omega)) (fun l _ => by simp [prI]) (fun _ _ => rfl) rfl
  obtain ⟨Q, hQ⟩ : ∃ Q, Q = numsR ⟨cs, ss, bks⟩ := ⟨_, rfl⟩
  have lQ : Q.length ≤ lim := by
    have := len_numsR bks h4 (cs.map (·.1) ++ ss)
    rw [hQ]
    refine Nat.le_trans this (Nat.le_trans (m := 2000000) ?_ (by decide))
    simp; omega
  have F := for_S (G := G) (io := []) (tg := .nm 11) (b := b3_law_machine_due) (it := .val (.var 9)) (l := bks) (g := fun l => its l) (env := [none, none, some (.int n), some (sgnD [A, B, C]), some (.int m), some (R), none, some (.tup (cs.map prI)), none, some (.tup (bks.map fun l => its l)), some (listI (cs.map (·.1) ++ ss)), none, none, none, none, none]) (s := cs.map (·.1) ++ ss) (fun a => [none, none, some (.int n), some (sgnD [A, B, C]), some (.int m), some (R), none, some (.tup (cs.map prI)), none, some (.tup (bks.map fun l => its l)), some (listI a), none, none, none, none, none]) (fun j a => j ≤ bks.length ∧ a.length ≤ 2000 + 1000 * j) (fun a l => a ++ l)
    (by simp) (fun j a l hl ⟨q0, q1⟩ => by
      have q2 := h4 l (List.mem_of_getElem? hl)
      have q3 : a.length + l.length ≤ lim := Nat.le_trans (m := 2000000) (by omega) (by decide)
      have q4 : a.length ≤ lim := Nat.le_trans (m := 2000000) (by omega) (by decide)
      have q5 := (List.getElem?_eq_some_iff.mp hl).1
      exact ⟨by simp [b3_law_machine_due, q3, q4, L (show l.length ≤ 10000 by omega)], by omega, by simp; omega⟩) ⟨by omega, by simp; omega⟩
  have e4 : evS G [] f4_law_machine_due [none, none, some (.int n), some (sgnD [A, B, C]), some (.int m), some (R), none, some (.tup (cs.map prI)), none, some (.tup (bks.map fun l => its l)), some (.lst true ((cs.map (·.1)).map .int ++ ss.map .int)), none, none, none, none, none] = .ok .nx [none, none, some (.int n), some (sgnD [A, B, C]), some (.int m), some (R), none, some (.tup (cs.map prI)), none, some (.tup (bks.map fun l => its l)), some (listI Q), none, none, none, none, none] := by
    rw [hQ, ← List.map_append]; exact F.1
  have c2 : (ev G [] c2_law_machine_due).v [none, none, some (.int n), some (sgnD [A, B, C]), some (.int m), some (R), none, some (.tup (cs.map prI)), none, some (.tup (bks.map fun l => its l)), some (listI Q), none, none, none, none, none] = .ok (.lst true ((Q.map (inN n)).map .bl)) [none, none, some (.int n), some (sgnD [A, B, C]), some (.int m), some (R), none, some (.tup (cs.map prI)), none, some (.tup (bks.map fun l => its l)), some (lstF Q), none, none, none, none, none] := by
    rw [List.map_map]
    refine lc_mapS (l := Q) (g := .int) (fun t => .bl (inN n t)) (e1 := [none, none, some (.int n), some (sgnD [A, B, C]), some (.int m), some (R), none, some (.tup (cs.map prI)), none, some (.tup (bks.map fun l => its l)), some (lstF Q), none, none, none, none, none]) (by simp) lQ (fun t _ => ?_) (fun _ _ => rfl) rfl
    by_cases k1 : 0 ≤ t <;> by_cases k2 : t < n <;> simp [k1, k2, inN]
  have c1 : (ev G [] c1_law_machine_due).v [none, none, some (.int n), some (sgnD [A, B, C]), some (.int m), some (R), none, some (.tup (cs.map prI)), none, some (.tup (bks.map fun l => its l)), some (lstF Q), none, none, none, none, none] = .ok (.lst true ((cs.map fun p => decide (0 ≤ p.2) && decide (p.2 < m)).map .bl)) [none, none, some (.int n), some (sgnD [A, B, C]), some (.int m), some (R), none, some (.tup (cs.map prI)), none, some (.tup (bks.map fun l => its l)), some (lstF Q), none, none, none, none, none] := by
    rw [List.map_map]
    refine lc_mapS (l := cs) (g := prI) (fun p => .bl (decide (0 ≤ p.2) && decide (p.2 < m))) (e1 := [none, none, some (.int n), some (sgnD [A, B, C]), some (.int m), some (R), none, some (.tup (cs.map prI)), none, some (.tup (bks.map fun l => its l)), some (lstF Q), none, none, none, none, none]) (by simp) (L (by omega)) (fun p _ => ?_) (fun _ _ => rfl) rfl
    by_cases k1 : 0 ≤ p.2 <;> by_cases k2 : p.2 < m <;> simp [k1, k2, prI]
  rw [List.map_map] at e4
  rw [rowOk_iff, ← hQ]
  simp only
  rw [← all_id bks, ← all_id Q, ← all_id cs]
  obtain ⟨u1, hu1⟩ : ∃ u, u = bks.map fun l => decide ((l.length : Int) = m) := ⟨_, rfl⟩
  obtain ⟨u2, hu2⟩ : ∃ u, u = Q.map (inN n) := ⟨_, rfl⟩
  obtain ⟨u3, hu3⟩ : ∃ u, u = cs.map fun p => decide (0 ≤ p.2) && decide (p.2 < m) := ⟨_, rfl⟩
  rw [← hu1] at c6 ⊢
  rw [← hu2] at c2 ⊢
  rw [← hu3] at c1 ⊢
  have l5 : cs.length + ss.length ≤ lim := L (by omega)
  by_cases k0 : cs.length = A.length ∧ ss.length = B.length ∧ bks.length = C.length
  · obtain ⟨k01, k02, k03⟩ := k0
    have l6 : A.length + B.length ≤ lim := L (by omega)
    cases k1 : u1.all id with
    | false => exact ⟨fun h => by simp [-List.all_eq_true] at h, fun _ => ⟨_, by simp [b8_law_machine_due, c7, c6, k01, k02, k03, k1, -List.all_eq_true]; rfl⟩⟩
    | true =>
      cases k2 : u2.all id with
      | false => exact ⟨fun h => by simp [-List.all_eq_true] at h, fun _ => ⟨_, by simp [b8_law_machine_due, c7, c6, c5, k01, k02, k03, k1, l6, e4, c2, k2, -List.all_eq_true]; rfl⟩⟩
      | true =>
        cases k3 : u3.all id with
        | false => exact ⟨fun h => by simp [-List.all_eq_true] at h, fun _ => ⟨_, by simp [b8_law_machine_due, c7, c6, c5, k01, k02, k03, k1, l6, e4, c2, k2, c1, k3, -List.all_eq_true]; rfl⟩⟩
        | true => exact ⟨fun _ => by simp [b8_law_machine_due, c7, c6, c5, k01, k02, k03, k1, l6, e4, c2, k2, c1, k3, -List.all_eq_true], fun h => by simp [k01, k02, k03, -List.all_eq_true] at h⟩
  · refine ⟨fun h => by simp [k0, -List.all_eq_true] at h, fun _ => ⟨[none, none, some (.int n), some (sgnD [A, B, C]), some (.int m), some (R), none, some (.tup (cs.map prI)), some (its ss), some (.tup (bks.map fun l => its l)), none, none, none, none, none, none], ?_⟩⟩
    by_cases k01 : cs.length = A.length
    · by_cases k02 : ss.length = B.length
      · have k03 : ¬ (bks.length = C.length) := fun h => k0 ⟨k01, k02, h⟩
        have k03' : ¬ ((bks.length : Int) = C.length) := by omega
        simp [b8_law_machine_due, c7, k01, k02, k03, k03']
      · have k02' : ¬ ((ss.length : Int) = B.length) := by omega
        simp [b8_law_machine_due, c7, k01, k02, k02']
    · have k01' : ¬ ((cs.length : Int) = A.length) := by omega
      simp [b8_law_machine_due, c7, k01, k01']
end NW

set_option Elab.async false
set_option linter.all false
set_option maxRecDepth 100000
set_option maxHeartbeats 1000000
namespace NW
open PySem DD
theorem q_law_machine_due {M : Mach} (hs : machSm M = true) (hg : M.goods.length < 64) : runDef G [] b_law_machine_due 16 1 [machD M] = .ret (errS (machErr M)) [] := by
  obtain ⟨A, B, C, m, rows, goods⟩ := M
  simp only [machSm, Bool.and_eq_true, decide_eq_true_eq] at hs
  obtain ⟨h1, h2, h3, h4⟩ := hs
  simp only at hg
  have L : ∀ {k : Nat}, k ≤ 1000 → k ≤ lim := fun h => Nat.le_trans h (by decide)
  have md : machD ⟨A, B, C, m, rows, goods⟩ = .tup [sgnD [A, B, C], .int m, .tup (rows.map rowD), its goods] := rfl
  have c10 : (ev G [] c10_law_machine_due).v [some (.tup [sgnD [A, B, C], .int m, .tup (rows.map rowD), its goods]), some (.non), some (.int rows.length), some (sgnD [A, B, C]), some (.int m), some (.tup (rows.map rowD)), some (its goods), none, none, none, none, none, none, none, none, none] = .ok (.lst true ((goods.map (inN rows.length)).map .bl)) [some (.tup [sgnD [A, B, C], .int m, .tup (rows.map rowD), its goods]), some (.non), some (.int rows.length), some (sgnD [A, B, C]), some (.int m), some (.tup (rows.map rowD)), some (its goods), none, none, none, none, none, none, none, none, none] := by
    rw [List.map_map]
    refine lc_mapS (l := goods) (g := .int) (fun t => .bl (inN rows.length t)) (e1 := [some (.tup [sgnD [A, B, C], .int m, .tup (rows.map rowD), its goods]), some (.non), some (.int rows.length), some (sgnD [A, B, C]), some (.int m), some (.tup (rows.map rowD)), some (its goods), none, none, none, none, none, none, none, none, none]) (by simp) (L h3) (fun t _ => ?_) (fun _ _ => rfl) rfl
    by_cases k1 : 0 ≤ t <;> by_cases k2 : t < rows.length <;> simp [k1, k2, inN]
  have F := for_chk (G := G) (io := []) (tg := (.tup (.cons (.nm 7) (.cons (.nm 8) (.cons (.nm 9) .nil))))) (b := b8_law_machine_due) (it := .val (.var 5)) (l := rows) (g := rowD) (env := [none, none, some (.int rows.length), some (sgnD [A, B, C]), some (.int m), some (.tup (rows.map rowD)), none, none, none, none, none, none, none, none, none, none]) (e0 := [none, none, some (.int rows.length), some (sgnD [A, B, C]), some (.int m), some (.tup (rows.map rowD)), none, none, none, none, none, none, none, none, none, none]) (rowOk A B C m (stI rows.length)) (by simp) (fun r hr h => by
    have c := (due_row (A := A) (B := B) (C := C) (m := m) (n := rows.length) (r := r) (List.all_eq_true.mp h4 r hr) (.tup (rows.map rowD))).1 h
    rw [show rowD r = .tup [.tup (r.calls.map prI), its r.stays, .tup (r.backs.map fun l => its l)] from rfl]
    simp [c]) (fun r hr h => by
    obtain ⟨e, c⟩ := (due_row (A := A) (B := B) (C := C) (m := m) (n := rows.length) (r := r) (List.all_eq_true.mp h4 r hr) (.tup (rows.map rowD))).2 h
    rw [show rowD r = .tup [.tup (r.calls.map prI), its r.stays, .tup (r.backs.map fun l => its l)] from rfl]
    simp [c, stops])
  have c610 := fun env => c_law_signs_due (S := [A, B, C]) (by simp) h1 env
  have so := sortI_iff goods
  have ss := sset_its hg
  have ag := all_id goods (inN rows.length)
  obtain ⟨bg, hbg⟩ : ∃ b, b = goods.map (inN rows.length) := ⟨_, rfl⟩
  rw [← hbg] at c10 ag
  unfold machErr
  simp only
  rw [inS_eq rows.length, ← ag, md]
  cases e0 : sgnErr [A, B, C] with
  | some x =>
    rw [e0] at c610
    by_cases kx : x = 1 <;> simp [errS, kx] at c610 <;> simp [runDef, b_law_machine_due, s16_law_machine_due, s15_law_machine_due, s14_law_machine_due, c610, errS, kx]
  | none =>
    rw [e0] at c610
    simp only [errS] at c610
    by_cases k1 : 8 < rows.length
    · have k1' : (8 : Int) < rows.length := by omega
      simp [runDef, b_law_machine_due, s16_law_machine_due, s15_law_machine_due, s14_law_machine_due, s13_law_machine_due, s12_law_machine_due, c610, errS, k1, k1', L h2]
    · have k1' : ¬ (8 : Int) < rows.length := by omega
      by_cases k2 : 8 < m
      · simp [runDef, b_law_machine_due, s16_law_machine_due, s15_law_machine_due, s14_law_machine_due, s13_law_machine_due, s12_law_machine_due, c610, errS, k1, k1', k2, L h2]
      · by_cases k3 : rows.length = 0
        · simp [runDef, b_law_machine_due, s16_law_machine_due, s15_law_machine_due, s14_law_machine_due, s13_law_machine_due, s12_law_machine_due, s11_law_machine_due, c610, errS, k1, k1', k2, k3, L h2]
        · have k3' : ¬ (rows = []) := fun e => k3 (by rw [e]; rfl)
          by_cases k4 : m < 1
          · simp [runDef, b_law_machine_due, s16_law_machine_due, s15_law_machine_due, s14_law_machine_due, s13_law_machine_due, s12_law_machine_due, s11_law_machine_due, c610, errS, k1, k1', k2, k3, k3', k4, L h2]
          · by_cases k6 : risesI goods = true
            · have so' : sortI goods = goods := so ▸ k6
              rw [so'] at ss
              cases k5 : bg.all id with
              | false => simp [runDef, b_law_machine_due, s16_law_machine_due, s15_law_machine_due, s14_law_machine_due, s13_law_machine_due, s12_law_machine_due, s11_law_machine_due, c610, errS, k1, k1', k2, k3, k3', k4, L h2, L h3, ss, c10, k5, k6, -List.all_eq_true]
              | true =>
                cases k7 : rows.all (rowOk A B C m (stI rows.length)) with
                | true =>
                  have e : evS G [] f9_law_machine_due _ = _ := F.1 k7
                  simp [runDef, b_law_machine_due, s16_law_machine_due, s15_law_machine_due, s14_law_machine_due, s13_law_machine_due, s12_law_machine_due, s11_law_machine_due, s0_law_machine_due, c610, errS, k1, k1', k2, k3, k3', k4, L h2, L h3, ss, c10, k5, k6, e, -List.all_eq_true]
                | false =>
                  obtain ⟨r, hr, hp, e⟩ := F.2 k7
                  obtain ⟨e2, c⟩ := (due_row (A := A) (B := B) (C := C) (m := m) (n := rows.length) (r := r) (List.all_eq_true.mp h4 r hr) (.tup (rows.map rowD))).2 hp
                  have e' : evS G [] f9_law_machine_due [none, none, some (.int rows.length), some (sgnD [A, B, C]), some (.int m), some (.tup (rows.map rowD)), none, none, none, none, none, none, none, none, none, none] = .ok (.rt (.str "refused")) e2 := by
                    refine Eq.trans e ?_
                    rw [show rowD r = .tup [.tup (r.calls.map prI), its r.stays, .tup (r.backs.map fun l => its l)] from rfl]
                    simp [c]
                  simp [runDef, b_law_machine_due, s16_law_machine_due, s15_law_machine_due, s14_law_machine_due, s13_law_machine_due, s12_law_machine_due, s11_law_machine_due, s0_law_machine_due, c610, errS, k1, k1', k2, k3, k3', k4, L h2, L h3, ss, c10, k5, k6, e', -List.all_eq_true]
            · have so' : ¬ (goods = sortI goods) := fun e => k6 (so ▸ e.symm)
              have k6' : risesI goods = false := by simpa using k6
              cases k5 : bg.all id <;> simp [runDef, b_law_machine_due, s16_law_machine_due, s15_law_machine_due, s14_law_machine_due, s13_law_machine_due, s12_law_machine_due, s11_law_machine_due, c610, errS, k1, k1', k2, k3, k3', k4, L h2, L h3, ss, so', k5, k6', -List.all_eq_true]
theorem c_law_machine_due {M : Mach} (hs : machSm M = true) (hg : M.goods.length < 64) (env : DD.Env) : callTo G 621 [machD M] env = .ok (errS (machErr M)) env := call_ret fx_law_machine_due rfl rfl (q_law_machine_due hs hg)
end NW

set_option Elab.async false
set_option linter.all false
set_option maxRecDepth 100000
set_option maxHeartbeats 1000000
namespace NW
open PySem DD
/-! ### bent papers, odd machines -/
theorem cut_fromS {α : Type} (xs : List α) (a : Nat) : cutL xs (some ((a : Int) + 1)) none = xs.drop (a + 1) := cut_from xs (a + 1)
theorem cut_1 {α : Type} (xs : List α) : cutL xs (some 1) none = xs.drop 1 := cut_from xs 1
theorem cut_t2 {α : Type} (xs : List α) : cutL xs none (some 2) = xs.take 2 := cut_to xs 2
theorem cut_t1 {α : Type} (xs : List α) : cutL xs none (some 1) = xs.take 1 := cut_to xs 1
theorem cut_last {α : Type} (xs : List α) (x : α) : cutL (xs ++ [x]) (some (-1)) none = [x] := by
  unfold cutL
  have e : HT.sIx (xs ++ [x]).length 0 (some (-1)) = xs.length := by
    simp [HT.sIx]
    try omega
  rw [e, HT.sIx_none]
  simp
@[simp] theorem op1_revT (xs : List D) : op1? .rev (.tup xs) = some (.tup xs.reverse) := rfl
@[simp] theorem op1_revL (o : Bool) (xs : List D) : op1? .rev (.lst o xs) = some (.lst true xs.reverse) := rfl
theorem fzm (l : List Here) : D.isFzL (l.map hereD) = true := by simp
theorem q_law_bent {nums : List Int} {p : List Here} (h1 : p ≠ []) (h2 : p.length ≤ 300) (hm : ∀ h ∈ p, h.2.length ≤ 300) {n : Int} (h0 : 0 ≤ n) (hs : stOk nums (n + 10) = true) : ∃ (q : List Here) (n' : Int), q.length ≤ 301 ∧ n ≤ n' ∧ n' ≤ n + 2 ∧ runDef G [0] b_law_bent 6 2 [stD nums n, .tup (p.map hereD)] = .ret (.tup (q.map hereD)) [stD nums n'] := by
  have hp : 0 < p.length := List.length_pos_iff.mpr h1
  have d1 := fun env hx => dr (nums := nums) (n := n) (m := p.length) (env := env) (i := 0) hx hs (by omega) (by omega) (by omega)
  have d2 := fun env hx => dr (nums := nums) (n := n + 1) (m := 7) (env := env) (i := 0) hx hs (by omega) (by omega) (by omega)
  have b1 := drawn_lt (nums := nums) (n := n + 1) (many := p.length) (by omega)
  have b2 := drawn_lt (nums := nums) (n := n + 1 + 1) (many := 7) (by omega)
  obtain ⟨at', hat⟩ := Int.eq_ofNat_of_zero_le b1.1
  have hl : at' < p.length := by omega
  have L : ∀ {k : Nat}, k ≤ 1000 → k ≤ lim := fun h => Nat.le_trans h (by decide)
  obtain ⟨x, hx⟩ : ∃ x, p[at']? = some x := ⟨_, List.getElem?_eq_getElem hl⟩
  have ax : L2.atI p (at' : Int) = some x := by rw [atI_nat, hx]
  obtain ⟨v, hv⟩ : ∃ v, v = drawn nums (n + 1 + 1) 7 := ⟨_, rfl⟩
  obtain ⟨p0, y, hy⟩ : ∃ p0 y, p = p0 ++ [y] := by
    rcases List.eq_nil_or_concat p with e | ⟨a, b, e⟩
    · exact (h1 e).elim
    · exact ⟨a, b, by rw [e, List.concat_eq_append]⟩
  have lastc : cutL p (some (-1)) none = [y] := by rw [hy]; exact cut_last p0 y
  obtain ⟨Rs, hRs⟩ : ∃ R : List (List Here), R = [p.take at' ++ [(x.1 + 1, x.2)] ++ p.drop (at' + 1), p.take at' ++ [(x.1, x.2 ++ [0])] ++ p.drop (at' + 1), p.drop 1, p.dropLast, p ++ [y], p.reverse, []] := ⟨_, rfl⟩
  have lR : (Rs.length : Int) = 7 := by rw [hRs]; rfl
  obtain ⟨q, eq, mq⟩ := atI_draw (l := Rs) (d := v) (by omega) (by omega)
  have dR : Rs.map (fun q => D.tup (q.map hereD)) = [.tup (p.take at' |>.map hereD |>.append [.tup [.int (x.1 + 1), its x.2]] |>.append ((p.drop (at' + 1)).map hereD)), .tup (p.take at' |>.map hereD |>.append [.tup [.int x.1, .tup (x.2.map .int ++ [.int 0])]] |>.append ((p.drop (at' + 1)).map hereD)), .tup ((p.drop 1).map hereD), .tup (p.dropLast.map hereD), .tup (p.map hereD ++ [hereD y]), .tup (p.reverse.map hereD), .tup []] := by
    rw [hRs]
    simp [hereD]
  refine ⟨q, n + 1 + 1, ?_, by omega, by omega, ?_⟩
  · rw [hRs] at mq
    simp only [List.mem_cons, List.not_mem_nil, or_false] at mq
    rcases mq with rfl | rfl | rfl | rfl | rfl | rfl | rfl <;> simp <;> omega
  · have hd : hereD x = .tup [.int x.1, its x.2] := rfl
    have w2 : L2.atI (Rs.map (fun q => D.tup (q.map hereD))) v = some (.tup (q.map hereD)) := by rw [atI_map, eq]; rfl
    rw [dR] at w2
    simp at w2
    have lx : x.2.length + 1 ≤ lim := Nat.le_trans (Nat.add_le_add_right (hm x (List.mem_of_getElem? hx)) 1) (by decide)
    have z1 : D.isFzL (List.take at' (p.map hereD)) = true := by rw [← List.map_take]; exact fzm _
    have z2 : D.isFzL (List.drop (at' + 1) (p.map hereD)) = true := by rw [← List.map_drop]; exact fzm _
    have z3 : D.isFzL (p.map hereD).tail = true := by rw [← List.map_tail]; exact fzm _
    have z4 : D.isFzL (p.map hereD).dropLast = true := by rw [← List.map_dropLast]; exact fzm _
    have z5 : D.isFzL (p.map hereD).reverse = true := by rw [← List.map_reverse]; exact fzm _
    have mn : min at' p.length = at' := by omega
    have l1 : at' + 1 ≤ lim := L (by omega)
    have l2 : at' + 1 + (p.length - (at' + 1)) ≤ lim := L (by omega)
    have l2' : at' + (p.length - (at' + 1) + 1) ≤ lim := L (by omega)
    have l3 : p.length + 1 ≤ lim := L (by omega)
    simp [runDef, b_law_bent, d1, d2, hat, ax, hd, cut_to, cut_fromS, cut_1, lastc, ← hv, lx, mn, l1, l2, l2', l3, L, h2, z1, z2, z3, z4, z5]
    trace_state
    rw [w2]
    simp
end NW

set_option Elab.async false
set_option linter.all false
set_option maxRecDepth 100000
set_option maxHeartbeats 1000000
namespace NW
open PySem DD
set_option maxHeartbeats 4000000
theorem rowD_def (r : Row) : rowD r = .tup [.tup (r.calls.map prI), its r.stays, .tup (r.backs.map fun l => its l)] := rfl
def newRows (n : Int) (m : Int) (cs : List (Int × Int)) (ss : List Int) (b0 : List Int) (bt : List (List Int)) : List Row :=
  [⟨cs.drop 1, ss, b0 :: bt⟩, ⟨cs, ss ++ [0], b0 :: bt⟩, ⟨cs, ss, bt⟩, ⟨(n, 0) :: cs.drop 1, ss, b0 :: bt⟩, ⟨(0, m) :: cs.drop 1, ss, b0 :: bt⟩, ⟨(0, -1) :: cs.drop 1, ss, b0 :: bt⟩, ⟨cs, ss, b0.drop 1 :: bt⟩, ⟨cs, ss, (b0.dropLast ++ [-1]) :: bt⟩, ⟨cs, ss, (b0 ++ [0]) :: bt⟩]
def oddMs (M : Mach) (at' : Nat) (r r0 : Row) : List Mach :=
  [⟨M.A, M.B, M.C, M.m, M.rows.take at' ++ [r] ++ M.rows.drop (at' + 1), M.goods⟩, ⟨M.A, M.B, M.C, M.m, [], []⟩, ⟨M.A, M.B, M.C, 0, M.rows, M.goods⟩, ⟨M.A, M.B, M.C, M.m, M.rows, M.goods ++ [(M.rows.length : Int)]⟩, ⟨M.A, M.B, M.C, M.m, M.rows, [0, 0]⟩, ⟨M.A, M.B, M.C, 9, M.rows, M.goods⟩, ⟨M.A, M.B, M.C, M.m, M.rows ++ List.replicate 8 r0, M.goods⟩, ⟨["A"], M.B, M.C, M.m, M.rows, M.goods⟩, ⟨M.A, M.B, ["e", "e"], M.m, M.rows, M.goods⟩, ⟨["b", "c", "d", "e"], M.B, M.C, M.m, M.rows, M.goods⟩]
theorem fzp (l : List (Int × Int)) : D.isFzL (l.map prI) = true := by simp
theorem fzi (l : List Int) : D.isFzL (l.map .int) = true := by simp
theorem fzr (l : List Row) : D.isFzL (l.map rowD) = true := by simp
@[simp] theorem lim_7 : 7 ≤ lim := by decide
@[simp] theorem lim_8 : 8 ≤ lim := by decide
@[simp] theorem lim_9 : 9 ≤ lim := by decide
@[simp] theorem lim_10 : 10 ≤ lim := by decide
theorem odd_new {nums : List Int} {M : Mach} {n : Int} {at' : Nat} {cs : List (Int × Int)} {ss b0 : List Int} {bt : List (List Int)} (hx : M.rows[at']? = some ⟨cs, ss, b0 :: bt⟩) (h1 : M.rows.length ≤ 100) (h2 : cs.length ≤ 100) (h3 : ss.length ≤ 100) (h4 : b0.length ≤ 100) (h5 : bt.length ≤ 100) (rest : Stms) :
    evSs G [0] (.cons s8_law_odd_machine (.cons s7_law_odd_machine (.cons s6_law_odd_machine (.cons s5_law_odd_machine rest)))) [some (stD nums n), some (machD M), some (.int at'), none, none, none, some (sgnD [M.A, M.B, M.C]), some (.int M.m), some (.tup (M.rows.map rowD)), some (its M.goods), none, none, none] = evSs G [0] rest [some (stD nums n), some (machD M), some (.int at'), some (.lst true ((newRows M.rows.length M.m cs ss b0 bt).map rowD)), none, none, some (sgnD [M.A, M.B, M.C]), some (.int M.m), some (.tup (M.rows.map rowD)), some (its M.goods), some (.tup (cs.map prI)), some (its ss), some (.tup ((b0 :: bt).map fun l => its l))] := by
  have L : ∀ {k : Nat}, k ≤ 1000 → k ≤ lim := fun h => Nat.le_trans h (by decide)
  have ax : L2.atI M.rows (at' : Int) = some ⟨cs, ss, b0 :: bt⟩ := by rw [atI_nat, hx]
  have z1 : D.isFzL (cs.map prI).tail = true := by rw [← List.map_tail]; exact fzp _
  have z2 : D.isFzL (b0.map .int).tail = true := by rw [← List.map_tail]; exact fzi _
  have z3 : D.isFzL (b0.map .int).dropLast = true := by rw [← List.map_dropLast]; exact fzi _
  have y1 := fzL_of _ z3
  have l1 : ss.length + 1 ≤ lim := L (by omega)
  have l2 : cs.length - 1 + 1 ≤ lim := L (by omega)
  have l3 : b0.length - 1 + 1 ≤ lim := L (by omega)
  have l4 : b0.length + 1 ≤ lim := L (by omega)
  have l5 : bt.length + 1 ≤ lim := L (by omega)
  have l6 : 1 + (cs.length - 1) ≤ lim := L (by omega)
  have l7 : 1 + bt.length ≤ lim := L (by omega)
  have l8 : M.rows.length ≤ lim := L (by omega)
  have pr : ∀ a b, prI (a, b) = .tup [.int a, .int b] := fun _ _ => rfl
  simp [s8_law_odd_machine, s7_law_odd_machine, s6_law_odd_machine, s5_law_odd_machine, ax, rowD_def, cut_1, l1, l2, l3, l4, l5, l6, l7, l8, z1, z2, z3, y1, pr, newRows, its]
theorem odd_told {nums : List Int} {M : Mach} {n : Int} {at' : Nat} {r r0 : Row} {rt : List Row} (h0 : M.rows = r0 :: rt) (ha : at' < M.rows.length) (h1 : M.rows.length ≤ 100) (h2 : M.goods.length ≤ 100) {hi : Int} (hs : stOk nums hi = true) (n0 : 0 ≤ n) (n1 : n ≤ hi) (x3 x10 x11 x12 : Option D) :
    ∃ M' ∈ oddMs M at' r r0, ends [0] 2 (evSs G [0] (.cons s3_law_odd_machine (.cons s2_law_odd_machine (.cons s1_law_odd_machine (.cons s0_law_odd_machine .nil)))) [some (stD nums n), some (machD M), some (.int at'), x3, some (rowD r), none, some (sgnD [M.A, M.B, M.C]), some (.int M.m), some (.tup (M.rows.map rowD)), some (its M.goods), x10, x11, x12]) = .ret (machD M') [stD nums (n + 1)] := by
  have L : ∀ {k : Nat}, k ≤ 1000 → k ≤ lim := fun h => Nat.le_trans h (by decide)
  have d1 := fun env hx => dr (nums := nums) (n := n) (m := 14) (env := env) (i := 0) hx hs n0 n1 (by omega)
  have b1 := drawn_lt (nums := nums) (n := n + 1) (many := 14) (by omega)
  obtain ⟨j, ej, mj⟩ := atI_draw (l := ([0, 0, 0, 0, 0, 1, 2, 3, 4, 5, 6, 7, 8, 9] : List Int)) (d := drawn nums (n + 1) 14) b1.1 (by simpa using b1.2)
  have hj : 0 ≤ j ∧ j < 10 := by
    simp only [List.mem_cons, List.not_mem_nil, or_false] at mj
    omega
  obtain ⟨M', eM, mM⟩ := atI_draw (l := oddMs M at' r r0) (d := j) hj.1 (by simpa [oddMs] using hj.2)
  refine ⟨M', mM, ?_⟩
  have wM : L2.atI ((oddMs M at' r r0).map machD) j = some (machD M') := by rw [atI_map, eM]; rfl
  have wj : L2.atI (([0, 0, 0, 0, 0, 1, 2, 3, 4, 5, 6, 7, 8, 9] : List Int).map D.int) (drawn nums (n + 1) 14) = some (.int j) := by rw [atI_map, ej]; rfl
  have z1 : D.isFzL (List.take at' (M.rows.map rowD)) = true := by rw [← List.map_take]; exact fzr _
  have z2 : D.isFzL (List.drop (at' + 1) (M.rows.map rowD)) = true := by rw [← List.map_drop]; exact fzr _
  have mn : min at' M.rows.length = at' := by omega
  have l1 : at' + 1 ≤ lim := L (by omega)
  have l2 : at' + 1 + (M.rows.length - (at' + 1)) ≤ lim := L (by omega)
  have l2' : at' + (M.rows.length - (at' + 1) + 1) ≤ lim := L (by omega)
  have l3 : M.goods.length + 1 ≤ lim := L (by omega)
  have l4 : M.rows.length ≤ lim := L (by omega)
  have l5 : M.rows.length + 8 ≤ lim := L (by omega)
  have mr : bop .mul (.tup [rowD r0]) (.int 8) = some (.tup (List.replicate 8 (rowD r0))) := rfl
  have tk : (M.rows.map rowD).take 1 = [rowD r0] := by rw [h0]; rfl
  have sd : sgnD [M.A, M.B, M.C] = .tup [sts M.A, sts M.B, sts M.C] := rfl
  have s1 : cutL [sts M.A, sts M.B, sts M.C] (some 1) none = [sts M.B, sts M.C] := rfl
  have s2 : cutL [sts M.A, sts M.B, sts M.C] none (some 2) = [sts M.A, sts M.B] := rfl
  have md : machD M = .tup [sgnD [M.A, M.B, M.C], .int M.m, .tup (M.rows.map rowD), its M.goods] := rfl
  have dM : (oddMs M at' r r0).map machD = [.tup [.tup [sts M.A, sts M.B, sts M.C], .int M.m, .tup (List.take at' (M.rows.map rowD) ++ rowD r :: List.drop (at' + 1) (M.rows.map rowD)), its M.goods], .tup [.tup [sts M.A, sts M.B, sts M.C], .int M.m, .tup [], .tup []], .tup [.tup [sts M.A, sts M.B, sts M.C], .int 0, .tup (M.rows.map rowD), its M.goods], .tup [.tup [sts M.A, sts M.B, sts M.C], .int M.m, .tup (M.rows.map rowD), .tup (M.goods.map .int ++ [.int M.rows.length])], .tup [.tup [sts M.A, sts M.B, sts M.C], .int M.m, .tup (M.rows.map rowD), .tup [.int 0, .int 0]], .tup [.tup [sts M.A, sts M.B, sts M.C], .int 9, .tup (M.rows.map rowD), its M.goods], .tup [.tup [sts M.A, sts M.B, sts M.C], .int M.m, .tup (M.rows.map rowD ++ [rowD r0, rowD r0, rowD r0, rowD r0, rowD r0, rowD r0, rowD r0, rowD r0]), its M.goods], .tup [.tup [.tup [.str "A"], sts M.B, sts M.C], .int M.m, .tup (M.rows.map rowD), its M.goods], .tup [.tup [sts M.A, sts M.B, .tup [.str "e", .str "e"]], .int M.m, .tup (M.rows.map rowD), its M.goods], .tup [.tup [.tup [.str "b", .str "c", .str "d", .str "e"], sts M.B, sts M.C], .int M.m, .tup (M.rows.map rowD), its M.goods]] := by
    simp [oddMs, machD, sgnD, List.replicate]
  rw [dM] at wM
  simp only [List.map_cons, List.map_nil] at wj
  have l14 : 14 ≤ lim := by decide
  have e3 : evS G [0] s3_law_odd_machine [some (stD nums n), some (machD M), some (.int at'), x3, some (rowD r), none, some (sgnD [M.A, M.B, M.C]), some (.int M.m), some (.tup (M.rows.map rowD)), some (its M.goods), x10, x11, x12] = .ok .nx [some (stD nums n), some (machD M), some (.int at'), x3, some (rowD r), some (.lst true [.tup [sgnD [M.A, M.B, M.C], .int M.m, .tup (List.take at' (M.rows.map rowD) ++ rowD r :: List.drop (at' + 1) (M.rows.map rowD)), its M.goods], .tup [sgnD [M.A, M.B, M.C], .int M.m, .tup [], .tup []], .tup [sgnD [M.A, M.B, M.C], .int 0, .tup (M.rows.map rowD), its M.goods], .tup [sgnD [M.A, M.B, M.C], .int M.m, .tup (M.rows.map rowD), .tup (M.goods.map .int ++ [.int M.rows.length])]]), some (sgnD [M.A, M.B, M.C]), some (.int M.m), some (.tup (M.rows.map rowD)), some (its M.goods), x10, x11, x12] := by
    simp [s3_law_odd_machine, cut_to, cut_fromS, z1, z2, mn, l1, l2, l2', l3, l4]
  rw [seq_nx e3]
  simp [s2_law_odd_machine, s1_law_odd_machine, s0_law_odd_machine, cut_t1, tk, mr, sd, s1, s2, l5, l4, d1, wj, wM, z1, z2, l14]
theorem asc_len : ∀ (l : List Int) (lo hi : Int), l.Pairwise (· < ·) → (∀ x ∈ l, lo ≤ x ∧ x < hi) → (l.length : Int) ≤ hi - lo ∨ l = []
  | [], _, _, _, _ => .inr rfl
  | x :: l, lo, hi, h, g => by
    rw [List.pairwise_cons] at h
    have gx := g x (List.mem_cons_self ..)
    left
    rcases asc_len l (x + 1) hi h.2 (fun y hy => ⟨by have := h.1 y hy; omega, (g y (List.mem_cons_of_mem _ hy)).2⟩) with q | q
    · rw [List.length_cons]; omega
    · subst q; simp; omega
theorem goods_len {M : Mach} (ok : OkM M) : M.goods.length ≤ 8 := by
  have pw : M.goods.Pairwise (· < ·) := by
    have e : sortI M.goods = M.goods := (sortI_iff M.goods) ▸ ok.rise
    rw [← e]; exact sortI_asc _
  have r8 := ok.r8
  rcases asc_len M.goods 0 M.rows.length pw (fun x hx => (inS_iff _ _).mp (List.all_eq_true.mp ok.goods x hx)) with q | q
  · omega
  · rw [q]; simp
theorem rowSm_of {r : Row} (h : r.calls.length ≤ 4 ∧ r.stays.length ≤ 4 ∧ r.backs.length ≤ 4 ∧ ∀ l ∈ r.backs, l.length ≤ 9) : rowSm r = true := by
  simp only [rowSm, Bool.and_eq_true, decide_eq_true_eq, List.all_eq_true]
  exact ⟨by omega, by omega, by omega, fun l hl => by have := h.2.2.2 l hl; omega⟩
theorem shortS3 (A B C : List Str) : shortS [A, B, C] = (shortL A && (shortL B && shortL C)) := by simp [shortS]
def smallM (M : Mach) : Bool := machSm M && decide (M.goods.length < 64)
theorem q_law_odd_machine {nums : List Int} {M : Mach} (ok : OkM M) (hA : shortS [M.A, M.B, M.C] = true) (a0 : 0 < M.A.length) (c0 : 0 < M.C.length) {n : Int} (h0 : 0 ≤ n) (hs : stOk nums (n + 10) = true) : ∃ M' : Mach, smallM M' = true ∧ runDef G [0] b_law_odd_machine 13 2 [stD nums n, machD M] = .ret (machD M') [stD nums (n + 3)] := by
  have L : ∀ {k : Nat}, k ≤ 1000 → k ≤ lim := fun h => Nat.le_trans h (by decide)
  have hr1 := ok.r1
  have hr8 := ok.r8
  obtain ⟨l1, l2, l3⟩ := le3 ok.sg
  have d1 := fun env hx => dr (nums := nums) (n := n) (m := M.rows.length) (env := env) (i := 0) hx hs h0 (by omega) (by omega)
  have d2 := fun env hx => dr (nums := nums) (n := n + 1) (m := 9) (env := env) (i := 0) hx hs (by omega) (by omega) (by omega)
  have b1 := drawn_lt (nums := nums) (n := n + 1) (many := M.rows.length) (by omega)
  have b2 := drawn_lt (nums := nums) (n := n + 1 + 1) (many := 9) (by omega)
  obtain ⟨at', hat⟩ := Int.eq_ofNat_of_zero_le b1.1
  have hl : at' < M.rows.length := by omega
  obtain ⟨r, hx⟩ : ∃ x, M.rows[at']? = some x := ⟨_, List.getElem?_eq_getElem hl⟩
  have rall := ok.row
  have ro := rall r (List.mem_of_getElem? hx)
  obtain ⟨r0, rt, hrr⟩ : ∃ r0 rt, M.rows = r0 :: rt := by
    cases e : M.rows with
    | nil => rw [e] at hr1; simp at hr1
    | cons a b => exact ⟨a, b, rfl⟩
  have sm : ∀ r ∈ M.rows, r.calls.length ≤ 3 ∧ r.stays.length ≤ 3 ∧ r.backs.length = M.C.length ∧ ∀ l ∈ r.backs, l.length ≤ 8 := fun r hr => by
    have := rall r hr
    simp only [rowOk, Bool.and_eq_true, decide_eq_true_eq, List.all_eq_true] at this
    obtain ⟨q1, q2, q3, q4, q5, q6⟩ := this
    refine ⟨by omega, by omega, q3, fun l hl => ?_⟩
    have := (q6 l hl).1
    have := ok.m8
    omega
  have smr := sm r (List.mem_of_getElem? hx)
  obtain ⟨cs, ss, bks⟩ := r
  simp only at smr
  obtain ⟨s1, s2, s3, s4⟩ := smr
  cases bks with
  | nil => simp at s3; omega
  | cons b0 bt =>
    have sb0 := s4 b0 (List.mem_cons_self ..)
    rw [List.length_cons] at s3
    have gl := goods_len ok
    have N := odd_new (nums := nums) (n := n + 1) hx (by omega) (by omega) (by omega) (by omega) (by omega) (.cons s4_law_odd_machine (.cons s3_law_odd_machine (.cons s2_law_odd_machine (.cons s1_law_odd_machine (.cons s0_law_odd_machine .nil)))))
    obtain ⟨rn, en, mn⟩ := atI_draw (l := newRows M.rows.length M.m cs ss b0 bt) (d := drawn nums (n + 1 + 1) 9) b2.1 (by simpa [newRows] using b2.2)
    have rsn : rn.calls.length ≤ 4 ∧ rn.stays.length ≤ 4 ∧ rn.backs.length ≤ 4 ∧ ∀ l ∈ rn.backs, l.length ≤ 9 := by
      simp only [newRows, List.mem_cons, List.not_mem_nil, or_false] at mn
      have s4' : ∀ l ∈ bt, l.length ≤ 8 := fun l hl => s4 l (List.mem_cons_of_mem _ hl)
      have s4'' : ∀ l ∈ bt, l.length ≤ 9 := fun l hl => by have := s4' l hl; omega
      have key : ∀ x, x.length ≤ 9 → ∀ l ∈ x :: bt, l.length ≤ 9 := fun x hx l hl => by
        rcases List.mem_cons.mp hl with e | hl
        · rw [e]; exact hx
        · exact s4'' l hl
      have kb : ∀ x : List Int, x.length ≤ 9 → (x :: bt).length ≤ 4 := fun x _ => by rw [List.length_cons]; omega
      rcases mn with rfl | rfl | rfl | rfl | rfl | rfl | rfl | rfl | rfl
      · exact ⟨by simp; omega, by simp; omega, kb b0 (by omega), key b0 (by omega)⟩
      · exact ⟨by simp; omega, by simp; omega, kb b0 (by omega), key b0 (by omega)⟩
      · exact ⟨by simp; omega, by simp; omega, by simp; omega, s4''⟩
      · exact ⟨by simp; omega, by simp; omega, kb b0 (by omega), key b0 (by omega)⟩
      · exact ⟨by simp; omega, by simp; omega, kb b0 (by omega), key b0 (by omega)⟩
      · exact ⟨by simp; omega, by simp; omega, kb b0 (by omega), key b0 (by omega)⟩
      · exact ⟨by simp; omega, by simp; omega, kb _ (by simp; omega), key _ (by simp; omega)⟩
      · exact ⟨by simp; omega, by simp; omega, kb _ (by simp; omega), key _ (by simp; omega)⟩
      · exact ⟨by simp; omega, by simp; omega, kb _ (by simp; omega), key _ (by simp; omega)⟩
    have e4 : evS G [0] s4_law_odd_machine [some (stD nums (n + 1)), some (machD M), some (.int at'), some (.lst true ((newRows M.rows.length M.m cs ss b0 bt).map rowD)), none, none, some (sgnD [M.A, M.B, M.C]), some (.int M.m), some (.tup (M.rows.map rowD)), some (its M.goods), some (.tup (cs.map prI)), some (its ss), some (.tup ((b0 :: bt).map fun l => its l))] = .ok .nx [some (stD nums (n + 1 + 1)), some (machD M), some (.int at'), some (.lst true ((newRows M.rows.length M.m cs ss b0 bt).map rowD)), some (rowD rn), none, some (sgnD [M.A, M.B, M.C]), some (.int M.m), some (.tup (M.rows.map rowD)), some (its M.goods), some (.tup (cs.map prI)), some (its ss), some (.tup ((b0 :: bt).map fun l => its l))] := by
      simp [s4_law_odd_machine, d2, en]
    obtain ⟨M', mM, T⟩ := odd_told (nums := nums) (M := M) (n := n + 1 + 1) (at' := at') (r := rn) (r0 := r0) hrr hl (by omega) (by omega) hs (by omega) (by omega) (some (.lst true ((newRows M.rows.length M.m cs ss b0 bt).map rowD))) (some (.tup (cs.map prI))) (some (its ss)) (some (.tup ((b0 :: bt).map fun l => its l)))
    refine ⟨M', ?_, ?_⟩
    · have sr : ∀ r ∈ M.rows, rowSm r = true := fun r hr => rowSm_of (by obtain ⟨q1, q2, q3, q4⟩ := sm r hr; exact ⟨by omega, by omega, by omega, fun l hl => by have := q4 l hl; omega⟩)
      have srn := rowSm_of rsn
      have mk : ∀ A B C m rows goods, shortS [A, B, C] = true → rows.length ≤ 20 → (∀ r ∈ rows, rowSm r = true) → goods.length ≤ 20 → smallM ⟨A, B, C, m, rows, goods⟩ = true := fun A B C m rows goods w1 w2 w3 w4 => by
        simp only [smallM, machSm, Bool.and_eq_true, decide_eq_true_eq, List.all_eq_true]
        exact ⟨⟨w1, by omega, by omega, w3⟩, by omega⟩
      have hA' := hA
      rw [shortS3] at hA'
      simp only [Bool.and_eq_true] at hA'
      simp only [oddMs, List.mem_cons, List.not_mem_nil, or_false] at mM
      rcases mM with rfl | rfl | rfl | rfl | rfl | rfl | rfl | rfl | rfl | rfl
      · refine mk _ _ _ _ _ _ hA (by simp; omega) (fun r hr => ?_) (by omega)
        rcases List.mem_append.mp hr with hr | hr
        · rcases List.mem_append.mp hr with hr | hr
          · exact sr r (List.mem_of_mem_take hr)
          · rw [List.mem_singleton] at hr; subst hr; exact srn
        · exact sr r (List.mem_of_mem_drop hr)
      · exact mk _ _ _ _ _ _ hA (by simp) (by simp) (by simp)
      · exact mk _ _ _ _ _ _ hA (by omega) sr (by omega)
      · exact mk _ _ _ _ _ _ hA (by omega) sr (by simp; omega)
      · exact mk _ _ _ _ _ _ hA (by omega) sr (by simp)
      · exact mk _ _ _ _ _ _ hA (by omega) sr (by omega)
      · refine mk _ _ _ _ _ _ hA (by simp; omega) (fun r hr => ?_) (by omega)
        rcases List.mem_append.mp hr with hr | hr
        · exact sr r hr
        · rw [(List.mem_replicate.mp hr).2]; exact sr r0 (by rw [hrr]; exact List.mem_cons_self ..)
      · exact mk _ _ _ _ _ _ (by rw [shortS3, hA'.2.1, hA'.2.2]; decide +kernel) (by omega) sr (by omega)
      · exact mk _ _ _ _ _ _ (by rw [shortS3, hA'.1, hA'.2.1]; decide +kernel) (by omega) sr (by omega)
      · exact mk _ _ _ _ _ _ (by rw [shortS3, hA'.2.1, hA'.2.2]; decide +kernel) (by omega) sr (by omega)
    · have st : runDef G [0] b_law_odd_machine 13 2 [stD nums n, machD M] = ends [0] 2 (evSs G [0] b_law_odd_machine [some (stD nums n), some (machD M), none, none, none, none, none, none, none, none, none, none, none]) := by simp [runDef]
      rw [st]
      unfold b_law_odd_machine
      have e10 : evS G [0] s10_law_odd_machine [some (stD nums n), some (machD M), none, none, none, none, none, none, none, none, none, none, none] = .ok .nx [some (stD nums n), some (machD M), none, none, none, none, some (sgnD [M.A, M.B, M.C]), some (.int M.m), some (.tup (M.rows.map rowD)), some (its M.goods), none, none, none] := by simp [s10_law_odd_machine, machD]
      have e9 : evS G [0] s9_law_odd_machine [some (stD nums n), some (machD M), none, none, none, none, some (sgnD [M.A, M.B, M.C]), some (.int M.m), some (.tup (M.rows.map rowD)), some (its M.goods), none, none, none] = .ok .nx [some (stD nums (n + 1)), some (machD M), some (.int at'), none, none, none, some (sgnD [M.A, M.B, M.C]), some (.int M.m), some (.tup (M.rows.map rowD)), some (its M.goods), none, none, none] := by
        have := L (show M.rows.length ≤ 1000 by omega)
        simp [s9_law_odd_machine, d1, hat, this]
      rw [seq_nx e10, seq_nx e9, N, seq_nx e4, T]
      rw [show n + 1 + 1 + 1 = n + 3 by omega]
end NW

set_option Elab.async false
set_option linter.all false
set_option maxRecDepth 100000
set_option maxHeartbeats 1000000
namespace NW
open PySem DD
def errT (x : Nat) : D := if x = 1 then .str "refused" else if x = 2 then .str "large" else if x = 3 then .str "missing" else .str "paper"
def rT (o : Option Nat) (v : D) : D := match o with | some x => errT x | none => .tup [.str "told", v]
theorem le_T {x : Nat} (h : x = 1 ∨ x = 2 ∨ x = 3 ∨ x = 4) : G.le 0 x = some (errT x) := by
  rcases h with rfl | rfl | rfl | rfl <;> rfl
theorem e12_g {M : Mach} {w : List Sg} {x : Nat} (h : goodErr M w = some x) : x = 1 ∨ x = 2 ∨ x = 3 ∨ x = 4 := by
  unfold goodErr wholeErr at h
  cases e1 : machErr M with
  | some y => rw [e1] at h; simp at h; subst h; have := e12_m e1; omega
  | none =>
    rw [e1] at h
    simp only at h
    cases e2 : ofErr M.A M.B M.C w with
    | some y => rw [e2] at h; simp at h; subst h; have := e12_o e2; omega
    | none =>
      rw [e2] at h
      cases e3 : isW w
      · rw [e3] at h; simp at h; omega
      · rw [e3] at h; simp at h
theorem e12_p {M : Mach} {w : List Sg} {p : List Here} {x : Nat} (h : papErr M w p = some x) : x = 1 ∨ x = 2 ∨ x = 3 ∨ x = 4 := by
  unfold papErr at h
  cases e1 : trErr M w with
  | some y =>
    rcases e12_t e1 with rfl | rfl | rfl <;> rw [e1] at h <;> simp at h <;> omega
  | none =>
    rw [e1] at h
    simp only at h
    split at h <;> simp at h
    omega
theorem c_told0 {M : Mach} (hs : machSm M = true) {W P : D} (hW : noPlc W = true) (hP : noPlc P = true) (env : DD.Env) : callTo G 611 [.int 0, machD M, W, P] env = .ok (rT (machErr M) .non) env := by
  refine call_ret fx_law_told rfl (by simp [hW, hP]) ?_
  have c := c_check_machine hs
  cases e : machErr M with
  | some x =>
    have l := le_T (x := x) (by have := e12_m e; omega)
    rw [e] at c
    simp [runDef, b_law_told, c, tellE, l, rT]
  | none =>
    rw [e] at c
    simp [runDef, b_law_told, c, tellE, rT]
theorem c_told1 {M : Mach} (hs : machSm M = true) {w : List Sg} (hw : short w = true) {P : D} (hP : noPlc P = true) (env : DD.Env) : callTo G 611 [.int 1, machD M, wd w, P] env = .ok (rT (goodErr M w) (.bl (goodF M w))) env := by
  refine call_ret fx_law_told rfl (by simp [hP]) ?_
  have c := c_is_good hs hw
  cases e : goodErr M w with
  | some x =>
    have l := le_T (x := x) (e12_g e)
    rw [e] at c
    simp [runDef, b_law_told, c, l, rT]
  | none =>
    rw [e] at c
    simp [runDef, b_law_told, c, rT]
theorem c_told2 {M : Mach} (hs : machSm M = true) {w : List Sg} (hw : short w = true) {P : D} (hP : noPlc P = true) (env : DD.Env) : callTo G 611 [.int 2, machD M, wd w, P] env = .ok (rT (trErr M w) (hrs false ((trc M w).getD []))) env := by
  refine call_ret fx_law_told rfl (by simp [hP]) ?_
  have c := c_trace hs hw
  cases e : trErr M w with
  | some x =>
    have l := le_T (x := x) (by have := e12_t e; omega)
    rw [e] at c
    simp [runDef, b_law_told, c, l, rT]
  | none =>
    rw [e] at c
    simp [runDef, b_law_told, c, rT, hrs]
theorem c_told3 {M : Mach} (hs : machSm M = true) {w : List Sg} (hw : short w = true) {p : List Here} (hp : p.length ≤ 1000) (env : DD.Env) : callTo G 611 [.int 3, machD M, wd w, .tup (p.map hereD)] env = .ok (rT (papErr M w p) (.bl true)) env := by
  refine call_ret fx_law_told rfl (by simp) ?_
  have c := c_check_trace hs hw hp
  cases e : papErr M w p with
  | some x =>
    have l := le_T (x := x) (e12_p e)
    rw [e] at c
    simp [runDef, b_law_told, c, l, rT]
  | none =>
    rw [e] at c
    simp [runDef, b_law_told, c, rT]
end NW

set_option Elab.async false
set_option linter.all false
set_option maxRecDepth 100000
set_option maxHeartbeats 1000000
namespace NW
open PySem DD
/-! ### texts of machines and traces -/
theorem fit_ints {n k : Nat} {l : List Int} (h : ∀ x ∈ l, -1000 ≤ x ∧ x ≤ 1000) (hl : l.length ≤ k) : Fit (n + 1) (31 * k) (its l) := by
  refine Fit.tup ((FitL.all (k := 30) (m := k) (fun x hx => ?_) (by rwa [List.length_map])).mono (by omega))
  obtain ⟨s, hs, rfl⟩ := List.mem_map.mp hx
  have := h s hs
  exact Fit.int (by omega)
theorem fit_here {n : Nat} {h : Here} (h1 : -1000 ≤ h.1 ∧ h.1 ≤ 1000) (h2 : ∀ x ∈ h.2, -1000 ≤ x ∧ x ≤ 1000) (h3 : h.2.length ≤ 30) : Fit (n + 2) 1000 (hereD h) :=
  (Fit.tup (FitL.cons (Fit.int (by omega)) (FitL.cons (fit_ints h2 h3) FitL.nil))).mono (by omega)
theorem fit_hrs {n : Nat} {o : Bool} {f : List Here} (h : ∀ x ∈ f, (-1000 ≤ x.1 ∧ x.1 ≤ 1000) ∧ (∀ y ∈ x.2, -1000 ≤ y ∧ y ≤ 1000) ∧ x.2.length ≤ 30) (hl : f.length ≤ 30) : Fit (n + 3) 31000 (hrs o f) := by
  refine Fit.lst ((FitL.all (k := 1000) (m := 30) (fun x hx => ?_) (by rwa [List.length_map])).mono (by omega))
  obtain ⟨s, hs, rfl⟩ := List.mem_map.mp hx
  obtain ⟨q1, q2, q3⟩ := h s hs
  exact fit_here q1 q2 q3
theorem fit_sg {n : Nat} {s : Sg} (h : (okT s.1 && okT s.2) = true) : Fit (n + 1) 202 (sg s) := by
  rw [Bool.and_eq_true] at h
  exact Fit.tup (FitL.cons (Fit.str h.1) (FitL.cons (Fit.str h.2) FitL.nil))
theorem fit_wd {n : Nat} {w : List Sg} (h : w.all (fun s => okT s.1 && okT s.2) = true) (hl : w.length ≤ 30) : Fit (n + 2) 7000 (wd w) := by
  refine Fit.tup ((FitL.all (k := 202) (m := 30) (fun x hx => ?_) (by rwa [List.length_map])).mono (by omega))
  obtain ⟨s, hs, rfl⟩ := List.mem_map.mp hx
  exact fit_sg (List.all_eq_true.mp h s hs)
theorem fit_sts {n : Nat} {l : List Str} (h : l.all okT = true) (hl : l.length ≤ 3) : Fit (n + 1) 303 (sts l) := by
  refine Fit.tup ((FitL.all (k := 100) (m := 3) (fun x hx => ?_) (by rwa [List.length_map])).mono (by omega))
  obtain ⟨s, hs, rfl⟩ := List.mem_map.mp hx
  exact Fit.str (List.all_eq_true.mp h s hs)
theorem fit_row {n : Nat} {M : Mach} (ok : OkM M) {r : Row} (hr : r ∈ M.rows) : Fit (n + 3) 2000 (rowD r) := by
  have ro := ok.row r hr
  obtain ⟨l1, l2, l3⟩ := le3 ok.sg
  have r8 := ok.r8
  have m8 := ok.m8
  simp only [rowOk, Bool.and_eq_true, decide_eq_true_eq, List.all_eq_true] at ro
  obtain ⟨q1, q2, q3, q4, q5, q6⟩ := ro
  have I : ∀ {t : Int}, inS (stI M.rows.length) t = true → -1000 ≤ t ∧ t ≤ 1000 := fun h => by have := (inS_iff _ _).mp h; omega
  have f1 : Fit (n + 2) 189 (.tup (r.calls.map prI)) := by
    refine Fit.tup ((FitL.all (k := 62) (m := 3) (fun x hx => ?_) (by rw [List.length_map]; omega)).mono (by omega))
    obtain ⟨p, hp, rfl⟩ := List.mem_map.mp hx
    obtain ⟨u1, u2, u3⟩ := q4 p hp
    have := I u1
    exact Fit.tup (FitL.cons (Fit.int (by omega)) (FitL.cons (Fit.int (by omega)) FitL.nil))
  have f2 : Fit (n + 2) 93 (its r.stays) := fit_ints (k := 3) (fun x hx => I (q5 x hx)) (by omega)
  have f3 : Fit (n + 2) 747 (.tup (r.backs.map fun l => its l)) := by
    refine Fit.tup ((FitL.all (k := 248) (m := 3) (fun x hx => ?_) (by rw [List.length_map]; omega)).mono (by omega))
    obtain ⟨p, hp, rfl⟩ := List.mem_map.mp hx
    obtain ⟨u1, u2⟩ := q6 p hp
    exact fit_ints (k := 8) (fun x hx => I (u2 x hx)) (by omega)
  exact (Fit.tup (FitL.cons f1 (FitL.cons f2 (FitL.cons f3 FitL.nil)))).mono (by omega)
theorem fit_mach {n : Nat} {M : Mach} (ok : OkM M) (h : M.A.all okT = true ∧ M.B.all okT = true ∧ M.C.all okT = true) : Fit (n + 5) 20000 (machD M) := by
  obtain ⟨l1, l2, l3⟩ := le3 ok.sg
  have r8 := ok.r8
  have m8 := ok.m8
  have m1 := ok.m1
  have f1 : Fit (n + 4) 912 (sgnD [M.A, M.B, M.C]) := Fit.tup ((FitL.cons (fit_sts h.1 l1) (FitL.cons (fit_sts h.2.1 l2) (FitL.cons (fit_sts h.2.2 l3) FitL.nil))).mono (by omega))
  have f2 : Fit (n + 4) 16008 (.tup (M.rows.map rowD)) := by
    refine Fit.tup ((FitL.all (k := 2000) (m := 8) (fun x hx => ?_) (by rw [List.length_map]; omega)).mono (by omega))
    obtain ⟨p, hp, rfl⟩ := List.mem_map.mp hx
    exact fit_row ok hp
  have f3 : Fit (n + 4) 248 (its M.goods) := fit_ints (k := 8) (fun x hx => by
    have := (inS_iff _ _).mp (List.all_eq_true.mp ok.goods x hx)
    omega) (goods_len ok)
  exact (Fit.tup (FitL.cons f1 (FitL.cons (Fit.int (i := M.m) (by omega)) (FitL.cons f2 (FitL.cons f3 FitL.nil))))).mono (by omega)
theorem okS_of {n k : Nat} {d : D} (a : Fit n k d) (hn : n + 1 ≤ 60) (hk : k + 1 ≤ 1000000) : okS d = true := by
  unfold okS
  exact Fit.okR (Fit.lst (FitL.cons a.fz FitL.nil)) hn (by omega)
theorem c_same {a : D} (h : okS a = true) (hp : noPlc a = true) (env : DD.Env) : callTo G 606 [a, a] env = .ok (.bl true) env :=
  call_ret fx_law_same rfl (by simp [hp]) (by rw [q_law_same h h]; simp)
theorem tr_ok {M : Mach} (ok : OkM M) (K : Nat) (hK : K ≤ 900) : ∀ (w : List Sg) (f : List Here) (h : Here) (f' : List Here), okH M h → h.2.length + w.length ≤ K → (∀ x ∈ f, okH M x ∧ x.2.length ≤ K) → (∀ s ∈ w, s ∈ allSg M.A M.B M.C) → trO M w f h = some f' → ∀ x ∈ f', okH M x ∧ x.2.length ≤ K
  | [], f, h, f', h1, h2, h3, h4, e => by simp [trO] at e; subst e; exact h3
  | s :: w, f, h, f', h1, h2, h3, h4, e => by
    rw [List.length_cons] at h2
    unfold trO at e
    obtain ⟨q1, q2⟩ := mv_do ok h1 (h4 s (List.mem_cons_self ..)) (by omega)
    rcases q2 with ⟨e1, e2, e3⟩ | ⟨h', e1, e2, e3, e4⟩
    · rw [e3] at e; simp at e
    · rw [e1] at e
      have st : stp s.1 ≤ 1 := by unfold stp; split <;> (try split) <;> omega
      refine tr_ok ok K hK w (f ++ [h']) h' f' e2 (by omega) (fun x hx => ?_) (fun x hx => h4 x (List.mem_cons_of_mem _ hx)) e
      rcases List.mem_append.mp hx with hx | hx
      · exact h3 x hx
      · rw [List.mem_singleton] at hx; subst hx; exact ⟨e2, by omega⟩
/-! ### the signs drawn -/
def ctxB (A B C : List Str) : Bool := decide (sgnErr [A, B, C] = none) && (shortS [A, B, C] && (decide (0 < A.length) && (decide (0 < C.length) && (!decide ((("=", "zz") : Sg) ∈ allSg A B C) && ((allSg A B C).all (fun s => okSg s && (okT s.1 && okT s.2) && decide (s.2.length ≤ 1000)) && (A.all okT && (B.all okT && C.all okT)))))))
theorem ctx_all : (lA.all fun A => lB.all fun B => lC.all fun C => ctxB A B C) = true := by decide +kernel
structure Ctx4 (A B C : List Str) : Prop where
  sg : sgnErr [A, B, C] = none
  sh : shortS [A, B, C] = true
  a0 : 0 < A.length
  c0 : 0 < C.length
  zz : (("=", "zz") : Sg) ∉ allSg A B C
  al : ∀ s ∈ allSg A B C, okSg s = true ∧ (okT s.1 && okT s.2) = true ∧ s.2.length ≤ 1000
  tx : A.all okT = true ∧ B.all okT = true ∧ C.all okT = true
theorem ctx_of {A B C : List Str} (hA : A ∈ lA) (hB : B ∈ lB) (hC : C ∈ lC) : Ctx4 A B C := by
  have h := List.all_eq_true.mp (List.all_eq_true.mp (List.all_eq_true.mp ctx_all A hA) B hB) C hC
  simp only [ctxB, Bool.and_eq_true, decide_eq_true_eq, Bool.not_eq_true', decide_eq_false_iff_not] at h
  obtain ⟨h1, h2, h3, h4, h5, h6, h7, h8, h9⟩ := h
  refine ⟨h1, h2, h3, h4, h5, fun s hs => ?_, h7, h8, h9⟩
  have := List.all_eq_true.mp h6 s hs
  simp only [Bool.and_eq_true, decide_eq_true_eq] at this
  exact ⟨this.1.1, by rw [Bool.and_eq_true]; exact this.1.2, this.2⟩
theorem word_of {A B C : List Str} (c : Ctx4 A B C) {w : List Sg} (h : ∀ s ∈ w, s ∈ allSg A B C) (hl : w.length ≤ 24) : short w = true ∧ ofErr A B C w = none ∧ w.all (fun s => okT s.1 && okT s.2) = true := by
  refine ⟨?_, ?_, ?_⟩
  · unfold short
    rw [Bool.and_eq_true, decide_eq_true_eq, List.all_eq_true]
    exact ⟨by omega, fun s hs => decide_eq_true (c.al s (h s hs)).2.2⟩
  · unfold ofErr wrong
    rw [if_neg (by omega), if_pos (List.all_eq_true.mpr fun s hs => (c.al s (h s hs)).1)]
    simp only
    rw [if_pos (List.all_eq_true.mpr fun s hs => decide_eq_true (h s hs))]
  · exact List.all_eq_true.mpr fun s hs => (c.al s (h s hs)).2.1
end NW

set_option Elab.async false
set_option linter.all false
set_option maxRecDepth 100000
set_option maxHeartbeats 1000000
namespace NW
open PySem DD
/-! ### a turn of the law -/
structure Drawn (M : Mach) (w : List Sg) : Prop where
  cx : Ctx4 M.A M.B M.C
  ok : OkM M
  mem : ∀ s ∈ w, s ∈ allSg M.A M.B M.C
  len : w.length ≤ 24
section
variable {nums : List Int} {n : Int}
theorem p1 (h0 : 0 ≤ n) (hs : stOk nums (n + 2000) = true) (x2 : Option D) (rest : Stms) : ∃ (M : Mach) (w : List Sg) (n' : Int), Drawn M w ∧ n ≤ n' ∧ n' ≤ n + 500 ∧ evSs G [] (.cons s23_law (.cons s22_law (.cons s21_law rest))) [none, some (stD nums n), x2, none, none, none, none, none, none, none, none, none, none, none, none, none, none, none] = evSs G [] rest [none, some (stD nums n'), x2, some (sgnD [M.A, M.B, M.C]), some (machD M), some (wd w), none, none, none, none, none, none, none, none, none, none, none, none] := by
  have S : ∀ {a : Int}, 0 ≤ a → a ≤ n + 2000 → stOk nums a = true := fun {a} ha hb => stOk_succ (k := n + 2000 - a) (by rwa [show a + (n + 2000 - a) = n + 2000 by omega]) ha (by omega)
  obtain ⟨A, B, C, hA, hB, hC, c603⟩ := c_law_signs (i := 1) h0 (S (a := n + 3) (by omega) (by omega))
  have cx := ctx_of hA hB hC
  obtain ⟨M, n1, ⟨rfl, rfl, rfl⟩, ok, m1, m2, qm⟩ := q_law_machine (nums := nums) cx.sg (n := n + 3) (by omega) (S (by omega) (by omega))
  obtain ⟨l1, l2, l3⟩ := le3 ok.sg
  obtain ⟨w1, n2, v1, v2, v3, v4, qw⟩ := q_law_word (nums := nums) cx.a0 cx.c0 l1 l2 l3 (n := n1) (by omega) (S (by omega) (by omega))
  obtain ⟨w2, n3, u1, u2, u3, u4, qa⟩ := q_law_any_word (nums := nums) (C := M.C) cx.a0 l1 l2 l3 (n := n2) (by omega) (S (by omega) (by omega))
  have c615 : ∀ env : DD.Env, DD.get env 1 = some (stD nums (n + 3)) → callTo G 615 [.plc 1, sgnD [M.A, M.B, M.C], .int 8, .int 8] env = .ok (machD M) (env.set 1 (some (stD nums n1))) := fun env hx => call_io (ds := [_, _, _]) fx_law_machine rfl (by simp) hx qm
  have c616 : ∀ env : DD.Env, DD.get env 1 = some (stD nums n1) → callTo G 616 [.plc 1, sgnD [M.A, M.B, M.C], .int 12] env = .ok (wd w1) (env.set 1 (some (stD nums n2))) := fun env hx => call_io (ds := [_, _]) fx_law_word rfl (by simp) hx qw
  have c617 : ∀ env : DD.Env, DD.get env 1 = some (stD nums n2) → callTo G 617 [.plc 1, sgnD [M.A, M.B, M.C], .int 12] env = .ok (wd w2) (env.set 1 (some (stD nums n3))) := fun env hx => call_io (ds := [_, _]) fx_law_any_word rfl (by simp) hx qa
  have d := fun env hx => dr (nums := nums) (n := n3) (m := 2) (env := env) (i := 1) hx hs (by omega) (by omega) (by omega)
  have b := drawn_lt (nums := nums) (n := n3 + 1) (many := 2) (by omega)
  rcases (show drawn nums (n3 + 1) 2 = 0 ∨ drawn nums (n3 + 1) 2 = 1 by omega) with e | e
  · exact ⟨M, w1, n3 + 1, ⟨cx, ok, v1, v2⟩, by omega, by omega, by simp [s23_law, s22_law, s21_law, c603, c615, c616, c617, d, e]⟩
  · exact ⟨M, w2, n3 + 1, ⟨cx, ok, u1, u2⟩, by omega, by omega, by simp [s23_law, s22_law, s21_law, c603, c615, c616, c617, d, e]⟩
variable {M : Mach} {w : List Sg}
def goodD (M : Mach) (w : List Sg) : D := if isW w then .tup [.str "told", .bl (goodF M w)] else .str "refused"
def madeD (M : Mach) (w : List Sg) : D := match trc M w with | some f => hrs false f | none => .non
def dueD (M : Mach) (w : List Sg) : D := match trc M w with | some f => .tup [.str "told", hrs false f] | none => .str "missing"
def keptS (M : Mach) (w : List Sg) : Str := (D.tup [machD M, wd w]).py.shown
theorem Drawn.ow (d : Drawn M w) : OfM M w := ⟨d.mem, by have := d.len; omega⟩
theorem Drawn.kd (d : Drawn M w) : kinds w = true := by
  unfold kinds
  refine List.all_eq_true.mpr fun s hs => ?_
  have := (d.cx.al s (d.mem s hs)).1
  unfold okSg at this
  rw [Bool.and_eq_true] at this
  exact this.1
theorem kept_ok (d : Drawn M w) : bltop .repr [.tup [machD M, wd w]] = some (.str (keptS M w)) := by
  have o : okR (.tup [machD M, wd w]) = true := Fit.okR (Fit.tup (FitL.cons (fit_mach (n := 0) d.ok d.cx.tx) (FitL.cons (fit_wd (n := 3) (word_of d.cx d.mem d.len).2.2 (by have := d.len; omega)) FitL.nil))) (by omega) (by omega)
  show (if okR (.tup [machD M, wd w]) then some (D.str _) else none) = _
  rw [if_pos o]; rfl
theorem p2 (d : Drawn M w) (x2 : Option D) (x3 : D) (rest : Stms) : ∃ x10 : D, evSs G [] (.cons s20_law (.cons s19_law (.cons s18_law (.cons s17_law (.cons s16_law (.cons s15_law (.cons s14_law rest))))))) [none, some (stD nums n), x2, some (x3), some (machD M), some (wd w), none, none, none, none, none, none, none, none, none, none, none, none] = evSs G [] rest [none, some (stD nums n), x2, some (x3), some (machD M), some (wd w), some (.str (keptS M w)), some (.bl (isW w)), some (goodD M w), some (madeD M w), some (dueD M w), none, none, none, none, none, none, none] := by
  have k := kept_ok d
  have c608 : ∀ env, callTo G 608 [wd w] env = .ok (.bl (isW w)) env := fun env => c_law_is_whole (by have := d.len; omega) (d.kd) env
  have c622 := c_law_trace d.ok d.ow
  refine ⟨.non, ?_⟩
  cases e : isW w with
  | true =>
    have c619 := c_law_good d.ok d.ow e
    cases e2 : trc M w with
    | some f =>
      rw [e2] at c622
      simp [s20_law, s19_law, s18_law, s17_law, s16_law, s15_law, s14_law, k, c608, e, c619, c622, e2, goodD, madeD, dueD, hrs]
    | none =>
      rw [e2] at c622
      simp [s20_law, s19_law, s18_law, s17_law, s16_law, s15_law, s14_law, k, c608, e, c619, c622, e2, goodD, madeD, dueD, hrs]
  | false =>
    cases e2 : trc M w with
    | some f =>
      rw [e2] at c622
      simp [s20_law, s19_law, s18_law, s17_law, s16_law, s15_law, s14_law, k, c608, e, c622, e2, goodD, madeD, dueD, hrs]
    | none =>
      rw [e2] at c622
      simp [s20_law, s19_law, s18_law, s17_law, s16_law, s15_law, s14_law, k, c608, e, c622, e2, goodD, madeD, dueD, hrs]
end
end NW

set_option Elab.async false
set_option linter.all false
set_option maxRecDepth 100000
set_option maxHeartbeats 2000000
namespace NW
open PySem DD
section
variable {nums : List Int} {n : Int} {M : Mach} {w : List Sg}
theorem mach_none (ok : OkM M) : machErr M = none := by
  unfold machErr
  rw [ok.sg]
  simp only
  have := ok.m1
  have := ok.m8
  have := ok.r1
  have := ok.r8
  rw [if_neg (by omega), if_neg (by omega), if_neg (by omega), if_neg (by omega), ok.goods, ok.rise]
  simp only [if_true]
  rw [if_pos (List.all_eq_true.mpr ok.row)]
theorem Drawn.sm (d : Drawn M w) : machSm M = true := by
  have ok := d.ok
  have := ok.r8
  have := goods_len ok
  obtain ⟨l1, l2, l3⟩ := le3 ok.sg
  have m8 := ok.m8
  simp only [machSm, Bool.and_eq_true, decide_eq_true_eq, List.all_eq_true]
  refine ⟨d.cx.sh, by omega, by omega, fun r hr => rowSm_of ?_⟩
  have ro := ok.row r hr
  simp only [rowOk, Bool.and_eq_true, decide_eq_true_eq, List.all_eq_true] at ro
  obtain ⟨q1, q2, q3, q4, q5, q6⟩ := ro
  exact ⟨by omega, by omega, by omega, fun l hl => by have := (q6 l hl).1; omega⟩
theorem t1_eq (d : Drawn M w) : rT (goodErr M w) (.bl (goodF M w)) = goodD M w := by
  unfold goodErr goodD wholeErr
  rw [mach_none d.ok]
  simp only
  rw [(word_of d.cx d.mem d.len).2.1]
  simp only
  cases isW w <;> rfl
theorem t2_eq (d : Drawn M w) : rT (trErr M w) (hrs false ((trc M w).getD [])) = dueD M w := by
  unfold trErr dueD
  rw [mach_none d.ok]
  simp only
  rw [(word_of d.cx d.mem d.len).2.1]
  simp only
  cases trc M w <;> rfl
theorem trc_ok (d : Drawn M w) {f : List Here} (h : trc M w = some f) : f.length ≤ 25 ∧ ∀ x ∈ f, okH M x ∧ x.2.length ≤ 24 := by
  have hl := d.len
  have q := tr_len w _ _ _ h
  refine ⟨by simp at q; omega, ?_⟩
  exact tr_ok d.ok 24 (by omega) w _ _ f (ok0 d.ok) (by simpa using hl) (fun x hx => by rw [List.mem_singleton] at hx; subst hx; exact ⟨ok0 d.ok, by simp⟩) d.mem h
theorem fit_due (d : Drawn M w) : Fit 5 32000 (dueD M w) := by
  unfold dueD
  have tt : okT "told" = true := by decide +kernel
  have tm : okT "missing" = true := by decide +kernel
  cases e : trc M w with
  | none => exact (Fit.str tm).mono (by omega)
  | some f =>
    obtain ⟨h1, h2⟩ := trc_ok d e
    have r8 := d.ok.r8
    have m8 := d.ok.m8
    exact (Fit.tup (FitL.cons (Fit.str tt) (FitL.cons (fit_hrs (n := 1) (fun x hx => by
      obtain ⟨⟨u1, u2, u3⟩, u4⟩ := h2 x hx
      exact ⟨by omega, fun y hy => by have := u3 y hy; omega, by omega⟩) (by omega)) FitL.nil))).mono (by omega)
theorem fit_good : Fit 5 200 (goodD M w) := by
  have tt : okT "told" = true := by decide +kernel
  have tm : okT "refused" = true := by decide +kernel
  unfold goodD
  split
  · exact (Fit.tup (FitL.cons (Fit.str tt) (FitL.cons Fit.bl FitL.nil))).mono (by omega)
  · exact (Fit.str tm).mono (by omega)
theorem np_good : noPlc (goodD M w) = true := by unfold goodD; split <;> rfl
theorem np_due : noPlc (dueD M w) = true := by unfold dueD; split <;> rfl
theorem fz_good : (goodD M w).fz = goodD M w := by unfold goodD; split <;> rfl
theorem fz_due : (dueD M w).fz = dueD M w := by unfold dueD; split <;> simp [hrs]
theorem p3 (d : Drawn M w) (x2 x9 : Option D) (x3 x6 x7 : D) : evS G [] s13_law [none, some (stD nums n), x2, some (x3), some (machD M), some (wd w), some (x6), some (x7), some (goodD M w), x9, some (dueD M w), none, none, none, none, none, none, none] = .ok .nx [none, some (stD nums n), x2, some (x3), some (machD M), some (wd w), some (x6), some (x7), some (goodD M w), x9, some (dueD M w), none, none, none, none, none, none, none] := by
  have hw := (word_of d.cx d.mem d.len).1
  have k0 := c_told0 d.sm (W := wd w) (P := .int 0) (by simp) rfl
  have k1 := c_told1 d.sm hw (P := .int 0) rfl
  have k2 := c_told2 d.sm hw (P := .int 0) rfl
  rw [mach_none d.ok] at k0
  rw [t1_eq d] at k1
  rw [t2_eq d] at k2
  have tt : okT "told" = true := by decide +kernel
  have c12 : (ev G [] c12_law).v [none, some (stD nums n), x2, some (x3), some (machD M), some (wd w), some (x6), some (x7), some (goodD M w), x9, some (dueD M w), none, none, none, none, none, none, none] = .ok (.lst true (([0, 1, 2] : List Int).map fun k => if k = 0 then .tup [.str "told", .non] else if k = 1 then goodD M w else dueD M w)) [none, some (stD nums n), x2, some (x3), some (machD M), some (wd w), some (x6), some (x7), some (goodD M w), x9, some (dueD M w), none, none, none, none, none, none, none] := by
    refine lc_mapS (l := ([0, 1, 2] : List Int)) (g := .int) (fun k => if k = 0 then .tup [.str "told", .non] else if k = 1 then goodD M w else dueD M w) (e1 := [none, some (stD nums n), x2, some (x3), some (machD M), some (wd w), some (x6), some (x7), some (goodD M w), x9, some (dueD M w), none, none, none, none, none, none, none]) ?_ (by decide) (fun k hk => ?_) (fun k _ => ?_) rfl
    · have := rng_nat (n := 3) (by omega)
      simp at this
      simp [this]
      rfl
    · simp only [List.mem_cons, List.not_mem_nil, or_false] at hk
      rcases hk with rfl | rfl | rfl <;> simp [k0, k1, k2, rT, np_good, np_due]
    · split
      · rfl
      · split
        · exact np_good
        · exact np_due
  have fit : Fit 6 33000 (.lst true [.tup [.str "told", .non], goodD M w, dueD M w]) := (Fit.lst (FitL.cons (k := 102) ((Fit.tup (FitL.cons (Fit.str tt) (FitL.cons Fit.non FitL.nil))).mono (by omega)) (FitL.cons fit_good (FitL.cons (fit_due d) FitL.nil)))).mono (by omega)
  have sm := c_same (okS_of fit (by omega) (by omega)) rfl
  simp [s13_law, c12, sm, np_good, np_due, fz_good, fz_due]
end
end NW

set_option Elab.async false
set_option linter.all false
set_option maxRecDepth 100000
set_option maxHeartbeats 2000000
namespace NW
open PySem DD
section
variable {nums : List Int} {n : Int} {M : Mach} {w : List Sg}
abbrev papD (p : List Here) : D := .tup (p.map hereD)
theorem mul_one (k : Nat) (hk : k ≤ 1000) (x : D) : bop .mul (.tup [x]) (.int (k : Int)) = some (.tup (List.replicate k x)) := by
  show (if (!([x] : List D).isEmpty) ∧ (0 : Int) ≤ k ∧ (k : Int) ≤ 1000 ∧ ([x] : List D).length ≤ 1000 then some (D.tup (List.replicate (k : Int).toNat [x]).flatten) else none) = _
  rw [if_pos ⟨rfl, by omega, by omega, by simp⟩]
  simp
theorem pap_eq (d : Drawn M w) (p : List Here) : rT (papErr M w p) (.bl true) = if (∃ f, trc M w = some f ∧ p = f) then .tup [.str "told", .bl true] else .str "paper" := by
  unfold papErr trErr
  rw [mach_none d.ok]
  simp only
  rw [(word_of d.cx d.mem d.len).2.1]
  simp only
  cases e : trc M w with
  | none => simp [rT, errT]
  | some f =>
    by_cases k : f = p
    · subst k; simp [rT]
    · have k' : ¬ p = f := fun h => k h.symm
      simp [k, k', rT, errT]
theorem p4c (d : Drawn M w) {p : List Here} (hp : p.length ≤ 400) (x6 x11 : D) : evSs G [] b7_law [none, some (stD nums n), none, none, some (machD M), some (wd w), some (x6), none, none, some (madeD M w), none, some (x11), some (papD p), none, none, none, none, none] = .ok .nx [none, some (stD nums n), none, none, some (machD M), some (wd w), some (x6), none, none, some (madeD M w), none, some (x11), none, none, none, none, none, none] := by
  have hw := (word_of d.cx d.mem d.len).1
  have k3 := c_told3 d.sm hw (p := p) (by omega)
  rw [pap_eq d] at k3
  have tt : okT "told" = true := by decide +kernel
  have tp : okT "paper" = true := by decide +kernel
  have lp : p.length ≤ lim := Nat.le_trans hp (by decide)
  have s1 := c_same (okS_of (Fit.str (n := 1) tp) (by omega) (by omega)) rfl
  have s2 := c_same (a := .tup [.str "told", .bl true]) (okS_of (Fit.tup (n := 1) (FitL.cons (Fit.str tt) (FitL.cons (Fit.bl (b := true)) FitL.nil))) (by omega) (by omega)) rfl
  unfold madeD
  cases e : trc M w with
  | none =>
    rw [e] at k3
    simp at k3
    simp [b7_law, k3, s1]
  | some f =>
    obtain ⟨h1, h2⟩ := trc_ok d e
    have lf : f.length ≤ lim := Nat.le_trans h1 (by decide)
    rw [e] at k3
    by_cases k : p = f
    · subst k
      simp at k3
      simp [b7_law, k3, s2, hrs, lp]
    · have k' : ¬ ∃ g, some f = some g ∧ p = g := fun ⟨g, h1, h2⟩ => k (h2.trans (Option.some.inj h1).symm)
      rw [if_neg k'] at k3
      simp [b7_law, k3, s1, hrs, k, lp, lf]
theorem fz_paps : ∀ ps : List (List Here), D.fzL (ps.map papD) = ps.map papD
  | [] => rfl
  | p :: ps => by
    show (papD p).fz :: D.fzL (ps.map papD) = _
    rw [fz_paps ps]
    have : (papD p).fz = papD p := by simp [papD]
    rw [this]; rfl
theorem p4l (d : Drawn M w) (x6 : D) {o : Bool} {ps : List (List Here)} (hps : ∀ p ∈ ps, p.length ≤ 400) (hl : ps.length ≤ 100) : evS G [] f8_law [none, some (stD nums n), none, none, some (machD M), some (wd w), some (x6), none, none, some (madeD M w), none, some (.lst o (ps.map papD)), none, none, none, none, none, none] = .ok .nx [none, some (stD nums n), none, none, some (machD M), some (wd w), some (x6), none, none, some (madeD M w), none, some (.lst false (ps.map papD)), none, none, none, none, none, none] := by
  have F := for_chk (G := G) (io := []) (tg := .nm 12) (b := b7_law) (it := .val (.var 11)) (l := ps) (g := papD) (env := [none, some (stD nums n), none, none, some (machD M), some (wd w), some (x6), none, none, some (madeD M w), none, some (.lst o (ps.map papD)), none, none, none, none, none, none]) (e0 := [none, some (stD nums n), none, none, some (machD M), some (wd w), some (x6), none, none, some (madeD M w), none, some (.lst false (ps.map papD)), none, none, none, none, none, none]) (fun _ => true) (by simp [fz_paps]) (fun p hp _ => by
    have c := p4c (nums := nums) (n := n) d (hps p hp) x6 (.lst false (ps.map papD))
    simp [papD] at c ⊢
    simp [c]) (fun p _ h => by cases h)
  exact F.1 (by simp)
end
end NW

set_option Elab.async false
set_option linter.all false
set_option maxRecDepth 100000
set_option maxHeartbeats 2000000
namespace NW
open PySem DD
section
variable {nums : List Int} {n : Int} {M : Mach} {w : List Sg}
theorem p4a (d : Drawn M w) (x2 x3 x7 x8 x10 : Option D) (x6 : D) (h0 : 0 ≤ n) (hs : stOk nums (n + 100) = true) (rest : Stms) : ∃ (ps : List (List Here)) (n' : Int), (∀ p ∈ ps, p.length ≤ 400) ∧ ps.length ≤ 100 ∧ n ≤ n' ∧ n' ≤ n + 8 ∧ evSs G [] (.cons s11_law (.cons s10_law rest)) [none, some (stD nums n), x2, x3, some (machD M), some (wd w), some (x6), x7, x8, some (madeD M w), x10, none, none, none, none, none, none, none] = evSs G [] rest [none, some (stD nums n'), x2, x3, some (machD M), some (wd w), some (x6), x7, x8, some (madeD M w), x10, some (.lst true (ps.map papD)), none, none, none, none, none, none] := by
  have hl := d.len
  have lw : w.length ≤ lim := Nat.le_trans hl (by decide)
  have mm := mul_one (w.length + 1) (by omega) (.tup [.int 0, .tup []])
  push_cast at mm
  have dR : List.replicate (w.length + 1) (D.tup [.int 0, .tup []]) = (List.replicate (w.length + 1) ((0, []) : Here)).map hereD := by rw [List.map_replicate]; rfl
  rw [dR] at mm
  obtain ⟨R, hR⟩ : ∃ R, R = List.replicate (w.length + 1) ((0, []) : Here) := ⟨_, rfl⟩
  have lR : R.length = w.length + 1 := by rw [hR]; simp
  rw [← hR] at mm
  have e11 : evS G [] s11_law [none, some (stD nums n), x2, x3, some (machD M), some (wd w), some (x6), x7, x8, some (madeD M w), x10, none, none, none, none, none, none, none] = .ok .nx [none, some (stD nums n), x2, x3, some (machD M), some (wd w), some (x6), x7, x8, some (madeD M w), x10, some (.lst true (([R, []] : List (List Here)).map papD)), none, none, none, none, none, none] := by
    simp [s11_law, mm, lw]
  rw [seq_nx e11]
  unfold madeD
  cases e : trc M w with
  | none =>
    refine ⟨[R, []], n, ?_, by simp, by omega, by omega, ?_⟩
    · intro p hp
      simp at hp
      rcases hp with rfl | rfl
      · omega
      · simp
    · simp [s10_law]
  | some f =>
    obtain ⟨h1, h2⟩ := trc_ok d e
    have lf : f.length ≤ lim := Nat.le_trans h1 (by decide)
    have hf := tr_len w _ _ _ e
    have fne : f ≠ [] := fun z => by rw [z] at hf; simp at hf; try omega
    have rg := rng_nat (n := 4) (by omega)
    obtain ⟨bs, n', q1, q2, q3, q4, q5⟩ := lc_draw (G := G) (io := []) (elt := .call 623 (.cons (.plc 1) (.cons (.blt .tuple (.cons (.plc 9) .nil)) .nil))) (tg := .nm 17) (it := .rng (.cons (.cst (.int 4)) .nil)) (own := [17]) (l := List.range 4) (g := fun k : Nat => .int k) (env := [none, some (stD nums n), x2, x3, some (machD M), some (wd w), some (x6), x7, x8, some (hrs false f), x10, some (.lst true (([R, []] : List (List Here)).map papD)), none, none, none, none, none, none]) (e1 := [none, some (stD nums n), x2, x3, some (machD M), some (wd w), some (x6), x7, x8, some (hrs false f), x10, some (.lst true (([R, []] : List (List Here)).map papD)), none, none, none, none, none, none])
      (fun n => [none, some (stD nums n), x2, x3, some (machD M), some (wd w), some (x6), x7, x8, some (hrs false f), x10, some (.lst true (([R, []] : List (List Here)).map papD)), none, none, none, none, none, none]) (fun n => [none, some (stD nums n), x2, x3, some (machD M), some (wd w), some (x6), x7, x8, some (hrs false f), x10, some (.lst true (([R, []] : List (List Here)).map papD)), none, none, none, none, none, none]) papD (fun p : List Here => p.length ≤ 400) (n0 := n) (c := 2) (by omega) (by simp at rg; simp [rg]) (by decide) rfl
      (fun m hm1 hm2 a _ => by
        rw [List.length_range] at hm2
        obtain ⟨p', n', u1, u2, u3, qb⟩ := q_law_bent (nums := nums) fne (by omega) (fun x hx => by have := (h2 x hx).2; omega) (n := m) (by omega) (stOk_succ (k := n + 100 - (m + 10)) (by rwa [show m + 10 + (n + 100 - (m + 10)) = n + 100 by omega]) (by omega) (by omega))
        have c623 : ∀ env : DD.Env, DD.get env 1 = some (stD nums m) → callTo G 623 [.plc 1, papD f] env = .ok (papD p') (env.set 1 (some (stD nums n'))) := fun env hx => call_io (ds := [_]) fx_law_bent rfl (by simp) hx qb
        exact ⟨p', n', u2, u3, by omega, by simp [papD], by simp [hrs, c623]⟩) (fun _ => rfl)
    rw [List.length_range] at q1 q4
    refine ⟨[R, []] ++ [f] ++ bs, n', ?_, by simp; omega, q3, by omega, ?_⟩
    · intro p hp
      rcases List.mem_append.mp hp with hp | hp
      · simp at hp
        rcases hp with rfl | rfl | rfl
        · omega
        · simp
        · omega
      · exact q2 p hp
    · have c9 : (ev G [] c9_law).v [none, some (stD nums n), x2, x3, some (machD M), some (wd w), some (x6), x7, x8, some (hrs false f), x10, some (.lst true (([R, []] : List (List Here)).map papD)), none, none, none, none, none, none] = _ := q5
      have lb : bs.length + 3 ≤ lim := Nat.le_trans (show bs.length + 3 ≤ 100 by omega) (by decide)
      have lb2 : 3 + bs.length ≤ lim := by omega
      have z := fz_paps bs
      simp only [List.map_cons, List.map_nil] at c9
      simp [s10_law, c9, hrs, lb, lb2, z]
      rfl
theorem okZ : ofErr [] [] [] [(("=", "A") : Sg)] = ofErr [] [] [] [(("=", "A") : Sg)] := rfl
theorem bad_eq {M' : Mach} {x : Nat} (h : machErr M' = some x) (v : List Sg) (p : List Here) : goodErr M' v = some x ∧ trErr M' v = some x ∧ papErr M' v p = some x := by
  have t : trErr M' v = some x := by unfold trErr; rw [h]
  refine ⟨by unfold goodErr; rw [h], t, ?_⟩
  unfold papErr
  rw [t]
  rcases e12_m h with rfl | rfl <;> rfl
theorem p5 (d : Drawn M w) (x5 x6 x9 x11 : Option D) (h0 : 0 ≤ n) (hs : stOk nums (n + 100) = true) (rest : Stms) : ∃ x13 : D, evSs G [] (.cons s6_law (.cons s5_law (.cons s4_law (.cons s3_law (.fgt [14] rest))))) [none, some (stD nums n), none, none, some (machD M), x5, x6, none, none, x9, none, x11, none, none, none, none, none, none] = evSs G [] rest [none, some (stD nums (n + 3)), none, none, some (machD M), x5, x6, none, none, x9, none, x11, none, some (x13), none, some (wd [(("=", "A") : Sg)]), none, none] := by
  obtain ⟨M', sm, qo⟩ := q_law_odd_machine (nums := nums) d.ok d.cx.sh d.cx.a0 d.cx.c0 h0 (stOk_succ (k := 90) (by rwa [show n + 10 + 90 = n + 100 by omega]) (by omega) (by omega))
  simp only [smallM, Bool.and_eq_true, decide_eq_true_eq] at sm
  have c620 : ∀ env : DD.Env, DD.get env 1 = some (stD nums n) → callTo G 620 [.plc 1, machD M] env = .ok (machD M') (env.set 1 (some (stD nums (n + 3)))) := fun env hx => call_io (ds := [_]) fx_law_odd_machine rfl (by simp) hx qo
  have c621 := c_law_machine_due sm.1 sm.2
  have sw : short [(("=", "A") : Sg)] = true := by decide +kernel
  have t0 := c_told0 sm.1 (W := .int 0) (P := .int 0) rfl rfl
  refine ⟨machD M', ?_⟩
  cases e : machErr M' with
  | none =>
    rw [e] at c621 t0
    simp only [errS] at c621
    simp only [rT] at t0
    have dn : deq D.non D.non = true := rfl
    simp [s6_law, s5_law, s4_law, s3_law, c620, c621, t0, sg, dn]
    rfl
  | some x =>
    obtain ⟨g1, g2, g3⟩ := bad_eq e [(("=", "A") : Sg)] []
    have k0 := c_told0 sm.1 (W := wd [(("=", "A") : Sg)]) (P := .tup []) (by simp) rfl
    have k1 := c_told1 sm.1 sw (P := .tup []) rfl
    have k2 := c_told2 sm.1 sw (P := .tup []) rfl
    have k3 := c_told3 sm.1 sw (p := []) (by simp)
    rw [e] at k0 c621
    rw [g1] at k1
    rw [g2] at k2
    rw [g3] at k3
    obtain ⟨z, hz, hz1, hz2⟩ : ∃ z : Str, errS (some x) = .str z ∧ errT x = .str z ∧ True := by
      rcases e12_m e with rfl | rfl <;> exact ⟨_, rfl, rfl, trivial⟩
    rw [hz] at c621
    simp only [rT, hz1] at k0 k1 k2 k3
    have c2 : (ev G [] c2_law).v [none, some (stD nums (n + 3)), none, none, some (machD M), x5, x6, none, none, x9, none, x11, none, some (machD M'), some (.str z), some (wd [(("=", "A") : Sg)]), none, none] = .ok (.lst true (([0, 1, 2, 3] : List Int).map fun _ => .str z)) [none, some (stD nums (n + 3)), none, none, some (machD M), x5, x6, none, none, x9, none, x11, none, some (machD M'), some (.str z), some (wd [(("=", "A") : Sg)]), none, none] := by
      refine lc_mapS (l := ([0, 1, 2, 3] : List Int)) (g := .int) (fun _ => .str z) (e1 := [none, some (stD nums (n + 3)), none, none, some (machD M), x5, x6, none, none, x9, none, x11, none, some (machD M'), some (.str z), some (wd [(("=", "A") : Sg)]), none, none]) ?_ (by decide) (fun k hk => ?_) (fun k _ => rfl) rfl
      · have := rng_nat (n := 4) (by omega)
        simp at this
        simp [this]
        rfl
      · simp only [List.mem_cons, List.not_mem_nil, or_false] at hk
        simp only [List.map_nil] at k3
        rcases hk with rfl | rfl | rfl | rfl
        · simp [k0]
        · simp [k1]
        · simp [k2]
        · simp [k3]
    have mz : bop .mul (.lst false [.str z]) (.int 4) = some (.lst true [.str z, .str z, .str z, .str z]) := rfl
    have sgA : wd [(("=", "A") : Sg)] = .tup [.tup [.str "=", .str "A"]] := rfl
    rw [sgA] at c2 ⊢
    simp [s6_law, s5_law, s4_law, s3_law, c620, c621, c2, mz, sg]
end
end NW

set_option Elab.async false
set_option linter.all false
set_option maxRecDepth 100000
set_option maxHeartbeats 2000000
namespace NW
open PySem DD
section
variable {nums : List Int} {n : Int} {M : Mach} {w : List Sg}
theorem zz_of {A B C : List Str} (c : Ctx4 A B C) : ofErr A B C [(("=", "zz") : Sg)] = some 1 := by
  have h1 : wrong [(("=", "zz") : Sg)] = none := by decide +kernel
  unfold ofErr
  rw [h1]
  simp only
  rw [if_neg]
  intro h
  have := List.all_eq_true.mp h _ (List.mem_cons_self ..)
  exact c.zz (of_decide_eq_true this)
theorem p6 (d : Drawn M w) (x9 x11 x13 x15 : Option D) : evS G [] s1_law [none, some (stD nums n), none, none, some (machD M), some (wd w), some (.str (keptS M w)), none, none, x9, none, x11, none, x13, none, x15, none, none] = .ok .nx [none, some (stD nums n), none, none, some (machD M), some (wd w), some (.str (keptS M w)), none, none, x9, none, x11, none, x13, none, x15, none, none] := by
  have sw : short [(("=", "zz") : Sg)] = true := by decide +kernel
  have k1 := c_told1 d.sm sw (P := .tup []) rfl
  have k2 := c_told2 d.sm sw (P := .tup []) rfl
  have k3 := c_told3 d.sm sw (p := []) (by simp)
  have z := zz_of d.cx
  have t : trErr M [(("=", "zz") : Sg)] = some 1 := by unfold trErr; rw [mach_none d.ok, z]
  have g : goodErr M [(("=", "zz") : Sg)] = some 1 := by unfold goodErr wholeErr; rw [mach_none d.ok, z]
  have p : papErr M [(("=", "zz") : Sg)] [] = some 1 := by unfold papErr; rw [t]; rfl
  rw [g] at k1
  rw [t] at k2
  rw [p] at k3
  have e1 : errT 1 = .str "refused" := rfl
  simp only [rT, e1, List.map_nil] at k1 k2 k3
  have c0 : (ev G [] c0_law).v [none, some (stD nums n), none, none, some (machD M), some (wd w), some (.str (keptS M w)), none, none, x9, none, x11, none, x13, none, x15, none, none] = .ok (.lst true (([1, 2, 3] : List Int).map fun _ => .str "refused")) [none, some (stD nums n), none, none, some (machD M), some (wd w), some (.str (keptS M w)), none, none, x9, none, x11, none, x13, none, x15, none, none] := by
    have sgA : wd [(("=", "zz") : Sg)] = .tup [.tup [.str "=", .str "zz"]] := rfl
    rw [sgA] at k1 k2 k3
    refine lc_mapS (l := ([1, 2, 3] : List Int)) (g := .int) (fun _ => .str "refused") (e1 := [none, some (stD nums n), none, none, some (machD M), some (wd w), some (.str (keptS M w)), none, none, x9, none, x11, none, x13, none, x15, none, none]) (by simp) (by decide) (fun k hk => ?_) (fun k _ => rfl) rfl
    simp only [List.mem_cons, List.not_mem_nil, or_false] at hk
    rcases hk with rfl | rfl | rfl
    · simp [k1]
    · simp [k2]
    · simp [k3]
  have k := kept_ok d
  have mz : ∀ o, bop .mul (.lst o [.str "refused"]) (.int 3) = some (.lst true [.str "refused", .str "refused", .str "refused"]) := fun _ => rfl
  simp [s1_law, c0, mz, k]
theorem turn (h0 : 0 ≤ n) (hs : stOk nums (n + 2000) = true) (x2 : D) : ∃ n' : Int, n ≤ n' ∧ n' ≤ n + 600 ∧ evSs G [] b24_law [none, some (stD nums n), some (x2), none, none, none, none, none, none, none, none, none, none, none, none, none, none, none] = .ok .nx [none, some (stD nums n'), none, none, none, none, none, none, none, none, none, none, none, none, none, none, none, none] := by
  have S : ∀ {a : Int}, 0 ≤ a → a ≤ n + 2000 → stOk nums a = true := fun {a} ha hb => stOk_succ (k := n + 2000 - a) (by rwa [show a + (n + 2000 - a) = n + 2000 by omega]) ha (by omega)
  unfold b24_law
  obtain ⟨M, w, n1, d, a1, a2, e1⟩ := p1 h0 hs (some x2) (.cons s20_law (.cons s19_law (.cons s18_law (.cons s17_law (.cons s16_law (.cons s15_law (.cons s14_law (.cons s13_law (.cons s11_law (.cons s10_law (.fgt [2, 3, 7, 8, 10, 12, 13, 14, 15, 16] (.cons f8_law (.fgt [12, 16] (.cons s6_law (.cons s5_law (.cons s4_law (.cons s3_law (.fgt [14] (.cons s1_law (.fgt [2, 3, 4, 5, 6, 7, 8, 9, 10, 11, 12, 13, 14, 15, 16] .nil))))))))))))))))))))
  rw [e1]
  obtain ⟨_, e2⟩ := p2 (nums := nums) (n := n1) d (some x2) (sgnD [M.A, M.B, M.C]) (.cons s13_law (.cons s11_law (.cons s10_law (.fgt [2, 3, 7, 8, 10, 12, 13, 14, 15, 16] (.cons f8_law (.fgt [12, 16] (.cons s6_law (.cons s5_law (.cons s4_law (.cons s3_law (.fgt [14] (.cons s1_law (.fgt [2, 3, 4, 5, 6, 7, 8, 9, 10, 11, 12, 13, 14, 15, 16] .nil)))))))))))))
  rw [e2, seq_nx (p3 d (some x2) (some (madeD M w)) (sgnD [M.A, M.B, M.C]) (.str (keptS M w)) (.bl (isW w)))]
  obtain ⟨ps, n2, b1, b2, b3, b4, e4⟩ := p4a (nums := nums) (n := n1) d (some x2) (some (sgnD [M.A, M.B, M.C])) (some (.bl (isW w))) (some (goodD M w)) (some (dueD M w)) (.str (keptS M w)) (by omega) (S (by omega) (by omega)) (.fgt [2, 3, 7, 8, 10, 12, 13, 14, 15, 16] (.cons f8_law (.fgt [12, 16] (.cons s6_law (.cons s5_law (.cons s4_law (.cons s3_law (.fgt [14] (.cons s1_law (.fgt [2, 3, 4, 5, 6, 7, 8, 9, 10, 11, 12, 13, 14, 15, 16] .nil))))))))))
  rw [e4, evSs_fgt]
  simp only [clear_cons, clear_nil, List.set_cons_succ, List.set_cons_zero]
  rw [seq_nx (p4l (nums := nums) (n := n2) d (.str (keptS M w)) b1 b2), evSs_fgt]
  simp only [clear_cons, clear_nil, List.set_cons_succ, List.set_cons_zero]
  obtain ⟨x13, e5⟩ := p5 (nums := nums) (n := n2) d (some (wd w)) (some (.str (keptS M w))) (some (madeD M w)) (some (.lst false (ps.map papD))) (by omega) (S (by omega) (by omega)) (.cons s1_law (.fgt [2, 3, 4, 5, 6, 7, 8, 9, 10, 11, 12, 13, 14, 15, 16] .nil))
  rw [e5, seq_nx (p6 (nums := nums) (n := n2 + 3) d (some (madeD M w)) (some (.lst false (ps.map papD))) (some x13) (some (wd [(("=", "A") : Sg)]))), evSs_fgt]
  simp only [clear_cons, clear_nil, List.set_cons_succ, List.set_cons_zero, evSs_nil]
  exact ⟨n2 + 3, by omega, by omega, rfl⟩
end
theorem law_holds (ns : List Int) : runDef G [] b_law 18 1 [.ext (ns.map .int)] = .ret (.bl true) [] := by
  obtain ⟨nums, c601, h1, h2⟩ := c_law_stream ns
  have L := for_any (G := G) (io := []) (tg := .nm 2) (b := b24_law) (it := .rng (.cons (.cst (.int 8)) .nil)) (env := [none, some (stD nums 0), none, none, none, none, none, none, none, none, none, none, none, none, none, none, none, none]) (l := (List.range 8).map fun (k : Nat) => D.int k)
    (fun j e => ∃ n : Int, e = [none, some (stD nums n), none, none, none, none, none, none, none, none, none, none, none, none, none, none, none, none] ∧ 0 ≤ n ∧ n ≤ 600 * j) (fun e => ∃ n : Int, e = [none, some (stD nums n), none, none, none, none, none, none, none, none, none, none, none, none, none, none, none, none])
    (by have := rng_nat (n := 8) (by omega); simp at this; simp [this]) (fun j x e hx ⟨n, he, q1, q2⟩ => by
      subst he
      have hj := (List.getElem?_eq_some_iff.mp hx).1
      simp at hj
      have hx0 : noPlc x = true := by
        obtain ⟨q, e⟩ := List.getElem?_eq_some_iff.mp hx
        simp at e
        rw [← e]; rfl
      obtain ⟨n', b1, b2, e⟩ := turn q1 (stOk_of h1 h2 (by omega) (by omega) : stOk nums (n + 2000) = true) x
      exact ⟨.nx, _, by simp only [asgT_nm, asgNm_def, hx0, List.contains_nil, Bool.not_false, Bool.and_self, List.length_cons, List.length_nil]; exact e, .inl ⟨rfl, n', rfl, by omega, by omega⟩⟩)
    (fun e ⟨n, he, _, _⟩ => ⟨n, he⟩) ⟨0, rfl, by omega, by omega⟩
  obtain ⟨e', e1, n, rfl⟩ := L
  have e25 : evS G [] f25_law [none, some (stD nums 0), none, none, none, none, none, none, none, none, none, none, none, none, none, none, none, none] = _ := e1
  have std : stD nums 0 = .lst true [.lst false (nums.map .int), .int 0] := rfl
  rw [std] at e25
  have fx : (D.ext (ns.map .int)).fz = .ext (ns.map .int) := by simp
  have ini : runDef G [] b_law 18 1 [.ext (ns.map .int)] = ends [] 1 (evSs G [] b_law [some (.ext (ns.map .int)), none, none, none, none, none, none, none, none, none, none, none, none, none, none, none, none, none]) := by simp [runDef]
  rw [ini]
  simp [b_law, c601, e25]
end NW


set_option Elab.async false
set_option linter.all false
set_option maxRecDepth 100000
set_option maxHeartbeats 0
namespace NW
open PySem PySem.Spec PyProof.Rows L2 DD
section
variable {P : Program} {w : World} {K : PySem.W.Frag} {h base : Heap} {mg : Str → Option Value} {f : Addr}
theorem modx (X : K.In h) (Gn : h.Ns mainGlobals mg) (c : He.SaysD fa fn K) : ModX K mg G := by
  refine ⟨fun x hx => ?_, fun i d e => ?_, fun k x b e => ?_⟩
  · have m : (He.Fa.free x) ∈ fa := List.mem_append_right _ (List.mem_map_of_mem hx)
    obtain ⟨i, hi, e⟩ := List.mem_iff_getElem.mp m
    exact He.free_ok X Gn (c.fact i (f := .free x) (by rw [List.getElem?_eq_getElem hi, e]))
  · have e0 : ([(10, .int 10), (11, .int 3), (12, .int 200), (14, .str "<"), (15, .str "="), (16, .str ">"), (17, .str "abcdefghijklmnopqrstuvwxyz"), (18, .str "abcdefghijklmnopqrstuvwxyz0123456789"), (19, .int 8), (20, .int 8)] : List (Nat × D)).lookup i = some d := e
    simp only [List.lookup_cons, List.lookup_nil] at e0
    split at e0
    · rename_i q
      obtain rfl := eq_of_beq q
      cases e0; exact cst_int (He.int_ok X Gn (c.fact 6 (f := .int "MAX_LABEL" 10) rfl))
    split at e0
    · rename_i q
      obtain rfl := eq_of_beq q
      cases e0; exact cst_int (He.int_ok X Gn (c.fact 7 (f := .int "MAX_OF_SORT" 3) rfl))
    split at e0
    · rename_i q
      obtain rfl := eq_of_beq q
      cases e0; exact cst_int (He.int_ok X Gn (c.fact 8 (f := .int "MAX_WORD" 200) rfl))
    split at e0
    · rename_i q
      obtain rfl := eq_of_beq q
      cases e0; exact cst_str (by decide +kernel) (He.str_ok X Gn (c.fact 9 (f := .str "CALL" "<") rfl))
    split at e0
    · rename_i q
      obtain rfl := eq_of_beq q
      cases e0; exact cst_str (by decide +kernel) (He.str_ok X Gn (c.fact 10 (f := .str "STAY" "=") rfl))
    split at e0
    · rename_i q
      obtain rfl := eq_of_beq q
      cases e0; exact cst_str (by decide +kernel) (He.str_ok X Gn (c.fact 11 (f := .str "BACK" ">") rfl))
    split at e0
    · rename_i q
      obtain rfl := eq_of_beq q
      cases e0; exact cst_str (by decide +kernel) (He.str_ok X Gn (c.fact 12 (f := .str "FIRST" "abcdefghijklmnopqrstuvwxyz") rfl))
    split at e0
    · rename_i q
      obtain rfl := eq_of_beq q
      cases e0; exact cst_str (by decide +kernel) (He.str_ok X Gn (c.fact 13 (f := .str "LATER" "abcdefghijklmnopqrstuvwxyz0123456789") rfl))
    split at e0
    · rename_i q
      obtain rfl := eq_of_beq q
      cases e0; exact cst_int (He.int_ok X Gn (c.fact 14 (f := .int "MAX_STATES" 8) rfl))
    split at e0
    · rename_i q
      obtain rfl := eq_of_beq q
      cases e0; exact cst_int (He.int_ok X Gn (c.fact 15 (f := .int "MAX_MARKS" 8) rfl))
    cases e0
  · have e0 : (subT.find? fun p => p.1 == k && p.2.1 == x).map (·.2.2) = some b := e
    obtain ⟨p, hp, rfl⟩ := Option.map_eq_some_iff.mp e0
    have hm := List.mem_of_find?_eq_some hp
    have hq := List.find?_some hp
    rw [Bool.and_eq_true, beq_iff_eq, beq_iff_eq] at hq
    obtain ⟨rfl, rfl⟩ := hq
    have key : ∀ p ∈ subT, ∃ Ck Cx : Addr, mg (G.nm p.1) = some (.ref Ck) ∧ mg (G.nm p.2.1) = some (.ref Cx) ∧ PySem.W.exmOne K (.ref Ck) (.ref Cx) = some p.2.2 := by
      intro p hp
      simp only [subT, List.mem_cons, List.not_mem_nil, or_false] at hp
      rcases hp with rfl | rfl | rfl | rfl | rfl | rfl | rfl | rfl | rfl | rfl | rfl | rfl | rfl | rfl | rfl | rfl | rfl | rfl | rfl | rfl | rfl | rfl | rfl | rfl | rfl
      · exact ⟨_, _, He.glo_ok X Gn (c.fact 0 (f := .glo "NestError") rfl), He.glo_ok X Gn (c.fact 0 (f := .glo "NestError") rfl), He.exm_ok (c.fact 54 (f := .exm "NestError" "NestError" true) rfl)⟩
      · exact ⟨_, _, He.glo_ok X Gn (c.fact 0 (f := .glo "NestError") rfl), He.glo_ok X Gn (c.fact 1 (f := .glo "NotAllowed") rfl), He.exm_ok (c.fact 55 (f := .exm "NestError" "NotAllowed" false) rfl)⟩
      · exact ⟨_, _, He.glo_ok X Gn (c.fact 0 (f := .glo "NestError") rfl), He.glo_ok X Gn (c.fact 2 (f := .glo "TooLarge") rfl), He.exm_ok (c.fact 56 (f := .exm "NestError" "TooLarge" false) rfl)⟩
      · exact ⟨_, _, He.glo_ok X Gn (c.fact 0 (f := .glo "NestError") rfl), He.glo_ok X Gn (c.fact 3 (f := .glo "Missing") rfl), He.exm_ok (c.fact 57 (f := .exm "NestError" "Missing" false) rfl)⟩
      · exact ⟨_, _, He.glo_ok X Gn (c.fact 0 (f := .glo "NestError") rfl), He.glo_ok X Gn (c.fact 4 (f := .glo "BadPaper") rfl), He.exm_ok (c.fact 58 (f := .exm "NestError" "BadPaper" false) rfl)⟩
      · exact ⟨_, _, He.glo_ok X Gn (c.fact 1 (f := .glo "NotAllowed") rfl), He.glo_ok X Gn (c.fact 0 (f := .glo "NestError") rfl), He.exm_ok (c.fact 59 (f := .exm "NotAllowed" "NestError" true) rfl)⟩
      · exact ⟨_, _, He.glo_ok X Gn (c.fact 1 (f := .glo "NotAllowed") rfl), He.glo_ok X Gn (c.fact 1 (f := .glo "NotAllowed") rfl), He.exm_ok (c.fact 60 (f := .exm "NotAllowed" "NotAllowed" true) rfl)⟩
      · exact ⟨_, _, He.glo_ok X Gn (c.fact 1 (f := .glo "NotAllowed") rfl), He.glo_ok X Gn (c.fact 2 (f := .glo "TooLarge") rfl), He.exm_ok (c.fact 61 (f := .exm "NotAllowed" "TooLarge" false) rfl)⟩
      · exact ⟨_, _, He.glo_ok X Gn (c.fact 1 (f := .glo "NotAllowed") rfl), He.glo_ok X Gn (c.fact 3 (f := .glo "Missing") rfl), He.exm_ok (c.fact 62 (f := .exm "NotAllowed" "Missing" false) rfl)⟩
      · exact ⟨_, _, He.glo_ok X Gn (c.fact 1 (f := .glo "NotAllowed") rfl), He.glo_ok X Gn (c.fact 4 (f := .glo "BadPaper") rfl), He.exm_ok (c.fact 63 (f := .exm "NotAllowed" "BadPaper" false) rfl)⟩
      · exact ⟨_, _, He.glo_ok X Gn (c.fact 2 (f := .glo "TooLarge") rfl), He.glo_ok X Gn (c.fact 0 (f := .glo "NestError") rfl), He.exm_ok (c.fact 64 (f := .exm "TooLarge" "NestError" true) rfl)⟩
      · exact ⟨_, _, He.glo_ok X Gn (c.fact 2 (f := .glo "TooLarge") rfl), He.glo_ok X Gn (c.fact 1 (f := .glo "NotAllowed") rfl), He.exm_ok (c.fact 65 (f := .exm "TooLarge" "NotAllowed" false) rfl)⟩
      · exact ⟨_, _, He.glo_ok X Gn (c.fact 2 (f := .glo "TooLarge") rfl), He.glo_ok X Gn (c.fact 2 (f := .glo "TooLarge") rfl), He.exm_ok (c.fact 66 (f := .exm "TooLarge" "TooLarge" true) rfl)⟩
      · exact ⟨_, _, He.glo_ok X Gn (c.fact 2 (f := .glo "TooLarge") rfl), He.glo_ok X Gn (c.fact 3 (f := .glo "Missing") rfl), He.exm_ok (c.fact 67 (f := .exm "TooLarge" "Missing" false) rfl)⟩
      · exact ⟨_, _, He.glo_ok X Gn (c.fact 2 (f := .glo "TooLarge") rfl), He.glo_ok X Gn (c.fact 4 (f := .glo "BadPaper") rfl), He.exm_ok (c.fact 68 (f := .exm "TooLarge" "BadPaper" false) rfl)⟩
      · exact ⟨_, _, He.glo_ok X Gn (c.fact 3 (f := .glo "Missing") rfl), He.glo_ok X Gn (c.fact 0 (f := .glo "NestError") rfl), He.exm_ok (c.fact 69 (f := .exm "Missing" "NestError" true) rfl)⟩
      · exact ⟨_, _, He.glo_ok X Gn (c.fact 3 (f := .glo "Missing") rfl), He.glo_ok X Gn (c.fact 1 (f := .glo "NotAllowed") rfl), He.exm_ok (c.fact 70 (f := .exm "Missing" "NotAllowed" false) rfl)⟩
      · exact ⟨_, _, He.glo_ok X Gn (c.fact 3 (f := .glo "Missing") rfl), He.glo_ok X Gn (c.fact 2 (f := .glo "TooLarge") rfl), He.exm_ok (c.fact 71 (f := .exm "Missing" "TooLarge" false) rfl)⟩
      · exact ⟨_, _, He.glo_ok X Gn (c.fact 3 (f := .glo "Missing") rfl), He.glo_ok X Gn (c.fact 3 (f := .glo "Missing") rfl), He.exm_ok (c.fact 72 (f := .exm "Missing" "Missing" true) rfl)⟩
      · exact ⟨_, _, He.glo_ok X Gn (c.fact 3 (f := .glo "Missing") rfl), He.glo_ok X Gn (c.fact 4 (f := .glo "BadPaper") rfl), He.exm_ok (c.fact 73 (f := .exm "Missing" "BadPaper" false) rfl)⟩
      · exact ⟨_, _, He.glo_ok X Gn (c.fact 4 (f := .glo "BadPaper") rfl), He.glo_ok X Gn (c.fact 0 (f := .glo "NestError") rfl), He.exm_ok (c.fact 74 (f := .exm "BadPaper" "NestError" true) rfl)⟩
      · exact ⟨_, _, He.glo_ok X Gn (c.fact 4 (f := .glo "BadPaper") rfl), He.glo_ok X Gn (c.fact 1 (f := .glo "NotAllowed") rfl), He.exm_ok (c.fact 75 (f := .exm "BadPaper" "NotAllowed" false) rfl)⟩
      · exact ⟨_, _, He.glo_ok X Gn (c.fact 4 (f := .glo "BadPaper") rfl), He.glo_ok X Gn (c.fact 2 (f := .glo "TooLarge") rfl), He.exm_ok (c.fact 76 (f := .exm "BadPaper" "TooLarge" false) rfl)⟩
      · exact ⟨_, _, He.glo_ok X Gn (c.fact 4 (f := .glo "BadPaper") rfl), He.glo_ok X Gn (c.fact 3 (f := .glo "Missing") rfl), He.exm_ok (c.fact 77 (f := .exm "BadPaper" "Missing" false) rfl)⟩
      · exact ⟨_, _, He.glo_ok X Gn (c.fact 4 (f := .glo "BadPaper") rfl), He.glo_ok X Gn (c.fact 4 (f := .glo "BadPaper") rfl), He.exm_ok (c.fact 78 (f := .exm "BadPaper" "BadPaper" true) rfl)⟩
    exact key p hm
theorem exms (X : K.In h) (Gn : h.Ns mainGlobals mg) (cb : fb K = true) (c : He.SaysD fa fn K) : ∀ x, decide (x < 5) = true → ExM K mg G x := by
  intro x hx
  unfold fb at cb
  rw [Bool.and_eq_true] at cb
  match x, hx with
  | 0, _ => exact rsB_ok (x := "NestError") rfl (He.glo_ok X Gn (c.fact 0 (f := .glo "NestError") rfl)) cb.2
  | 1, _ => exact rsB_ok (x := "NotAllowed") rfl (He.glo_ok X Gn (c.fact 1 (f := .glo "NotAllowed") rfl)) (lawB_at cb.1 (by decide +kernel)).1
  | 2, _ => exact rsB_ok (x := "TooLarge") rfl (He.glo_ok X Gn (c.fact 2 (f := .glo "TooLarge") rfl)) (lawB_at cb.1 (by decide +kernel)).1
  | 3, _ => exact rsB_ok (x := "Missing") rfl (He.glo_ok X Gn (c.fact 3 (f := .glo "Missing") rfl)) (lawB_at cb.1 (by decide +kernel)).1
  | 4, _ => exact rsB_ok (x := "BadPaper") rfl (He.glo_ok X Gn (c.fact 4 (f := .glo "BadPaper") rfl)) (lawB_at cb.1 (by decide +kernel)).1
  | n + 5, hx => exact absurd (of_decide_eq_true hx) (by omega)
theorem kit5 (X : K.In h) (Gn : h.Ns mainGlobals mg) (cb : fb K = true) (c : He.SaysD fa fn K) {x : Str} (hx : x ∈ (["NotAllowed", "TooLarge", "Missing", "BadPaper"] : List Str)) : ∀ (j : Nat) y b, ys[j]? = some y → (ys.map fun y => x == y)[j]? = some b → ∃ Ca, mg y = some (.ref Ca) ∧ PySem.W.kitOne K (.ref (He.ga K x)) (.ref Ca) = some b := by
  unfold fb at cb
  rw [Bool.and_eq_true] at cb
  have z := (lawB_at cb.1 hx).2.2
  intro j y b hy hb
  rw [List.getElem?_map, hy] at hb
  cases hb
  refine ⟨He.ga K y, ?_, isB_ok (z y (List.mem_of_getElem? hy))⟩
  match j, hy with
  | 0, hy => cases hy; exact He.glo_ok X Gn (c.fact 1 (f := .glo "NotAllowed") rfl)
  | 1, hy => cases hy; exact He.glo_ok X Gn (c.fact 2 (f := .glo "TooLarge") rfl)
  | 2, hy => cases hy; exact He.glo_ok X Gn (c.fact 3 (f := .glo "Missing") rfl)
  | 3, hy => cases hy; exact He.glo_ok X Gn (c.fact 4 (f := .glo "BadPaper") rfl)
  | 4, hy => cases hy; exact He.glo_ok X Gn (c.fact 5 (f := .glo "BadForm") rfl)
  | n + 5, hy => cases hy
abbrev wsE : List Str := ["refused", "large", "missing", "paper", "form"]
theorem word1 : leWord G (ys.map fun y => ("NotAllowed" : Str) == y) wsE = some "refused" := by kernel_rfl
theorem word2 : leWord G (ys.map fun y => ("TooLarge" : Str) == y) wsE = some "large" := by kernel_rfl
theorem word3 : leWord G (ys.map fun y => ("Missing" : Str) == y) wsE = some "missing" := by kernel_rfl
theorem word4 : leWord G (ys.map fun y => ("BadPaper" : Str) == y) wsE = some "paper" := by kernel_rfl
theorem lems (X : K.In h) (Gn : h.Ns mainGlobals mg) (cb : fb K = true) (c : He.SaysD fa fn K) : ∀ x j d, G.le x j = some d → LeM P w K mg base G x j d 1 := by
  have M := modx X Gn c
  obtain ⟨fd, F⟩ := c.def_ 16 (d := D_law_error) rfl
  have b : Binds K fd ["e"] [] := F.bindsN fun _ _ _ _ _ _ us hl => match us, hl with | [_], _ => rfl
  have cb2 := cb
  unfold fb at cb2
  rw [Bool.and_eq_true] at cb2
  intro x j d e
  have e' : leOf x j = some d := e
  unfold leOf at e'
  by_cases hx : x = 0
  · subst hx
    rw [if_pos rfl] at e'
    by_cases h1 : j = 1
    · subst h1
      rw [if_pos rfl] at e'
      cases e'
      exact ⟨_, _, _, _, fd, 1, Nat.le_refl _, rfl, by decide +kernel, He.glo_ok X Gn (c.fact 0 (f := .glo "NestError") rfl), He.glo_ok X Gn (c.fact 1 (f := .glo "NotAllowed") rfl), He.exm_ok (c.fact 59 (f := .exm "NotAllowed" "NestError" true) rfl), He.glo_ok X Gn (c.fact 32 (f := .glo "_law_error") rfl), F.kp, b,
        fnE_of F sc_law_error M (excB_ok (lawB_at cb2.1 (by decide +kernel)).2.1) rfl (by decide +kernel) (kit5 X Gn cb c (by decide +kernel)) ck_law_error word1⟩
    · rw [if_neg h1] at e'
      by_cases h2 : j = 2
      · subst h2
        rw [if_pos rfl] at e'
        cases e'
        exact ⟨_, _, _, _, fd, 1, Nat.le_refl _, rfl, by decide +kernel, He.glo_ok X Gn (c.fact 0 (f := .glo "NestError") rfl), He.glo_ok X Gn (c.fact 2 (f := .glo "TooLarge") rfl), He.exm_ok (c.fact 64 (f := .exm "TooLarge" "NestError" true) rfl), He.glo_ok X Gn (c.fact 32 (f := .glo "_law_error") rfl), F.kp, b,
          fnE_of F sc_law_error M (excB_ok (lawB_at cb2.1 (by decide +kernel)).2.1) rfl (by decide +kernel) (kit5 X Gn cb c (by decide +kernel)) ck_law_error word2⟩
      · rw [if_neg h2] at e'
        by_cases h3 : j = 3
        · subst h3
          rw [if_pos rfl] at e'
          cases e'
          exact ⟨_, _, _, _, fd, 1, Nat.le_refl _, rfl, by decide +kernel, He.glo_ok X Gn (c.fact 0 (f := .glo "NestError") rfl), He.glo_ok X Gn (c.fact 3 (f := .glo "Missing") rfl), He.exm_ok (c.fact 69 (f := .exm "Missing" "NestError" true) rfl), He.glo_ok X Gn (c.fact 32 (f := .glo "_law_error") rfl), F.kp, b,
            fnE_of F sc_law_error M (excB_ok (lawB_at cb2.1 (by decide +kernel)).2.1) rfl (by decide +kernel) (kit5 X Gn cb c (by decide +kernel)) ck_law_error word3⟩
        · rw [if_neg h3] at e'
          by_cases h4 : j = 4
          · subst h4
            rw [if_pos rfl] at e'
            cases e'
            exact ⟨_, _, _, _, fd, 1, Nat.le_refl _, rfl, by decide +kernel, He.glo_ok X Gn (c.fact 0 (f := .glo "NestError") rfl), He.glo_ok X Gn (c.fact 4 (f := .glo "BadPaper") rfl), He.exm_ok (c.fact 74 (f := .exm "BadPaper" "NestError" true) rfl), He.glo_ok X Gn (c.fact 32 (f := .glo "_law_error") rfl), F.kp, b,
              fnE_of F sc_law_error M (excB_ok (lawB_at cb2.1 (by decide +kernel)).2.1) rfl (by decide +kernel) (kit5 X Gn cb c (by decide +kernel)) ck_law_error word4⟩
          · rw [if_neg h4] at e'
            cases e'
  · rw [if_neg hx] at e'
    cases e'
theorem facts (X : K.In h) (Gn : h.Ns mainGlobals mg) (hfa : mg ("law" : Str) = some (.ref f)) (cb : fb K = true) (c : He.SaysD fa fn K) :
    ∃ fd : FuncData, (∀ (s : Shared) (v : Value), BindsTo s fd ⟨[v], []⟩ [("script", v)]) ∧ ∀ base : Heap, K.In base → base.Ns mainGlobals mg → FnG P w K mg base 60 f fd ["script"] (spF K mg G [] 1 (runDef G [] b_law 18 1)) := by
  obtain ⟨_, F100⟩ := c.def_ 0 (d := D_is_label) rfl
  obtain ⟨_, F101⟩ := c.def_ 1 (d := D_rising) rfl
  obtain ⟨_, F102⟩ := c.def_ 2 (d := D_check_signs) rfl
  obtain ⟨_, F103⟩ := c.def_ 3 (d := D_sorted_signs) rfl
  obtain ⟨_, F104⟩ := c.def_ 4 (d := D_check_word) rfl
  obtain ⟨_, F105⟩ := c.def_ 5 (d := D_check_of) rfl
  obtain ⟨_, F106⟩ := c.def_ 6 (d := D_heights) rfl
  obtain ⟨_, F107⟩ := c.def_ 7 (d := D_is_known_whole) rfl
  obtain ⟨_, F108⟩ := c.def_ 8 (d := D_check_whole) rfl
  obtain ⟨_, F116⟩ := c.def_ 9 (d := D_check_row) rfl
  obtain ⟨_, F115⟩ := c.def_ 10 (d := D_check_machine) rfl
  obtain ⟨_, F117⟩ := c.def_ 11 (d := D_moved) rfl
  obtain ⟨_, F118⟩ := c.def_ 12 (d := D_led) rfl
  obtain ⟨_, F119⟩ := c.def_ 13 (d := D_is_good) rfl
  obtain ⟨_, F120⟩ := c.def_ 14 (d := D_trace) rfl
  obtain ⟨_, F121⟩ := c.def_ 15 (d := D_check_trace) rfl
  obtain ⟨_, F614⟩ := c.def_ 17 (d := D_law_behind) rfl
  obtain ⟨_, F602⟩ := c.def_ 18 (d := D_law_next) rfl
  obtain ⟨_, F601⟩ := c.def_ 19 (d := D_law_stream) rfl
  obtain ⟨_, F603⟩ := c.def_ 20 (d := D_law_signs) rfl
  obtain ⟨_, F615⟩ := c.def_ 21 (d := D_law_machine) rfl
  obtain ⟨_, F616⟩ := c.def_ 22 (d := D_law_word) rfl
  obtain ⟨_, F604⟩ := c.def_ 23 (d := D_law_all_signs) rfl
  obtain ⟨_, F617⟩ := c.def_ 24 (d := D_law_any_word) rfl
  obtain ⟨_, F607⟩ := c.def_ 25 (d := D_law_heights) rfl
  obtain ⟨_, F608⟩ := c.def_ 26 (d := D_law_is_whole) rfl
  obtain ⟨_, F618⟩ := c.def_ 27 (d := D_law_led) rfl
  obtain ⟨_, F619⟩ := c.def_ 28 (d := D_law_good) rfl
  obtain ⟨_, F606⟩ := c.def_ 29 (d := D_law_same) rfl
  obtain ⟨_, F620⟩ := c.def_ 30 (d := D_law_odd_machine) rfl
  obtain ⟨_, F609⟩ := c.def_ 31 (d := D_law_is_label) rfl
  obtain ⟨_, F610⟩ := c.def_ 32 (d := D_law_signs_due) rfl
  obtain ⟨_, F621⟩ := c.def_ 33 (d := D_law_machine_due) rfl
  obtain ⟨_, F611⟩ := c.def_ 34 (d := D_law_told) rfl
  obtain ⟨_, F622⟩ := c.def_ 35 (d := D_law_trace) rfl
  obtain ⟨_, F623⟩ := c.def_ 36 (d := D_law_bent) rfl
  obtain ⟨fd, F613⟩ := c.def_ 37 (d := D_law) rfl
  have e := hfa.symm.trans (He.glo_ok X Gn (c.fact 53 (f := .glo "law") rfl))
  cases e
  have b := FunD.bindsA (ps := ["script"]) F613 fun _ _ _ _ _ _ us hl => match us, hl with | [_], _ => rfl
  refine ⟨fd, fun s v => b s [v] rfl, fun base _ _ => ?_⟩
  have M := modx X Gn c
  have E := exms X Gn cb c
  have L : ∀ (k : Nat), 1 ≤ k → (true = true → ∀ x j d, G.le x j = some d → LeM P w K mg base G x j d k) := fun k hk _ x j d e => (lems X Gn cb c x j d e).mono hk
  have N : ∀ (k : Nat), (false = true → ∀ x j d, G.le x j = some d → LeM P w K mg base G x j d k) := fun k z => Bool.noConfusion z
  have A0 : FnS P w K mg base G [] 1 := FnS.nil
  have A1 : FnS P w K mg base G [100] 2 := A0.add fx_is_label (fn_chk (df := d_is_label) (fi := 100) A0 E (N 1) F100 sc_is_label M rfl ck_is_label (fun _ _ => rfl) (He.glo_ok X Gn (c.fact 16 (f := .glo "is_label") rfl)) (F100.bindsN fun _ _ _ _ _ _ us hl => match us, hl with | [_], _ => rfl))
  have A2 : FnS P w K mg base G [100, 101] 3 := A1.add fx_rising (fn_chk (df := d_rising) (fi := 101) A1 E (N 2) F101 sc_rising M rfl ck_rising (fun _ _ => rfl) (He.glo_ok X Gn (c.fact 17 (f := .glo "rising") rfl)) (F101.bindsN fun _ _ _ _ _ _ us hl => match us, hl with | [_], _ => rfl))
  have A3 : FnS P w K mg base G [100, 101, 102] 4 := A2.add fx_check_signs (fn_chk (df := d_check_signs) (fi := 102) A2 E (N 3) F102 sc_check_signs M rfl ck_check_signs (fun _ _ => rfl) (He.glo_ok X Gn (c.fact 18 (f := .glo "check_signs") rfl)) (F102.bindsN fun _ _ _ _ _ _ us hl => match us, hl with | [_], _ => rfl))
  have A4 : FnS P w K mg base G [100, 101, 102, 103] 5 := A3.add fx_sorted_signs (fn_chk (df := d_sorted_signs) (fi := 103) A3 E (N 4) F103 sc_sorted_signs M rfl ck_sorted_signs (fun _ _ => rfl) (He.glo_ok X Gn (c.fact 19 (f := .glo "sorted_signs") rfl)) (F103.bindsN fun _ _ _ _ _ _ us hl => match us, hl with | [_], _ => rfl))
  have A5 : FnS P w K mg base G [100, 101, 102, 103, 104] 6 := A4.add fx_check_word (fn_chk (df := d_check_word) (fi := 104) A4 E (N 5) F104 sc_check_word M rfl ck_check_word (fun _ _ => rfl) (He.glo_ok X Gn (c.fact 20 (f := .glo "check_word") rfl)) (F104.bindsN fun _ _ _ _ _ _ us hl => match us, hl with | [_], _ => rfl))
  have A6 : FnS P w K mg base G [100, 101, 102, 103, 104, 105] 7 := A5.add fx_check_of (fn_chk (df := d_check_of) (fi := 105) A5 E (N 6) F105 sc_check_of M rfl ck_check_of (fun _ _ => rfl) (He.glo_ok X Gn (c.fact 21 (f := .glo "check_of") rfl)) (F105.bindsN fun _ _ _ _ _ _ us hl => match us, hl with | [_, _], _ => rfl))
  have A7 : FnS P w K mg base G [100, 101, 102, 103, 104, 105, 106] 8 := A6.add fx_heights (fn_chk (df := d_heights) (fi := 106) A6 E (N 7) F106 sc_heights M rfl ck_heights (fun _ _ => rfl) (He.glo_ok X Gn (c.fact 22 (f := .glo "heights") rfl)) (F106.bindsN fun _ _ _ _ _ _ us hl => match us, hl with | [_], _ => rfl))
  have A8 : FnS P w K mg base G [100, 101, 102, 103, 104, 105, 106, 107] 9 := A7.add fx_is_known_whole (fn_chk (df := d_is_known_whole) (fi := 107) A7 E (N 8) F107 sc_is_known_whole M rfl ck_is_known_whole (fun _ _ => rfl) (He.glo_ok X Gn (c.fact 23 (f := .glo "is_known_whole") rfl)) (F107.bindsN fun _ _ _ _ _ _ us hl => match us, hl with | [_], _ => rfl))
  have A9 : FnS P w K mg base G [100, 101, 102, 103, 104, 105, 106, 107, 108] 10 := A8.add fx_check_whole (fn_chk (df := d_check_whole) (fi := 108) A8 E (N 9) F108 sc_check_whole M rfl ck_check_whole (fun _ _ => rfl) (He.glo_ok X Gn (c.fact 24 (f := .glo "check_whole") rfl)) (F108.bindsN fun _ _ _ _ _ _ us hl => match us, hl with | [_, _], _ => rfl))
  have A10 : FnS P w K mg base G [100, 101, 102, 103, 104, 105, 106, 107, 108, 116] 11 := A9.add fx_check_row (fn_chk (df := d_check_row) (fi := 116) A9 E (N 10) F116 sc_check_row M rfl ck_check_row (fun _ _ => rfl) (He.glo_ok X Gn (c.fact 26 (f := .glo "check_row") rfl)) (F116.bindsN fun _ _ _ _ _ _ us hl => match us, hl with | [_, _, _, _], _ => rfl))
  have A11 : FnS P w K mg base G [100, 101, 102, 103, 104, 105, 106, 107, 108, 116, 115] 12 := A10.add fx_check_machine (fn_chk (df := d_check_machine) (fi := 115) A10 E (N 11) F115 sc_check_machine M rfl ck_check_machine (fun _ _ => rfl) (He.glo_ok X Gn (c.fact 25 (f := .glo "check_machine") rfl)) (F115.bindsN fun _ _ _ _ _ _ us hl => match us, hl with | [_], _ => rfl))
  have A12 : FnS P w K mg base G [100, 101, 102, 103, 104, 105, 106, 107, 108, 116, 115, 117] 13 := A11.add fx_moved (fn_chk (df := d_moved) (fi := 117) A11 E (N 12) F117 sc_moved M rfl ck_moved (fun _ _ => rfl) (He.glo_ok X Gn (c.fact 27 (f := .glo "moved") rfl)) (F117.bindsN fun _ _ _ _ _ _ us hl => match us, hl with | [_, _, _], _ => rfl))
  have A13 : FnS P w K mg base G [100, 101, 102, 103, 104, 105, 106, 107, 108, 116, 115, 117, 118] 14 := A12.add fx_led (fn_chk (df := d_led) (fi := 118) A12 E (N 13) F118 sc_led M rfl ck_led (fun _ _ => rfl) (He.glo_ok X Gn (c.fact 28 (f := .glo "led") rfl)) (F118.bindsN fun _ _ _ _ _ _ us hl => match us, hl with | [_, _, _], _ => rfl))
  have A14 : FnS P w K mg base G [100, 101, 102, 103, 104, 105, 106, 107, 108, 116, 115, 117, 118, 119] 15 := A13.add fx_is_good (fn_chk (df := d_is_good) (fi := 119) A13 E (N 14) F119 sc_is_good M rfl ck_is_good (fun _ _ => rfl) (He.glo_ok X Gn (c.fact 29 (f := .glo "is_good") rfl)) (F119.bindsN fun _ _ _ _ _ _ us hl => match us, hl with | [_, _], _ => rfl))
  have A15 : FnS P w K mg base G [100, 101, 102, 103, 104, 105, 106, 107, 108, 116, 115, 117, 118, 119, 120] 16 := A14.add fx_trace (fn_chk (df := d_trace) (fi := 120) A14 E (N 15) F120 sc_trace M rfl ck_trace (fun _ _ => rfl) (He.glo_ok X Gn (c.fact 30 (f := .glo "trace") rfl)) (F120.bindsN fun _ _ _ _ _ _ us hl => match us, hl with | [_, _], _ => rfl))
  have A16 : FnS P w K mg base G [100, 101, 102, 103, 104, 105, 106, 107, 108, 116, 115, 117, 118, 119, 120, 121] 17 := A15.add fx_check_trace (fn_chk (df := d_check_trace) (fi := 121) A15 E (N 16) F121 sc_check_trace M rfl ck_check_trace (fun _ _ => rfl) (He.glo_ok X Gn (c.fact 31 (f := .glo "check_trace") rfl)) (F121.bindsN fun _ _ _ _ _ _ us hl => match us, hl with | [_, _, _], _ => rfl))
  have A17 : FnS P w K mg base G [100, 101, 102, 103, 104, 105, 106, 107, 108, 116, 115, 117, 118, 119, 120, 121, 614] 18 := A16.add fx_law_behind (fn_chk (df := d_law_behind) (fi := 614) A16 E (L 17 (by omega)) F614 sc_law_behind M rfl ck_law_behind (fun _ _ => rfl) (He.glo_ok X Gn (c.fact 33 (f := .glo "_law_behind") rfl)) (F614.bindsN fun _ _ _ _ _ _ us hl => match us, hl with | [_, _, _], _ => rfl))
  have A18 : FnS P w K mg base G [100, 101, 102, 103, 104, 105, 106, 107, 108, 116, 115, 117, 118, 119, 120, 121, 614, 602] 19 := A17.add fx_law_next (fn_chk (df := d_law_next) (fi := 602) A17 E (L 18 (by omega)) F602 sc_law_next M rfl ck_law_next (fun _ _ => rfl) (He.glo_ok X Gn (c.fact 34 (f := .glo "_law_next") rfl)) (F602.bindsN fun _ _ _ _ _ _ us hl => match us, hl with | [_, _], _ => rfl))
  have A19 : FnS P w K mg base G [100, 101, 102, 103, 104, 105, 106, 107, 108, 116, 115, 117, 118, 119, 120, 121, 614, 602, 601] 20 := A18.add fx_law_stream (fn_chk (df := d_law_stream) (fi := 601) A18 E (L 19 (by omega)) F601 sc_law_stream M rfl ck_law_stream (fun _ _ => rfl) (He.glo_ok X Gn (c.fact 35 (f := .glo "_law_stream") rfl)) (F601.bindsN fun _ _ _ _ _ _ us hl => match us, hl with | [_], _ => rfl))
  have A20 : FnS P w K mg base G [100, 101, 102, 103, 104, 105, 106, 107, 108, 116, 115, 117, 118, 119, 120, 121, 614, 602, 601, 603] 21 := A19.add fx_law_signs (fn_chk (df := d_law_signs) (fi := 603) A19 E (L 20 (by omega)) F603 sc_law_signs M rfl ck_law_signs (fun _ _ => rfl) (He.glo_ok X Gn (c.fact 36 (f := .glo "_law_signs") rfl)) (F603.bindsN fun _ _ _ _ _ _ us hl => match us, hl with | [_], _ => rfl))
  have A21 : FnS P w K mg base G [100, 101, 102, 103, 104, 105, 106, 107, 108, 116, 115, 117, 118, 119, 120, 121, 614, 602, 601, 603, 615] 22 := A20.add fx_law_machine (fn_chk (df := d_law_machine) (fi := 615) A20 E (L 21 (by omega)) F615 sc_law_machine M rfl ck_law_machine (fun _ _ => rfl) (He.glo_ok X Gn (c.fact 37 (f := .glo "_law_machine") rfl)) (F615.bindsN fun _ _ _ _ _ _ us hl => match us, hl with | [_, _, _, _], _ => rfl))
  have A22 : FnS P w K mg base G [100, 101, 102, 103, 104, 105, 106, 107, 108, 116, 115, 117, 118, 119, 120, 121, 614, 602, 601, 603, 615, 616] 23 := A21.add fx_law_word (fn_chk (df := d_law_word) (fi := 616) A21 E (L 22 (by omega)) F616 sc_law_word M rfl ck_law_word (fun _ _ => rfl) (He.glo_ok X Gn (c.fact 38 (f := .glo "_law_word") rfl)) (F616.bindsN fun _ _ _ _ _ _ us hl => match us, hl with | [_, _, _], _ => rfl))
  have A23 : FnS P w K mg base G [100, 101, 102, 103, 104, 105, 106, 107, 108, 116, 115, 117, 118, 119, 120, 121, 614, 602, 601, 603, 615, 616, 604] 24 := A22.add fx_law_all_signs (fn_chk (df := d_law_all_signs) (fi := 604) A22 E (L 23 (by omega)) F604 sc_law_all_signs M rfl ck_law_all_signs (fun _ _ => rfl) (He.glo_ok X Gn (c.fact 39 (f := .glo "_law_all_signs") rfl)) (F604.bindsN fun _ _ _ _ _ _ us hl => match us, hl with | [_], _ => rfl))
  have A24 : FnS P w K mg base G [100, 101, 102, 103, 104, 105, 106, 107, 108, 116, 115, 117, 118, 119, 120, 121, 614, 602, 601, 603, 615, 616, 604, 617] 25 := A23.add fx_law_any_word (fn_chk (df := d_law_any_word) (fi := 617) A23 E (L 24 (by omega)) F617 sc_law_any_word M rfl ck_law_any_word (fun _ _ => rfl) (He.glo_ok X Gn (c.fact 40 (f := .glo "_law_any_word") rfl)) (F617.bindsN fun _ _ _ _ _ _ us hl => match us, hl with | [_, _, _], _ => rfl))
  have A25 : FnS P w K mg base G [100, 101, 102, 103, 104, 105, 106, 107, 108, 116, 115, 117, 118, 119, 120, 121, 614, 602, 601, 603, 615, 616, 604, 617, 607] 26 := A24.add fx_law_heights (fn_chk (df := d_law_heights) (fi := 607) A24 E (L 25 (by omega)) F607 sc_law_heights M rfl ck_law_heights (fun _ _ => rfl) (He.glo_ok X Gn (c.fact 41 (f := .glo "_law_heights") rfl)) (F607.bindsN fun _ _ _ _ _ _ us hl => match us, hl with | [_], _ => rfl))
  have A26 : FnS P w K mg base G [100, 101, 102, 103, 104, 105, 106, 107, 108, 116, 115, 117, 118, 119, 120, 121, 614, 602, 601, 603, 615, 616, 604, 617, 607, 608] 27 := A25.add fx_law_is_whole (fn_chk (df := d_law_is_whole) (fi := 608) A25 E (L 26 (by omega)) F608 sc_law_is_whole M rfl ck_law_is_whole (fun _ _ => rfl) (He.glo_ok X Gn (c.fact 42 (f := .glo "_law_is_whole") rfl)) (F608.bindsN fun _ _ _ _ _ _ us hl => match us, hl with | [_], _ => rfl))
  have A27 : FnS P w K mg base G [100, 101, 102, 103, 104, 105, 106, 107, 108, 116, 115, 117, 118, 119, 120, 121, 614, 602, 601, 603, 615, 616, 604, 617, 607, 608, 618] 28 := A26.add fx_law_led (fn_chk (df := d_law_led) (fi := 618) A26 E (L 27 (by omega)) F618 sc_law_led M rfl ck_law_led (fun _ _ => rfl) (He.glo_ok X Gn (c.fact 43 (f := .glo "_law_led") rfl)) (F618.bindsN fun _ _ _ _ _ _ us hl => match us, hl with | [_, _, _], _ => rfl))
  have A28 : FnS P w K mg base G [100, 101, 102, 103, 104, 105, 106, 107, 108, 116, 115, 117, 118, 119, 120, 121, 614, 602, 601, 603, 615, 616, 604, 617, 607, 608, 618, 619] 29 := A27.add fx_law_good (fn_chk (df := d_law_good) (fi := 619) A27 E (L 28 (by omega)) F619 sc_law_good M rfl ck_law_good (fun _ _ => rfl) (He.glo_ok X Gn (c.fact 44 (f := .glo "_law_good") rfl)) (F619.bindsN fun _ _ _ _ _ _ us hl => match us, hl with | [_, _], _ => rfl))
  have A29 : FnS P w K mg base G [100, 101, 102, 103, 104, 105, 106, 107, 108, 116, 115, 117, 118, 119, 120, 121, 614, 602, 601, 603, 615, 616, 604, 617, 607, 608, 618, 619, 606] 30 := A28.add fx_law_same (fn_chk (df := d_law_same) (fi := 606) A28 E (L 29 (by omega)) F606 sc_law_same M rfl ck_law_same (fun _ _ => rfl) (He.glo_ok X Gn (c.fact 45 (f := .glo "_law_same") rfl)) (F606.bindsN fun _ _ _ _ _ _ us hl => match us, hl with | [_, _], _ => rfl))
  have A30 : FnS P w K mg base G [100, 101, 102, 103, 104, 105, 106, 107, 108, 116, 115, 117, 118, 119, 120, 121, 614, 602, 601, 603, 615, 616, 604, 617, 607, 608, 618, 619, 606, 620] 31 := A29.add fx_law_odd_machine (fn_chk (df := d_law_odd_machine) (fi := 620) A29 E (L 30 (by omega)) F620 sc_law_odd_machine M rfl ck_law_odd_machine (fun _ _ => rfl) (He.glo_ok X Gn (c.fact 46 (f := .glo "_law_odd_machine") rfl)) (F620.bindsN fun _ _ _ _ _ _ us hl => match us, hl with | [_, _], _ => rfl))
  have A31 : FnS P w K mg base G [100, 101, 102, 103, 104, 105, 106, 107, 108, 116, 115, 117, 118, 119, 120, 121, 614, 602, 601, 603, 615, 616, 604, 617, 607, 608, 618, 619, 606, 620, 609] 32 := A30.add fx_law_is_label (fn_chk (df := d_law_is_label) (fi := 609) A30 E (L 31 (by omega)) F609 sc_law_is_label M rfl ck_law_is_label (fun _ _ => rfl) (He.glo_ok X Gn (c.fact 47 (f := .glo "_law_is_label") rfl)) (F609.bindsN fun _ _ _ _ _ _ us hl => match us, hl with | [_], _ => rfl))
  have A32 : FnS P w K mg base G [100, 101, 102, 103, 104, 105, 106, 107, 108, 116, 115, 117, 118, 119, 120, 121, 614, 602, 601, 603, 615, 616, 604, 617, 607, 608, 618, 619, 606, 620, 609, 610] 33 := A31.add fx_law_signs_due (fn_chk (df := d_law_signs_due) (fi := 610) A31 E (L 32 (by omega)) F610 sc_law_signs_due M rfl ck_law_signs_due (fun _ _ => rfl) (He.glo_ok X Gn (c.fact 48 (f := .glo "_law_signs_due") rfl)) (F610.bindsN fun _ _ _ _ _ _ us hl => match us, hl with | [_], _ => rfl))
  have A33 : FnS P w K mg base G [100, 101, 102, 103, 104, 105, 106, 107, 108, 116, 115, 117, 118, 119, 120, 121, 614, 602, 601, 603, 615, 616, 604, 617, 607, 608, 618, 619, 606, 620, 609, 610, 621] 34 := A32.add fx_law_machine_due (fn_chk (df := d_law_machine_due) (fi := 621) A32 E (L 33 (by omega)) F621 sc_law_machine_due M rfl ck_law_machine_due (fun _ _ => rfl) (He.glo_ok X Gn (c.fact 49 (f := .glo "_law_machine_due") rfl)) (F621.bindsN fun _ _ _ _ _ _ us hl => match us, hl with | [_], _ => rfl))
  have A34 : FnS P w K mg base G [100, 101, 102, 103, 104, 105, 106, 107, 108, 116, 115, 117, 118, 119, 120, 121, 614, 602, 601, 603, 615, 616, 604, 617, 607, 608, 618, 619, 606, 620, 609, 610, 621, 611] 35 := A33.add fx_law_told (fn_chk (df := d_law_told) (fi := 611) A33 E (L 34 (by omega)) F611 sc_law_told M rfl ck_law_told (fun _ _ => rfl) (He.glo_ok X Gn (c.fact 50 (f := .glo "_law_told") rfl)) (F611.bindsN fun _ _ _ _ _ _ us hl => match us, hl with | [_, _, _, _], _ => rfl))
  have A35 : FnS P w K mg base G [100, 101, 102, 103, 104, 105, 106, 107, 108, 116, 115, 117, 118, 119, 120, 121, 614, 602, 601, 603, 615, 616, 604, 617, 607, 608, 618, 619, 606, 620, 609, 610, 621, 611, 622] 36 := A34.add fx_law_trace (fn_chk (df := d_law_trace) (fi := 622) A34 E (L 35 (by omega)) F622 sc_law_trace M rfl ck_law_trace (fun _ _ => rfl) (He.glo_ok X Gn (c.fact 51 (f := .glo "_law_trace") rfl)) (F622.bindsN fun _ _ _ _ _ _ us hl => match us, hl with | [_, _], _ => rfl))
  have A36 : FnS P w K mg base G [100, 101, 102, 103, 104, 105, 106, 107, 108, 116, 115, 117, 118, 119, 120, 121, 614, 602, 601, 603, 615, 616, 604, 617, 607, 608, 618, 619, 606, 620, 609, 610, 621, 611, 622, 623] 37 := A35.add fx_law_bent (fn_chk (df := d_law_bent) (fi := 623) A35 E (L 36 (by omega)) F623 sc_law_bent M rfl ck_law_bent (fun _ _ => rfl) (He.glo_ok X Gn (c.fact 52 (f := .glo "_law_bent") rfl)) (F623.bindsN fun _ _ _ _ _ _ us hl => match us, hl with | [_, _], _ => rfl))
  have z := fn_sound (G := G) (io := []) (stms := b_law) (lo := true) (df := d_law) (ex := fun x => decide (x < 5)) (nm := gnm) rfl F613 sc_law M A36 E (L 37 (by omega)) fun X P W C SX k => okSs b_law C SX k ck_law
  exact FnG.mono z (show 38 ≤ 60 by omega)
end
end NW

set_option Elab.async false
set_option linter.all false
set_option maxRecDepth 100000
set_option maxHeartbeats 0
open PySem PySem.W PySem.Calls PyProof.Rows
theorem PySem.Challenge.cw_nestward_k04_machines_and_traces_holds : PySem.Challenge.rw_nestward_k04_machines_and_traces.Holds := by
  w_on; o_law
  refine HandSHeadRun.head_any (r := NW.Rw) (q := view (NW.Rw).prog [57]) (H := NW.hk) (ob := NW.ob) (M := 6000) (loose := NW.loose) (d := HandSHeadRun.topDef (NW.Rw).prog 57) (kwd := []) NW.ob_eq
    (by kernel_rfl) (fun s => by kernel_rfl) NW.run (by kernel_rfl) (by kernel_rfl) (by kernel_rfl) (by rfl) (by first | assumption | decide +kernel) (by decide +kernel) ⟨rfl, rfl, rfl, rfl, rfl, by decide +kernel⟩ ?hw ?hc
  case hw => w_witness2
  case hc =>
    refine DD.walk_ofG (l := PySem.Challenge.rw_nestward_k04_machines_and_traces) (n := 63) (k := 60) (x := "script") rfl (by decide) (by kernel_rfl) ⟨rfl, by decide, by decide⟩ ?F
    intro w mg fa h Y G hmg0
    obtain ⟨K, KX, cb, c⟩ := Y
    have hmg : mg ("law" : PySem.Str) = some (.ref fa) := by
      have e : (HandSHeadRun.topDef (NW.Rw).prog 57).name = ("law" : PySem.Str) := by kernel_rfl
      rw [← e]
      exact hmg0
    obtain ⟨fd, hb, hF⟩ := NW.facts (P := (PySem.Challenge.rw_nestward_k04_machines_and_traces).prog) (w := w) KX G hmg cb c
    exact ⟨K, fd, DD.spF K mg NW.G [] 1 (DD.runDef NW.G [] NW.b_law 18 1), KX, hb, fun H a ns hS => DD.script_sp hS (NW.law_holds ns), hF⟩
