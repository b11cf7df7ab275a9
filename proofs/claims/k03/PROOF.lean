import PyProof.Rows.All
import Wide.All
import OpenK.AllK
import Wide.FinOn
import HandS.ForMost
import KE.KDictKeyed
import HandS.Star
import HandS.Deep
import HandS.Style
import HandS.TupAny
import HandS.TupLe
import HandS.DictComp
import HandS.RaiseMore
import HandS.EndBits
import PySem.Challenge.RW_logfolds_k03_clashes_beside_all_orders
set_option Elab.async false
set_option linter.all false
set_option maxRecDepth 100000
set_option maxHeartbeats 4000000
/-! Lf0: data without addresses (D), a store of changing objects, a small language (E, T) and what it asks (wE, wT). Plain Lean: no machine in sight. -/
namespace Lf
open PySem

/-- a value: immutable data as a tree; obj i is the i-th changing object of the store; scr is the script -/
inductive D where
  | non | bl (b : Bool) | int (i : Int) | str (s : Str) | tup (l : List D) | obj (i : Nat) | scr
instance : Inhabited D := ⟨.non⟩

mutual
def D.beq : D → D → Bool
  | .non, .non => true
  | .bl a, .bl b => decide (a = b)
  | .int a, .int b => decide (a = b)
  | .str a, .str b => decide (a = b)
  | .tup a, .tup b => D.beqs a b
  | .obj a, .obj b => decide (a = b)
  | .scr, .scr => true
  | _, _ => false
def D.beqs : List D → List D → Bool
  | [], [] => true
  | a :: x, b :: y => D.beq a b && D.beqs x y
  | _, _ => false
end
mutual
theorem D.beq_refl : ∀ a : D, D.beq a a = true
  | .non => by simp [D.beq]
  | .bl _ => by simp [D.beq]
  | .int _ => by simp [D.beq]
  | .str _ => by simp [D.beq]
  | .tup l => by rw [D.beq]; exact D.beqs_refl l
  | .obj _ => by simp [D.beq]
  | .scr => by simp [D.beq]
theorem D.beqs_refl : ∀ l : List D, D.beqs l l = true
  | [] => by simp [D.beqs]
  | a :: l => by rw [D.beqs, D.beq_refl a, D.beqs_refl l]; rfl
end
mutual
theorem D.eq_of_beq : ∀ a b : D, D.beq a b = true → a = b
  | .non, b, h => by cases b <;> simp_all [D.beq]
  | .bl _, b, h => by cases b <;> simp_all [D.beq]
  | .int _, b, h => by cases b <;> simp_all [D.beq]
  | .str _, b, h => by cases b <;> simp_all [D.beq]
  | .tup l, b, h => by
    cases b with
    | tup m => rw [D.beq] at h; rw [D.eq_of_beqs l m h]
    | _ => simp [D.beq] at h
  | .obj _, b, h => by cases b <;> simp_all [D.beq]
  | .scr, b, h => by cases b <;> simp_all [D.beq]
theorem D.eq_of_beqs : ∀ a b : List D, D.beqs a b = true → a = b
  | [], b, h => by cases b <;> simp_all [D.beqs]
  | a :: x, b, h => by
    cases b with
    | nil => simp [D.beqs] at h
    | cons c y =>
      rw [D.beqs, Bool.and_eq_true] at h
      rw [D.eq_of_beq a c h.1, D.eq_of_beqs x y h.2]
end
instance : DecidableEq D := fun a b => if h : D.beq a b = true then .isTrue (D.eq_of_beq a b h) else .isFalse fun e => h (e ▸ D.beq_refl a)

/-- a changing object: a list; a dict, its keys immutable data, in the order of insertion -/
inductive Ob where
  | lst (l : List D) | dic (l : List (D × D))
abbrev Store := List Ob
abbrev Env := List (Option D)
abbrev K1 := D → Store → Prop

/-! the data of the library that a value is, read through the store -/
mutual
inductive Rd (S : Store) : D → PyData → Prop
  | non : Rd S .non .none
  | bl (b) : Rd S (.bl b) (.bool b)
  | int (i) : Rd S (.int i) (.int i)
  | str (x) : Rd S (.str x) (.str x)
  | tup {l p} : Rds S l p → Rd S (.tup l) (.tuple p)
  | lst {i l p} : S[i]? = some (.lst l) → Rds S l p → Rd S (.obj i) (.list p)
inductive Rds (S : Store) : List D → List PyData → Prop
  | nil : Rds S [] []
  | cons {d l p q} : Rd S d p → Rds S l q → Rds S (d :: l) (p :: q)
end
mutual
/-- data without objects -/
def D.py : D → PyData
  | .non => .none
  | .bl b => .bool b
  | .int i => .int i
  | .str x => .str x
  | .tup l => .tuple (D.pys l)
  | .obj _ => .none
  | .scr => .none
def D.pys : List D → List PyData
  | [] => []
  | d :: l => D.py d :: D.pys l
end
mutual
def D.pure : D → Bool
  | .tup l => D.pures l
  | .obj _ => false
  | .scr => false
  | _ => true
def D.pures : List D → Bool
  | [] => true
  | d :: l => D.pure d && D.pures l
end
mutual
theorem Rd.py {S : Store} : ∀ d : D, d.pure = true → Rd S d d.py
  | .non, _ => by rw [D.py]; exact .non
  | .bl _, _ => by rw [D.py]; exact .bl _
  | .int _, _ => by rw [D.py]; exact .int _
  | .str _, _ => by rw [D.py]; exact .str _
  | .tup l, h => by rw [D.py]; exact .tup (Rds.pys l (by rw [D.pure] at h; exact h))
  | .obj _, h => by simp [D.pure] at h
  | .scr, h => by simp [D.pure] at h
theorem Rds.pys {S : Store} : ∀ l : List D, D.pures l = true → Rds S l (D.pys l)
  | [], _ => by rw [D.pys]; exact .nil
  | d :: l, h => by
    rw [D.pures, Bool.and_eq_true] at h
    rw [D.pys]
    exact .cons (Rd.py d h.1) (Rds.pys l h.2)
end
mutual
/-- what may be a key of a dict: data of Nones, ints, texts and tuples (no bools: True would be 1) -/
def D.key : D → Option NestedKey
  | .non => some .none
  | .int i => some (.num i)
  | .str x => some (.text x)
  | .tup l => (D.keys l).map .tup
  | _ => none
def D.keys : List D → Option (List NestedKey)
  | [] => some []
  | d :: l => match D.key d, D.keys l with
    | some k, some r => some (k :: r)
    | _, _ => none
end
/-- a dict's keys: tuples that are keys, to depth 8 -/
def D.keyT (d : D) : Bool := match d with
  | .tup l => match D.keys l with
    | some k => decide (NestedKey.depth (.tup k) ≤ 8)
    | none => false
  | _ => false
/-- a dict's keys: ints and texts -/
def D.keyA : D → Bool
  | .int _ => true
  | .str _ => true
  | _ => false

/-! ### the language -/
/-- built-in functions and types, called -/
inductive Bi where
  | len | lst | tup | toStr | toInt | sorted | repr | dict | isi (t : String)
/-- methods of built-in types -/
inductive Me where
  | append | pop | popAt | split
mutual
inductive E where
  | var (i : Nat) | con (d : D)
  | tup (a : Es) | lst (a : Es) | dnew
  | bin (o : Operator) (a b : E) | neg (a : E)
  | cmp (o : CmpOp) (a b : E) | cmp2 (o o' : CmpOp) (a b c : E)
  | and (a b : E) | or (a b : E) | not (a : E) | ife (c a b : E)
  | call (f : Nat) (a : Es) | bi (n : Bi) (a : Es) | me (n : Me) (o : E) (a : Es)
  | ix (a i : E) | sl (a : E) (lo hi : Oe) | rev (a : E)
  | lc (own : List Nat) (it : It) (g : Tg) (c : Oe) (e : E)
  | dc (own : List Nat) (it : It) (g : Tg) (c : Oe) (k v : E)
inductive Es where
  | nil | cons (e : E) (r : Es) | star (e : E) (r : Es)
inductive Oe where
  | no | yes (e : E)
/-- what a loop walks -/
inductive It where
  | seq (e : E) | rng (e : E) | rng2 (a b : E) | enum (e : E) | zip (a b : E)
/-- what is stored into -/
inductive Tg where
  | nm (i : Nat) | tp (l : Tgs) | sub (o i : E)
inductive Tgs where
  | nil | cons (t : Tg) (r : Tgs)
end
mutual
inductive T where
  | asg (t : Tg) (e : E) | par (l : List Nat) (a : Es) | aug (i : Nat) (o : Operator) (e : E)
  | ex (e : E) | ret (e : E) | retN
  | ife (c : E) (a b : Ts) | whl (c : E) (b : Ts) | for_ (it : It) (t : Tg) (b : Ts) | pass | brk | cont
inductive Ts where
  | nil | cons (t : T) (r : Ts)
end

/-! ### what each piece asks: S the store, Q what follows a value, X what follows an exception -/
def alloc (S : Store) (o : Ob) (Q : K1) : Prop := Q (.obj S.length) (S ++ [o])
/-- xs[lo:hi] -/
def cut {α : Type} (xs : List α) (lo hi : Option Int) : List α := (xs.drop (HT.sIx xs.length 0 lo)).take (HT.sIx xs.length xs.length hi - HT.sIx xs.length 0 lo)
def wBin (o : Operator) (x y : D) (S : Store) (Q : K1) : Prop :=
  match o, x, y with
  | .Add, .int a, .int b => Q (.int (a + b)) S
  | .Add, .str a, .str b => a.length + b.length ≤ sizeLine ∧ Q (.str (a ++ b)) S
  | .Add, .tup a, .tup b => a.length + b.length ≤ sizeLine ∧ Q (.tup (a ++ b)) S
  | .Add, .obj i, .obj j => ∃ a b, S[i]? = some (.lst a) ∧ S[j]? = some (.lst b) ∧ a.length + b.length ≤ sizeLine ∧ alloc S (.lst (a ++ b)) Q
  | .Sub, .int a, .int b => Q (.int (a - b)) S
  | .Mult, .int a, .int b => L2.CMul a b ∧ Q (.int (a * b)) S
  | .FloorDiv, .int a, .int b => L2.CDiv a b ∧ Q (.int (a / b)) S
  | .Mod, .int a, .int b => 0 < b ∧ Q (.int (a % b)) S
  | .Pow, .int a, .int b => L2.CPow a b ∧ Q (.int (a ^ b.toNat)) S
  | _, _, _ => False
def wEq (x y : D) (S : Store) (Q : Bool → Prop) : Prop :=
  (∃ p q, Rd S x p ∧ Rd S y q ∧ SeqAt.shaped p = true ∧ SeqAt.shaped q = true ∧ Q (PyData.eqv p q)) ∨ (∃ a b, x = .str a ∧ y = .str b ∧ Q (decide (a = b)))
/-- the dict entry with a key -/
def look (l : List (D × D)) (k : D) : Option D := (l.find? fun p => decide (p.1 = k)).map (·.2)
/-- d[k] = v -/
def put (l : List (D × D)) (k v : D) : List (D × D) := if (look l k).isSome then l.map fun p => if p.1 = k then (p.1, v) else p else l ++ [(k, v)]
/-- x is a key, and of the kind of the keys of the dict -/
def keyFor (l : List (D × D)) (x : D) : Bool := (x.keyT && l.all (·.1.keyT)) || (x.keyA && l.all (·.1.keyA))
/-- the items of a list or a tuple -/
def itemsAt (S : Store) (x : D) : Option (List D) := match x with
  | .tup l => some l
  | .obj i => match S[i]? with
    | some (.lst l) => some l
    | _ => none
  | _ => none
def wIn (x y : D) (S : Store) (Q : Bool → Prop) : Prop :=
  (∃ l p ps, itemsAt S y = some l ∧ Rd S x p ∧ Rds S l ps ∧ SeqAt.shaped p = true ∧ ps.all SeqAt.shaped = true ∧ Q (ps.any fun q => PyData.eqv q p)) ∨
  (∃ j l, y = .obj j ∧ S[j]? = some (.dic l) ∧ keyFor l x = true ∧ Q (look l x).isSome)
def wCmp (o : CmpOp) (x y : D) (S : Store) (Q : Bool → Prop) : Prop :=
  match o with
  | .Eq => wEq x y S Q
  | .NotEq => wEq x y S fun b => Q (!b)
  | .Lt => (∃ a b, x = .int a ∧ y = .int b ∧ Q (decide (a < b))) ∨ (∃ a b, x = .str a ∧ y = .str b ∧ Q (decide (a.cps.toList < b.cps.toList)))
  | .LtE => (∃ a b, x = .int a ∧ y = .int b ∧ Q (decide (a ≤ b)))
  | .Gt => (∃ a b, x = .int a ∧ y = .int b ∧ Q (decide (b < a)))
  | .GtE => (∃ a b, x = .int a ∧ y = .int b ∧ Q (decide (b ≤ a)))
  | .In => wIn x y S Q
  | .NotIn => wIn x y S fun b => Q (!b)
  | .Is => y = .non ∧ Q (decide (x = .non))
  | .IsNot => y = .non ∧ Q (!decide (x = .non))
def texts (l : List Str) : List D := l.map D.str
def wBi (n : Bi) (a : List D) (S : Store) (Q : K1) : Prop :=
  match n, a with
  | .len, [x] => (∃ s, x = .str s ∧ s.length ≤ sizeLine ∧ Q (.int s.length) S) ∨ (∃ l, itemsAt S x = some l ∧ Q (.int l.length) S)
  | .lst, [x] => ∃ l, itemsAt S x = some l ∧ alloc S (.lst l) Q
  | .tup, [x] => ∃ l, itemsAt S x = some l ∧ Q (.tup l) S
  | .toStr, [x] => (∃ s, x = .str s ∧ Q (.str s) S) ∨ (∃ i, x = .int i ∧ i.natAbs.log2 < 1920 ∧ Q (.str (toString i)) S)
  | .toInt, [x] => ∃ i, x = .int i ∧ Q (.int i) S
  | .sorted, [x] => ∃ i ss, x = .obj i ∧ S[i]? = some (.lst (texts ss)) ∧ ss.length < 64 ∧ ∀ ys, ys.Perm ss → PyProof.Rows.sortedS ys = true → alloc S (.lst (texts ys)) Q
  | .repr, [x] => ∃ p, Rd S x p ∧ SeqAt.shaped p = true ∧ PyData.showable p = true ∧ p.shown.length ≤ sizeLine ∧ Q (.str p.shown) S
  | .dict, [x] => ∃ (i : Nat) (kvs : List (D × D)), x = .obj i ∧ S[i]? = some (.lst (kvs.map fun p => .tup [p.1, p.2])) ∧ kvs.all (·.1.keyT) = true ∧ kvs.length ≤ 100000 ∧ alloc S (.dic (kvs.foldl (fun m p => put m p.1 p.2) [])) Q
  | _, _ => False
/-- what a method is called of -/
def meOk (n : Me) (x : D) (S : Store) : Prop := match n with
  | .append | .pop | .popAt => ∃ i l, x = .obj i ∧ S[i]? = some (.lst l)
  | .split => ∃ s, x = .str s
def wMe (n : Me) (o : D) (a : List D) (S : Store) (Q : K1) : Prop :=
  match n, a with
  | .append, [x] => ∃ i l, o = .obj i ∧ S[i]? = some (.lst l) ∧ l.length < sizeLine ∧ Q .non (S.set i (.lst (l ++ [x])))
  | .pop, [] => ∃ i l x, o = .obj i ∧ S[i]? = some (.lst (l ++ [x])) ∧ Q x (S.set i (.lst l))
  | .popAt, [k] => ∃ i l j x, o = .obj i ∧ k = .int (j : Nat) ∧ S[i]? = some (.lst l) ∧ l.length ≤ sizeLine ∧ l[j]? = some x ∧ Q x (S.set i (.lst (l.eraseIdx j)))
  | .split, [x] => ∃ s t, o = .str s ∧ x = .str t ∧ (t.length == 0) = false ∧ s.length + 2 ≤ sizeLine ∧ alloc S (.lst (texts (Txt.split s t))) Q
  | _, _ => False
def wIx (x y : D) (S : Store) (Q : K1) : Prop :=
  (∃ l i v, itemsAt S x = some l ∧ y = .int i ∧ L2.atI l i = some v ∧ Q v S) ∨
  (∃ j l v, x = .obj j ∧ S[j]? = some (.dic l) ∧ keyFor l y = true ∧ look l y = some v ∧ Q v S)
def wSl (x : D) (lo hi : Option Int) (S : Store) (ns : List Int) (Q : K1) : Prop :=
  match x with
  | .tup l => Q (.tup (cut l lo hi)) S
  | .obj _ => ∃ l, itemsAt S x = some l ∧ alloc S (.lst (cut l lo hi)) Q
  | .scr => alloc S (.lst (cut (ns.map D.int) lo hi)) Q
  | _ => False
def wRev (x : D) (S : Store) (Q : K1) : Prop :=
  match x with
  | .tup l => Q (.tup l.reverse) S
  | .obj _ => ∃ l, itemsAt S x = some l ∧ alloc S (.lst l.reverse) Q
  | _ => False
def wSet (o k v : D) (S : Store) (N : Store → Prop) : Prop :=
  (∃ j l i m, o = .obj j ∧ k = .int i ∧ S[j]? = some (.lst l) ∧ L2.ixN l.length i = some m ∧ N (S.set j (.lst (l.set m v)))) ∨
  (∃ j l, o = .obj j ∧ S[j]? = some (.dic l) ∧ keyFor l k = true ∧ l.length ≤ 100000 ∧ N (S.set j (.dic (put l k v))))
/-- a def's promise: what it asks of arguments and store -/
structure Sp where
  wp : List D → Store → K1 → K1 → Prop
  mono : ∀ {a S Q X Q' X'}, wp a S Q X → (∀ d s, Q d s → Q' d s) → (∀ d s, X d s → X' d s) → wp a S Q' X'
/-- a loop over items; chk: what is walked is still the same -/
def loopL (chk : Store → Prop) (body : D → Env → Store → (Env → Store → Prop) → Prop) : List D → Env → Store → (Env → Store → Prop) → Prop
  | [], ρ, S, N => chk S ∧ N ρ S
  | d :: ds, ρ, S, N => chk S ∧ body d ρ S fun ρ' S' => loopL chk body ds ρ' S' N
def loopC (chk : Store → Prop) (step : D → Store → (List D → Store → Prop) → Prop) : List D → Store → List D → (List D → Store → Prop) → Prop
  | [], S, acc, Q => chk S ∧ Q acc S
  | d :: ds, S, acc, Q => chk S ∧ step d S fun new S' => loopC chk step ds S' (acc ++ new) Q
def loopD (chk : Store → Prop) (step : D → Store → (D → D → Store → Prop) → Prop) : List D → Store → List (D × D) → (List (D × D) → Store → Prop) → Prop
  | [], S, acc, Q => chk S ∧ Q acc S
  | d :: ds, S, acc, Q => chk S ∧ step d S fun k v S' => keyFor acc k = true ∧ loopD chk step ds S' (put acc k v) Q
def loopW (c : Env → Store → K1 → Prop) (b : Env → Store → (Env → Store → Prop) → Prop) : Nat → Env → Store → (Env → Store → Prop) → Prop
  | 0, _, _, _ => False
  | n + 1, ρ, S, N => c ρ S fun d S' => (d = .bl true ∧ b ρ S' fun ρ' S'' => loopW c b n ρ' S'' N) ∨ (d = .bl false ∧ N ρ S')
/-- the slots at l forgotten -/
def wipe (ρ : Env) : List Nat → Env
  | [] => ρ
  | v :: vs => (wipe ρ vs).set v none
/-- what a list is walked by: it must stay as it is -/
def stays (x : D) (l : List D) (S : Store) : Prop := match x with
  | .obj _ => itemsAt S x = some l
  | _ => True
/-- the ends of a statement -/
structure Ends where
  nx : Env → Store → Prop
  rt : K1
  bk : Env → Store → Prop
  ct : Env → Store → Prop
  ex : K1
section
variable (G : Nat → Sp) (ns : List Int)
mutual
def wE : E → Env → Store → K1 → K1 → Prop
  | .var i, ρ, S, Q, _ => ∃ d, ρ[i]? = some (some d) ∧ Q d S
  | .con d, _, S, Q, _ => Q d S
  | .tup a, ρ, S, Q, X => wEs a ρ S (fun l S' => l.length ≤ sizeLine ∧ Q (.tup l) S') X
  | .lst a, ρ, S, Q, X => wEs a ρ S (fun l S' => l.length ≤ sizeLine ∧ alloc S' (.lst l) Q) X
  | .dnew, _, S, Q, _ => alloc S (.dic []) Q
  | .bin o a b, ρ, S, Q, X => wE a ρ S (fun x S1 => wE b ρ S1 (fun y S2 => wBin o x y S2 Q) X) X
  | .neg a, ρ, S, Q, X => wE a ρ S (fun x S1 => ∃ i, x = .int i ∧ Q (.int (-i)) S1) X
  | .cmp o a b, ρ, S, Q, X => wE a ρ S (fun x S1 => wE b ρ S1 (fun y S2 => wCmp o x y S2 fun t => Q (.bl t) S2) X) X
  | .cmp2 o o' a b c, ρ, S, Q, X => wE a ρ S (fun x S1 => wE b ρ S1 (fun y S2 => wCmp o x y S2 fun t =>
      if t = true then wE c ρ S2 (fun z S3 => wCmp o' y z S3 fun t' => Q (.bl t') S3) X else Q (.bl false) S2) X) X
  | .and a b, ρ, S, Q, X => wE a ρ S (fun x S1 => (x = .bl true ∧ wE b ρ S1 (fun y S2 => (∃ t, y = .bl t) ∧ Q y S2) X) ∨ (x = .bl false ∧ Q (.bl false) S1)) X
  | .or a b, ρ, S, Q, X => wE a ρ S (fun x S1 => (x = .bl false ∧ wE b ρ S1 (fun y S2 => (∃ t, y = .bl t) ∧ Q y S2) X) ∨ (x = .bl true ∧ Q (.bl true) S1)) X
  | .not a, ρ, S, Q, X => wE a ρ S (fun x S1 => ∃ t, x = .bl t ∧ Q (.bl (!t)) S1) X
  | .ife c a b, ρ, S, Q, X => wE c ρ S (fun x S1 => (x = .bl true ∧ wE a ρ S1 Q X) ∨ (x = .bl false ∧ wE b ρ S1 Q X)) X
  | .call f a, ρ, S, Q, X => wEs a ρ S (fun l S' => (G f).wp l S' Q X) X
  | .bi n a, ρ, S, Q, X => wEs a ρ S (fun l S' => wBi n l S' Q) X
  | .me n o a, ρ, S, Q, X => wE o ρ S (fun x S1 => meOk n x S1 ∧ wEs a ρ S1 (fun l S' => wMe n x l S' Q) X) X
  | .ix a i, ρ, S, Q, X => wE a ρ S (fun x S1 => wE i ρ S1 (fun y S2 => wIx x y S2 Q) X) X
  | .sl a lo hi, ρ, S, Q, X => wE a ρ S (fun x S1 => wO lo ρ S1 (fun l S2 => wO hi ρ S2 (fun h S3 => wSl x l h S3 ns Q) X) X) X
  | .rev a, ρ, S, Q, X => wE a ρ S (fun x S1 => wRev x S1 Q) X
  | .lc own it g c e, ρ, S, Q, X => wIt it ρ S (fun chk l S1 => l.length ≤ sizeLine ∧ loopC chk
      (fun d S k => wTg g d (wipe ρ own) S (fun ρ' S1 => wC c ρ' S1 (fun t S2 => if t = true then wE e ρ' S2 (fun v S3 => k [v] S3) X else k [] S2) X) X)
      l S1 [] fun l' S' => alloc S' (.lst l') Q) X
  | .dc own it g c e1 e2, ρ, S, Q, X => wIt it ρ S (fun chk l S1 => l.length ≤ 100000 ∧ loopD chk
      (fun d S k => wTg g d (wipe ρ own) S (fun ρ' S1 => wE e1 ρ' S1 (fun x S2 => wE e2 ρ' S2 (fun y S3 => k x y S3) X) X) X)
      l S1 [] fun l' S' => alloc S' (.dic l') Q) X
def wEs : Es → Env → Store → (List D → Store → Prop) → K1 → Prop
  | .nil, _, S, Q, _ => Q [] S
  | .cons e r, ρ, S, Q, X => wE e ρ S (fun x S1 => wEs r ρ S1 (fun l S2 => Q (x :: l) S2) X) X
  | .star e r, ρ, S, Q, X => wE e ρ S (fun x S1 => ∃ a, itemsAt S1 x = some a ∧ wEs r ρ S1 (fun l S2 => Q (a ++ l) S2) X) X
/-- a part of a slice -/
def wO : Oe → Env → Store → (Option Int → Store → Prop) → K1 → Prop
  | .no, _, S, Q, _ => Q none S
  | .yes e, ρ, S, Q, X => wE e ρ S (fun x S1 => ∃ i, x = .int i ∧ Q (some i) S1) X
/-- a test of a comprehension -/
def wC : Oe → Env → Store → (Bool → Store → Prop) → K1 → Prop
  | .no, _, S, Q, _ => Q true S
  | .yes e, ρ, S, Q, X => wE e ρ S (fun x S1 => ∃ t, x = .bl t ∧ Q t S1) X
def wIt : It → Env → Store → ((Store → Prop) → List D → Store → Prop) → K1 → Prop
  | .seq e, ρ, S, Q, X => wE e ρ S (fun x S1 => ∃ l, itemsAt S1 x = some l ∧ Q (stays x l) l S1) X
  | .rng e, ρ, S, Q, X => wE e ρ S (fun x S1 => ∃ n, x = .int n ∧ (-(2 ^ 62) ≤ n ∧ n < 2 ^ 62) ∧ Q (fun _ => True) ((List.range n.toNat).map fun (k : Nat) => D.int k) S1) X
  | .rng2 a b, ρ, S, Q, X => wE a ρ S (fun x S1 => wE b ρ S1 (fun y S2 => ∃ m n, x = .int m ∧ y = .int n ∧ (-(2 ^ 62) ≤ m ∧ m < 2 ^ 62 ∧ -(2 ^ 62) ≤ n ∧ n < 2 ^ 62) ∧ Q (fun _ => True) ((List.range (n - m).toNat).map fun (k : Nat) => D.int (m + k)) S2) X) X
  | .enum _, _, _, _, _ => False
  | .zip _ _, _, _, _, _ => False
def wTg : Tg → D → Env → Store → (Env → Store → Prop) → K1 → Prop
  | .nm i, d, ρ, S, N, _ => N (ρ.set i (some d)) S
  | .tp t, d, ρ, S, N, X => ∃ l, d = .tup l ∧ wTgs t l ρ S N X
  | .sub o i, d, ρ, S, N, X => wE o ρ S (fun x S1 => wE i ρ S1 (fun y S2 => wSet x y d S2 fun S3 => N ρ S3) X) X
def wTgs : Tgs → List D → Env → Store → (Env → Store → Prop) → K1 → Prop
  | .nil, l, ρ, S, N, _ => l = [] ∧ N ρ S
  | .cons t r, l, ρ, S, N, X => ∃ d m, l = d :: m ∧ wTg t d ρ S (fun ρ' S' => wTgs r m ρ' S' N X) X
end
/-- several names stored -/
def sets : Env → List Nat → List D → Env
  | ρ, i :: is, d :: ds => sets (ρ.set i (some d)) is ds
  | ρ, _, _ => ρ
mutual
def wT : T → Env → Store → Ends → Prop
  | .asg t e, ρ, S, D => wE G ns e ρ S (fun x S1 => wTg G ns t x ρ S1 D.nx D.ex) D.ex
  | .par is a, ρ, S, D => wEs G ns a ρ S (fun l S1 => l.length = is.length ∧ D.nx (sets ρ is l) S1) D.ex
  | .aug i o e, ρ, S, D => ∃ x, ρ[i]? = some (some x) ∧ wE G ns e ρ S (fun y S1 => wBin o x y S1 fun z S2 => D.nx (ρ.set i (some z)) S2) D.ex
  | .ex e, ρ, S, D => wE G ns e ρ S (fun _ S1 => D.nx ρ S1) D.ex
  | .ret e, ρ, S, D => wE G ns e ρ S D.rt D.ex
  | .retN, _, S, D => D.rt .non S
  | .ife c a b, ρ, S, D => wE G ns c ρ S (fun x S1 => (x = .bl true ∧ wTs a ρ S1 D) ∨ (x = .bl false ∧ wTs b ρ S1 D)) D.ex
  | .whl c b, ρ, S, D => ∃ n, loopW (fun ρ S Q => wE G ns c ρ S Q D.ex) (fun ρ S N => wTs b ρ S { D with nx := N, ct := N, bk := D.nx }) n ρ S D.nx
  | .for_ it t b, ρ, S, D => wIt G ns it ρ S (fun chk l S1 => loopL chk (fun d ρ S N => wTg G ns t d ρ S (fun ρ' S' => wTs b ρ' S' { D with nx := N, ct := N, bk := D.nx }) D.ex) l ρ S1 D.nx) D.ex
  | .pass, ρ, S, D => D.nx ρ S
  | .brk, ρ, S, D => D.bk ρ S
  | .cont, ρ, S, D => D.ct ρ S
def wTs : Ts → Env → Store → Ends → Prop
  | .nil, ρ, S, D => D.nx ρ S
  | .cons t r, ρ, S, D => wT t ρ S { D with nx := fun ρ' S' => wTs r ρ' S' D }
end
end
end Lf

set_option Elab.async false
set_option linter.all false
set_option maxRecDepth 100000
set_option maxHeartbeats 4000000
/-! Lf1: what the data of Lf0 are in the abstract heap of the hand layer. -/
namespace Lf
open PySem L2

/-- the world of a law: the written part, the script's place and its ints -/
structure Wd where
  P : Program
  w : World
  K : PySem.W.Frag
  sa : Addr
  ns : List Int

mutual
inductive Rv (H : Hp) (sa : Addr) (mu : List Addr) : D → V → Prop
  | non : Rv H sa mu .non .non
  | bl (b) : Rv H sa mu (.bl b) (.bl b)
  | int (i) : Rv H sa mu (.int i) (.int i)
  | str (x) : Rv H sa mu (.str x) (.str x)
  | tup {l a vs} : H a = some (.tup vs) → Rvs H sa mu l vs → Rv H sa mu (.tup l) (.ref a)
  | obj {i : Nat} {a} : mu[i]? = some a → Rv H sa mu (.obj i) (.ref a)
  | scr : Rv H sa mu .scr (.ref sa)
inductive Rvs (H : Hp) (sa : Addr) (mu : List Addr) : List D → List V → Prop
  | nil : Rvs H sa mu [] []
  | cons {d v l vs} : Rv H sa mu d v → Rvs H sa mu l vs → Rvs H sa mu (d :: l) (v :: vs)
end
/-- a dict's entries, the keys ints and texts -/
inductive KvA (H : Hp) (sa : Addr) (mu : List Addr) : List (D × D) → List (Key × V) → Prop
  | nil : KvA H sa mu [] []
  | int {i d v l r} : Rv H sa mu d v → KvA H sa mu l r → KvA H sa mu ((.int i, d) :: l) ((Sum.inl i, v) :: r)
  | str {x d v l r} : Rv H sa mu d v → KvA H sa mu l r → KvA H sa mu ((.str x, d) :: l) ((Sum.inr x, v) :: r)
/-- .. the keys tuples -/
inductive KvT (H : Hp) (sa : Addr) (mu : List Addr) : List (D × D) → List (NestedKey × Addr × V) → Prop
  | nil : KvT H sa mu [] []
  | cons {k d n a v l r} : k.key = some n → n.depth ≤ 8 → Rv H sa mu k (.ref a) → Rv H sa mu d v → KvT H sa mu l r → KvT H sa mu ((k, d) :: l) ((n, a, v) :: r)
/-- the object of a dict whose keys are tuples: its entries written out -/
def dictObj (g : Wd) (a : Addr) (xs : List (NestedKey × Addr × V)) (h : Heap) : Prop :=
  ∃ ys : List (NestedKey × Addr × Value), Paired (fun (p : NestedKey × Addr × V) (q : NestedKey × Addr × Value) => p.1 = q.1 ∧ p.2.1 = q.2.1 ∧ RelV p.2.2 q.2.2) xs ys ∧
    ∃ o es ep, h.get? a = some o ∧ o.ExactDict ∧ o.data = .dict es ep ∧ es.toList = ys.map (entryOfKey (nestedKind g.P g.w)) ∧ (ys.map (·.1)).Nodup
/-- what stands for an object of the store -/
inductive ObR (g : Wd) (H : Hp) (mu : List Addr) (a : Addr) : Ob → Prop
  | lst {l vs} : H a = some (.lst vs) → Rvs H g.sa mu l vs → ObR g H mu a (.lst l)
  | dicA {l kvs} : H a = some (.dK kvs) → KvA H g.sa mu l kvs → ObR g H mu a (.dic l)
  | dicT {l xs} : H a = some (.ext (dictObj g a xs)) → KvT H g.sa mu l xs → l ≠ [] → (a == sysModules) = false → ObR g H mu a (.dic l)
def ScrR (g : Wd) (H : Hp) : Prop :=
  (∃ o, H g.sa = some (.frz o (.lst (g.ns.map V.int)))) ∨
    ∃ (o : Obj) (its : Array Value) (n : Nat), g.K.lookup g.sa = some o ∧ o.cls = .type "list" ∧ o.dict = none ∧ o.data = .seq its n ∧ its.size ≤ sizeLine ∧ Vals (g.ns.map V.int) its.toList
theorem ScrR.sq {g : Wd} {H : Hp} (h : ScrR g H) : SqL g.K H g.sa (g.ns.map V.int) := by
  rcases h with h | h
  · exact .inl (.inr h)
  · exact .inr h
/-- the store S lies in the abstract heap H, object i at mu[i] -/
structure R (g : Wd) (H : Hp) (mu : List Addr) (S : Store) : Prop where
  len : mu.length = S.length
  nd : mu.Nodup
  obs : ∀ (i : Nat) a o, mu[i]? = some a → S[i]? = some o → ObR g H mu a o
  scr : ScrR g H
/-- more objects, the untold ones as they were -/
structure Ext (H : Hp) (mu : List Addr) (H' : Hp) (mu' : List Addr) : Prop where
  pre : mu <+: mu'
  new : ∀ a ∈ mu', a ∉ mu → H a = none
  keep : ∀ a o, H a = some o → a ∉ mu → H' a = some o
theorem Ext.refl (H : Hp) (mu : List Addr) : Ext H mu H mu := ⟨List.prefix_rfl, fun a h n => absurd h n, fun _ _ h _ => h⟩
theorem Ext.trans {H H1 H2 : Hp} {m m1 m2 : List Addr} (a : Ext H m H1 m1) (b : Ext H1 m1 H2 m2) : Ext H m H2 m2 where
  pre := a.pre.trans b.pre
  new := fun x hx n => by
    by_cases h1 : x ∈ m1
    · exact a.new x h1 n
    · have z := b.new x hx h1
      cases e : H x with
      | none => rfl
      | some o => rw [a.keep x o e n] at z; cases z
  keep := fun x o e n => by
    have e1 := a.keep x o e n
    by_cases h1 : x ∈ m1
    · rw [a.new x h1 n] at e; cases e
    · exact b.keep x o e1 h1
section
variable {g : Wd} {H H' H1 : Hp} {mu mu' : List Addr} {S S' : Store}
theorem ObR.told {a : Addr} {o : Ob} (h : ObR g H mu a o) : ∃ u, H a = some u ∧ (∀ xs, u ≠ .tup xs) ∧ (∀ x y, u ≠ .frz x y) := by
  cases h with
  | lst h _ => exact ⟨_, h, fun _ => nofun, fun _ _ => nofun⟩
  | dicA h _ => exact ⟨_, h, fun _ => nofun, fun _ _ => nofun⟩
  | dicT h _ => exact ⟨_, h, fun _ => nofun, fun _ _ => nofun⟩
theorem R.at (r : R g H mu S) {a : Addr} (h : a ∈ mu) : ∃ (i : Nat) (o : Ob), mu[i]? = some a ∧ S[i]? = some o ∧ ObR g H mu a o := by
  obtain ⟨i, hi, e⟩ := List.mem_iff_getElem.mp h
  have hs : i < S.length := by rw [← r.len]; exact hi
  have e1 : mu[i]? = some a := by rw [List.getElem?_eq_getElem hi, e]
  exact ⟨i, S[i], e1, List.getElem?_eq_getElem hs, r.obs i a _ e1 (List.getElem?_eq_getElem hs)⟩
theorem R.tup_out (r : R g H mu S) {a : Addr} {vs : List V} (h : H a = some (.tup vs)) : a ∉ mu := fun m => by
  obtain ⟨i, o, _, _, q⟩ := r.at m
  obtain ⟨u, e, n, _⟩ := q.told
  rw [h] at e
  exact n vs (Option.some.inj e).symm
theorem R.none_out (r : R g H mu S) {a : Addr} (h : H a = none) : a ∉ mu := fun m => by
  obtain ⟨i, o, _, _, q⟩ := r.at m
  obtain ⟨u, e, _⟩ := q.told
  rw [h] at e; cases e
theorem R.has (r : R g H mu S) {i : Nat} {o : Ob} (h : S[i]? = some o) : ∃ a, mu[i]? = some a ∧ ObR g H mu a o := by
  have hi : i < mu.length := by rw [r.len]; exact (List.getElem?_eq_some_iff.mp h).1
  exact ⟨mu[i], List.getElem?_eq_getElem hi, r.obs i _ o (List.getElem?_eq_getElem hi) h⟩
theorem pre_get {m m' : List Addr} (p : m <+: m') {i : Nat} {a : Addr} (h : m[i]? = some a) : m'[i]? = some a := by
  obtain ⟨t, rfl⟩ := p
  rw [List.getElem?_append_left (List.getElem?_eq_some_iff.mp h).1]
  exact h
mutual
theorem Rv.mono (sa : Addr) (hk : ∀ a vs, H a = some (.tup vs) → H' a = some (.tup vs)) (p : mu <+: mu') : ∀ (d : D) (v : V), Rv H sa mu d v → Rv H' sa mu' d v
  | .non, _, h => by cases h; exact .non
  | .bl b, _, h => by cases h; exact .bl b
  | .int i, _, h => by cases h; exact .int i
  | .str x, _, h => by cases h; exact .str x
  | .tup l, _, h => by
    cases h with
    | tup h1 h2 => exact .tup (hk _ _ h1) (Rvs.mono sa hk p l _ h2)
  | .obj i, _, h => by
    cases h with
    | obj h1 => exact .obj (pre_get p h1)
  | .scr, _, h => by cases h; exact .scr
theorem Rvs.mono (sa : Addr) (hk : ∀ a vs, H a = some (.tup vs) → H' a = some (.tup vs)) (p : mu <+: mu') : ∀ (l : List D) (vs : List V), Rvs H sa mu l vs → Rvs H' sa mu' l vs
  | [], _, h => by cases h; exact .nil
  | d :: l, _, h => by
    cases h with
    | cons h1 h2 => exact .cons (Rv.mono sa hk p d _ h1) (Rvs.mono sa hk p l _ h2)
end
theorem KvA.mono (sa : Addr) (hk : ∀ a vs, H a = some (.tup vs) → H' a = some (.tup vs)) (p : mu <+: mu') {l : List (D × D)} {r : List (Key × V)} (h : KvA H sa mu l r) : KvA H' sa mu' l r := by
  induction h with
  | nil => exact .nil
  | int a _ ih => exact .int (a.mono sa hk p) ih
  | str a _ ih => exact .str (a.mono sa hk p) ih
theorem KvT.mono (sa : Addr) (hk : ∀ a vs, H a = some (.tup vs) → H' a = some (.tup vs)) (p : mu <+: mu') {l : List (D × D)} {r : List (NestedKey × Addr × V)} (h : KvT H sa mu l r) : KvT H' sa mu' l r := by
  induction h with
  | nil => exact .nil
  | cons a d b c _ ih => exact .cons a d (b.mono sa hk p) (c.mono sa hk p) ih
theorem Ext.tups (e : Ext H mu H' mu') (r : R g H mu S) : ∀ a vs, H a = some (.tup vs) → H' a = some (.tup vs) := fun a vs h => e.keep a _ h (r.tup_out h)
theorem Rv.ext {d : D} {v : V} (h : Rv H g.sa mu d v) (e : Ext H mu H' mu') (r : R g H mu S) : Rv H' g.sa mu' d v := h.mono g.sa (e.tups r) e.pre
theorem Rvs.ext {d : List D} {v : List V} (h : Rvs H g.sa mu d v) (e : Ext H mu H' mu') (r : R g H mu S) : Rvs H' g.sa mu' d v := h.mono g.sa (e.tups r) e.pre
theorem ScrR.ext (h : ScrR g H) (e : Ext H mu H' mu') (r : R g H mu S) : ScrR g H' := by
  rcases h with ⟨o, h⟩ | h
  · refine .inl ⟨o, e.keep _ _ h fun m => ?_⟩
    obtain ⟨i, ob, _, _, q⟩ := r.at m
    obtain ⟨u, e1, _, n⟩ := q.told
    rw [h] at e1
    exact n _ _ (Option.some.inj e1).symm
  · exact .inr h
/-- the same object in another heap -/
theorem ObR.mono {a : Addr} {o : Ob} (h : ObR g H mu a o) (ha : ∀ u, H a = some u → H' a = some u) (hk : ∀ a vs, H a = some (.tup vs) → H' a = some (.tup vs)) (p : mu <+: mu') : ObR g H' mu' a o := by
  cases h with
  | lst h1 h2 => exact .lst (ha _ h1) (h2.mono g.sa hk p)
  | dicA h1 h2 => exact .dicA (ha _ h1) (h2.mono g.sa hk p)
  | dicT h1 h2 h3 h4 => exact .dicT (ha _ h1) (h2.mono g.sa hk p) h3 h4
/-- a tuple, or another thing that is no object of the store, is laid -/
theorem R.laid (r : R g H mu S) {p : Addr} {u : HO} (hp : H p = none) : R g (upd H p u) mu S ∧ Ext H mu (upd H p u) mu := by
  have k : ∀ a o, H a = some o → upd H p u a = some o := fun a o h => by rw [upd_ne (ne_of_none h hp)]; exact h
  have e : Ext H mu (upd H p u) mu := ⟨List.prefix_rfl, fun a h n => absurd h n, fun a o h _ => k a o h⟩
  exact ⟨⟨r.len, r.nd, fun i a o h1 h2 => (r.obs i a o h1 h2).mono (fun u h => k a u h) (fun a vs h => k a _ h) List.prefix_rfl, r.scr.ext e r⟩, e⟩
/-- a new object of the store -/
theorem R.alloc (r : R g H mu S) {p : Addr} {u : HO} {o : Ob} (hp : H p = none) (ho : ObR g (upd H p u) (mu ++ [p]) p o) : R g (upd H p u) (mu ++ [p]) (S ++ [o]) ∧ Ext H mu (upd H p u) (mu ++ [p]) := by
  have k : ∀ a o, H a = some o → upd H p u a = some o := fun a o h => by rw [upd_ne (ne_of_none h hp)]; exact h
  have pr : mu <+: mu ++ [p] := List.prefix_append _ _
  have e : Ext H mu (upd H p u) (mu ++ [p]) := ⟨pr, fun a h n => by
    rcases List.mem_append.mp h with h | h
    · exact absurd h n
    · rw [List.mem_singleton.mp h]; exact hp, fun a o h _ => k a o h⟩
  refine ⟨⟨by simp [r.len], ?_, fun i a ob h1 h2 => ?_, r.scr.ext e r⟩, e⟩
  · rw [List.nodup_append]
    refine ⟨r.nd, by simp, fun a ha b hb => ?_⟩
    rw [List.mem_singleton.mp hb]
    rintro rfl
    exact r.none_out hp ha
  · by_cases hi : i < mu.length
    · rw [List.getElem?_append_left hi] at h1
      rw [List.getElem?_append_left (by rw [← r.len]; exact hi)] at h2
      exact (r.obs i a ob h1 h2).mono (fun u h => k a u h) (fun a vs h => k a _ h) pr
    · have hl := r.len
      have h1' := (List.getElem?_eq_some_iff.mp h1).1
      rw [List.length_append] at h1'
      have e2 : i = mu.length := by simp at h1'; omega
      subst e2
      rw [List.getElem?_append_right (Nat.le_refl _), Nat.sub_self] at h1
      rw [List.getElem?_append_right (by omega)] at h2
      have z : mu.length - S.length = 0 := by omega
      rw [z] at h2
      cases h1
      cases h2
      exact ho
/-- an object of the store is changed -/
theorem R.set (r : R g H mu S) {i : Nat} {a : Addr} {u : HO} {o : Ob} (ha : mu[i]? = some a) (hu : ∀ xs, u ≠ .tup xs) (ho : ObR g (upd H a u) mu a o) : R g (upd H a u) mu (S.set i o) ∧ Ext H mu (upd H a u) mu := by
  have am : a ∈ mu := List.mem_of_getElem? ha
  have e : Ext H mu (upd H a u) mu := ⟨List.prefix_rfl, fun a h n => absurd h n, fun b ob h n => by
    rw [upd_ne (by rintro rfl; exact n am)]; exact h⟩
  have tk : ∀ b vs, H b = some (.tup vs) → upd H a u b = some (.tup vs) := e.tups r
  refine ⟨⟨by simp [r.len], r.nd, fun j b ob h1 h2 => ?_, r.scr.ext e r⟩, e⟩
  by_cases hj : i = j
  · subst hj
    rw [ha] at h1; cases h1
    have hl : i < S.length := by rw [← r.len]; exact (List.getElem?_eq_some_iff.mp ha).1
    rw [List.getElem?_set_self hl] at h2
    cases h2
    exact ho
  · rw [List.getElem?_set_ne hj] at h2
    have nb : b ≠ a := by
      rintro rfl
      obtain ⟨p1, q1⟩ := List.getElem?_eq_some_iff.mp ha
      obtain ⟨p2, q2⟩ := List.getElem?_eq_some_iff.mp h1
      exact hj ((List.getElem_inj r.nd).mp (q1.trans q2.symm))
    exact (r.obs j b ob h1 h2).mono (fun u' h => by rw [upd_ne nb]; exact h) tk List.prefix_rfl
end

/-- the slots -/
structure Re (g : Wd) (H : Hp) (mu : List Addr) (ρ : Env) (σ : L2.St) : Prop where
  len : ρ.length = σ.length
  at_ : ∀ (i : Nat) d, ρ[i]? = some (some d) → ∃ v, σ[i]? = some (some v) ∧ Rv H g.sa mu d v
section
variable {g : Wd} {H H' H1 : Hp} {mu mu' mu1 : List Addr} {S S' : Store} {ρ : Env} {σ : L2.St}
theorem Re.ext (h : Re g H mu ρ σ) (e : Ext H mu H' mu') (r : R g H mu S) : Re g H' mu' ρ σ := ⟨h.len, fun i d h1 => by
  obtain ⟨v, a, b⟩ := h.at_ i d h1
  exact ⟨v, a, b.ext e r⟩⟩
theorem Re.set (h : Re g H mu ρ σ) {i : Nat} {d : D} {v : V} (r : Rv H g.sa mu d v) : Re g H mu (ρ.set i (some d)) (σ.set i (some v)) := ⟨by simp [h.len], fun j e h1 => by
  by_cases hj : i = j
  · subst hj
    have hl : i < ρ.length := by
      have z := (List.getElem?_eq_some_iff.mp h1).1
      rwa [List.length_set] at z
    rw [List.getElem?_set_self hl] at h1
    cases h1
    exact ⟨v, List.getElem?_set_self (by rw [← h.len]; exact hl), r⟩
  · rw [List.getElem?_set_ne hj] at h1
    rw [List.getElem?_set_ne hj]
    exact h.at_ j e h1⟩
theorem wipe_len (ρ : Env) : ∀ l : List Nat, (Lf.wipe ρ l).length = ρ.length
  | [] => rfl
  | v :: vs => by rw [Lf.wipe, List.length_set, wipe_len ρ vs]
theorem Re.wiped (h : Re g H mu ρ σ) : ∀ l : List Nat, Re g H mu (Lf.wipe ρ l) (L2.wipe σ l)
  | [] => h
  | v :: vs => by
    have ih := Re.wiped h vs
    rw [Lf.wipe, L2.wipe]
    refine ⟨by simp [ih.len], fun j e h1 => ?_⟩
    by_cases hj : v = j
    · subst hj
      have z := (List.getElem?_eq_some_iff.mp h1).1
      rw [List.length_set] at z
      rw [List.getElem?_set_self z] at h1
      cases h1
    · rw [List.getElem?_set_ne hj] at h1
      rw [List.getElem?_set_ne hj]
      exact ih.at_ j e h1

/-- what follows a value, told of data -/
def KV (g : Wd) (H : Hp) (mu : List Addr) (Qd : K1) (Q : VK) : Prop :=
  ∀ d S' v H' mu', Ext H mu H' mu' → R g H' mu' S' → Rv H' g.sa mu' d v → Qd d S' → Q v H'
theorem KV.ext {Qd : K1} {Q : VK} (k : KV g H mu Qd Q) (e : Ext H mu H' mu') : KV g H' mu' Qd Q := fun d S v H2 mu2 e2 r rv q => k d S v H2 mu2 (e.trans e2) r rv q
def KVs (g : Wd) (H : Hp) (mu : List Addr) (Qd : List D → Store → Prop) (Q : List V → Hp → Prop) : Prop :=
  ∀ d S' v H' mu', Ext H mu H' mu' → R g H' mu' S' → Rvs H' g.sa mu' d v → Qd d S' → Q v H'
def KS (g : Wd) (H : Hp) (mu : List Addr) (Qd : Env → Store → Prop) (Q : L2.St → Hp → Prop) : Prop :=
  ∀ ρ S' σ H' mu', Ext H mu H' mu' → R g H' mu' S' → Re g H' mu' ρ σ → Qd ρ S' → Q σ H'
theorem KS.ext {Qd : Env → Store → Prop} {Q : L2.St → Hp → Prop} (k : KS g H mu Qd Q) (e : Ext H mu H' mu') : KS g H' mu' Qd Q := fun d S v H2 mu2 e2 r rv q => k d S v H2 mu2 (e.trans e2) r rv q
end

/-! ### readings told of data; no exception (X := never) -/
def never : K1 := fun _ _ => False
def tD (g : Wd) (f : Env → Store → K1 → Prop) : TE := fun σ H Q => ∃ ρ S mu Qd, Re g H mu ρ σ ∧ R g H mu S ∧ f ρ S Qd ∧ KV g H mu Qd Q
def tDT (g : Wd) (f : Env → Store → K1 → Prop) : TT := fun σ H Q => ∃ ρ S mu Qd, Re g H mu ρ σ ∧ R g H mu S ∧ f ρ S Qd ∧
  ∀ d S' H' mu', Ext H mu H' mu' → R g H' mu' S' → Qd d S' → ∃ b, d = .bl b ∧ Q b H'
def tDA (g : Wd) (f : Env → Store → (List D → Store → Prop) → Prop) : TA := fun σ H Q => ∃ ρ S mu Qd, Re g H mu ρ σ ∧ R g H mu S ∧ f ρ S Qd ∧ KVs g H mu Qd Q
def tDS (g : Wd) (f : Env → Store → Lf.Ends → Prop) : TS := fun D σ H => ∃ ρ S mu E, Re g H mu ρ σ ∧ R g H mu S ∧ f ρ S E ∧ E.ex = never ∧
  KS g H mu E.nx D.nx ∧ KV g H mu E.rt D.rt ∧ KS g H mu E.bk D.bk ∧ KS g H mu E.ct D.ct
/-- .. behind a store into names: the slots but those at own are as they were -/
def KSo (g : Wd) (own : List Nat) (σ0 : L2.St) (H : Hp) (mu : List Addr) (Qd : Env → Store → Prop) (Q : L2.St → Hp → Prop) : Prop :=
  ∀ ρ S' σ H' mu', Ext H mu H' mu' → R g H' mu' S' → Re g H' mu' ρ σ → σ.length = σ0.length → (∀ j, j ∉ own → σ[j]? = σ0[j]?) → Qd ρ S' → Q σ H'
theorem KSo.ext {g : Wd} {H H' : Hp} {mu mu' : List Addr} {own : List Nat} {σ0 σ1 : L2.St} {Qd : Env → Store → Prop} {Q : L2.St → Hp → Prop} (k : KSo g own σ0 H mu Qd Q) (e : Ext H mu H' mu') (hl : σ1.length = σ0.length) (ho : ∀ j, j ∉ own → σ1[j]? = σ0[j]?) : KSo g own σ1 H' mu' Qd Q :=
  fun ρ S σ H2 mu2 e2 r re h1 h2 q => k ρ S σ H2 mu2 (e.trans e2) r re (h1.trans hl) (fun j hj => (h2 j hj).trans (ho j hj)) q
def tDG (g : Wd) (own : List Nat) (f : D → Env → Store → (Env → Store → Prop) → Prop) : TG := fun v σ H Q => ∃ d ρ S mu N, Rv H g.sa mu d v ∧ Re g H mu ρ σ ∧ R g H mu S ∧ f d ρ S N ∧ KSo g own σ H mu N Q
def tDGs (g : Wd) (own : List Nat) (f : List D → Env → Store → (Env → Store → Prop) → Prop) : TGs := fun v σ H Q => ∃ d ρ S mu N, Rvs H g.sa mu d v ∧ Re g H mu ρ σ ∧ R g H mu S ∧ f d ρ S N ∧ KSo g own σ H mu N Q

theorem PE.imp {X : Cx} {e : Expr} {t t' : TE} (h : PE X e t) (k : ∀ σ H Q, t' σ H Q → t σ H Q) : PE X e t' := ⟨fun pins s σ H Q I w => h.run pins s σ H Q I (k _ _ _ w)⟩
theorem PT.imp {X : Cx} {e : Expr} {t t' : TT} (h : PT X e t) (k : ∀ σ H Q, t' σ H Q → t σ H Q) : PT X e t' := ⟨fun pins s σ H Q I w => h.run pins s σ H Q I (k _ _ _ w)⟩
theorem PW.imp {X : Cx} {e : Expr} {t t' : TT} (h : PW X e t) (k : ∀ σ H Q, t' σ H Q → t σ H Q) : PW X e t' := ⟨fun wh pins s σ H Q I w => h.run wh pins s σ H Q I (k _ _ _ w)⟩
theorem PA.imp {X : Cx} {e : List Expr} {t t' : TA} (h : PA X e t) (k : ∀ σ H Q, t' σ H Q → t σ H Q) : PA X e t' := ⟨fun pos pins s σ H Q I w => h.run pos pins s σ H Q I (k _ _ _ w)⟩
theorem PS.imp {X : Cx} {e : Stmt} {t t' : TS} (h : PS X e t) (k : ∀ D σ H, t' D σ H → t D σ H) : PS X e t' := ⟨fun pins s σ H D I w => h.run pins s σ H D I (k _ _ _ w)⟩
theorem PSs.imp {X : Cx} {e : List Stmt} {t t' : TS} (h : PSs X e t) (k : ∀ D σ H, t' D σ H → t D σ H) : PSs X e t' := ⟨fun pins s σ H D I w => h.run pins s σ H D I (k _ _ _ w)⟩
theorem PG.imp {X : Cx} {e : Expr} {t t' : TG} (h : PG X e t) (k : ∀ v σ H Q, t' v σ H Q → t v σ H Q) : PG X e t' := ⟨fun pins s σ H v u Q I r w => h.run pins s σ H v u Q I r (k _ _ _ _ w)⟩
theorem PGs.imp {X : Cx} {e : List Expr} {t t' : TGs} (h : PGs X e t) (k : ∀ v σ H Q, t' v σ H Q → t v σ H Q) : PGs X e t' := ⟨fun pins s σ H v u Q I r w => h.run pins s σ H v u Q I r (k _ _ _ _ w)⟩
end Lf

set_option Elab.async false
set_option linter.all false
set_option maxRecDepth 100000
set_option maxHeartbeats 4000000
/-! Lf2: the operators, told of data. -/
namespace Lf
open PySem L2

/-- an operation of two values, of one, of several, told of data -/
def LR (g : Wd) (f : D → D → Store → K1 → Prop) : R2 := fun x y H Q => ∃ dx dy S mu Qd, Rv H g.sa mu dx x ∧ Rv H g.sa mu dy y ∧ R g H mu S ∧ f dx dy S Qd ∧ KV g H mu Qd Q
def LR1 (g : Wd) (f : D → Store → K1 → Prop) : V → Hp → VK → Prop := fun x H Q => ∃ dx S mu Qd, Rv H g.sa mu dx x ∧ R g H mu S ∧ f dx S Qd ∧ KV g H mu Qd Q
def LRs (g : Wd) (f : List D → Store → K1 → Prop) : List V → Hp → VK → Prop := fun x H Q => ∃ dx S mu Qd, Rvs H g.sa mu dx x ∧ R g H mu S ∧ f dx S Qd ∧ KV g H mu Qd Q
def LRm (g : Wd) (f : D → List D → Store → K1 → Prop) : V → List V → Hp → VK → Prop := fun x xs H Q => ∃ d dx S mu Qd, Rv H g.sa mu d x ∧ Rvs H g.sa mu dx xs ∧ R g H mu S ∧ f d dx S Qd ∧ KV g H mu Qd Q
theorem OpR.imp {X : Cx} {f : Value → Value → Sem Value} {r r' : R2} (h : OpR X f r) (k : ∀ x y H Q, r' x y H Q → r x y H Q) : OpR X f r' := fun pins s σ H x y v u Q I rx ry w => h pins s σ H x y v u Q I rx ry (k _ _ _ _ w)
theorem UnR.imp {X : Cx} {f : Value → Sem Value} {r r' : V → Hp → VK → Prop} (h : UnR X f r) (k : ∀ x H Q, r' x H Q → r x H Q) : UnR X f r' := fun pins s σ H x v Q I rx w => h pins s σ H x v Q I rx (k _ _ _ w)
theorem CallR.imp {X : Cx} {f : Value} {r r' : List V → Hp → VK → Prop} (h : CallR X f r) (k : ∀ x H Q, r' x H Q → r x H Q) : CallR X f r' := fun pins s σ H x v Q I rx w => h pins s σ H x v Q I rx (k _ _ _ w)
theorem MtR.imp {X : Cx} {id : String} {r r' : V → List V → Hp → VK → Prop} (h : MtR X id r) (k : ∀ x y H Q, r' x y H Q → r x y H Q) : MtR X id r' := fun pins s σ H x y v u Q I rx ry w => h pins s σ H x y v u Q I rx ry (k _ _ _ _ w)
theorem IxR.imp {X : Cx} {r r' : R2} (h : IxR X r) (k : ∀ x y H Q, r' x y H Q → r x y H Q) : IxR X r' := fun value slice pins s σ H x y v u Q I rx ry w hs => h value slice pins s σ H x y v u Q I rx ry (k _ _ _ _ w) hs
theorem SlR.imp {X : Cx} {r r' : V → Option Int → Option Int → Hp → VK → Prop} (h : SlR X r) (k : ∀ x l u H Q, r' x l u H Q → r x l u H Q) : SlR X r' := fun pins s σ H x v vl vu lo hi sl Q I rx hs pl pu w => h pins s σ H x v vl vu lo hi sl Q I rx hs pl pu (k _ _ _ _ _ w)
theorem PSet.imp {X : Cx} {r r' : TSet} (h : PSet X r) (k : ∀ o i v H Q, r' o i v H Q → r o i v H Q) : PSet X r' := fun pins s σ H o i v ov iv u Q I ro ri rv w => h pins s σ H o i v ov iv u Q I ro ri rv (k _ _ _ _ _ w)
section
variable {g : Wd} {H : Hp} {mu : List Addr} {S : Store} {x y : V} {Q : VK} {Qd : K1}
theorem tOp_lift {fa fb : Env → Store → K1 → Prop} {f : D → D → Store → K1 → Prop} {σ : L2.St} {H : Hp} {Q : VK} (h : tD g (fun ρ S Q => fa ρ S fun x S1 => fb ρ S1 fun y S2 => f x y S2 Q) σ H Q) : tOp (LR g f) (tD g fa) (tD g fb) σ H Q := by
  obtain ⟨ρ, S, mu, Qd, re, r, h, k⟩ := h
  exact ⟨ρ, S, mu, _, re, r, h, fun d S1 v H1 mu1 e1 r1 rv q => ⟨ρ, S1, mu1, _, re.ext e1 r, r1, q, fun d2 S2 v2 H2 mu2 e2 r2 rv2 q2 => ⟨d, d2, S2, mu2, Qd, rv.ext e2 r1, rv2, r2, q2, (k.ext e1).ext e2⟩⟩⟩
theorem tUn_lift {fa : Env → Store → K1 → Prop} {f : D → Store → K1 → Prop} {σ : L2.St} {H : Hp} {Q : VK} (h : tD g (fun ρ S Q => fa ρ S fun x S1 => f x S1 Q) σ H Q) : tUn (LR1 g f) (tD g fa) σ H Q := by
  obtain ⟨ρ, S, mu, Qd, re, r, h, k⟩ := h
  exact ⟨ρ, S, mu, _, re, r, h, fun d S1 v H1 mu1 e1 r1 rv q => ⟨d, S1, mu1, Qd, rv, r1, q, k.ext e1⟩⟩
/-- the value is handed on with the state as it is -/
theorem KV.now {d : D} {v : V} (k : KV g H mu Qd Q) (r : R g H mu S) (rv : Rv H g.sa mu d v) (q : Qd d S) : Q v H := k d S v H mu (.refl _ _) r rv q
/-- a new tuple -/
theorem KV.tup {l : List D} {vs : List V} (k : KV g H mu Qd Q) (r : R g H mu S) (rv : Rvs H g.sa mu l vs) (q : Qd (.tup l) S) {p : Addr} (hp : H p = none) : Q (.ref p) (upd H p (.tup vs)) := by
  obtain ⟨r1, e1⟩ := r.laid (u := .tup vs) hp
  exact k _ S _ _ mu e1 r1 (.tup upd_same (rv.ext e1 r)) q
/-- a new list -/
theorem KV.lst {l : List D} {vs : List V} (k : KV g H mu Qd Q) (r : R g H mu S) (rv : Rvs H g.sa mu l vs) (q : alloc S (.lst l) Qd) {p : Addr} (hp : H p = none) : Q (.ref p) (upd H p (.lst vs)) := by
  have e0 : Ext H mu (upd H p (.lst vs)) mu := (r.laid hp).2
  obtain ⟨r1, e1⟩ := r.alloc (u := .lst vs) (o := .lst l) hp (.lst upd_same (rv.mono g.sa (e0.tups r) (List.prefix_append _ _)))
  refine k _ _ _ _ _ e1 r1 (.obj ?_) q
  rw [← r.len, List.getElem?_append_right (Nat.le_refl _), Nat.sub_self]
  rfl
theorem Rvs.length {H : Hp} {sa : Addr} {mu : List Addr} : ∀ {l : List D} {vs : List V}, Rvs H sa mu l vs → l.length = vs.length
  | [], _, h => by cases h; rfl
  | _ :: _, _, h => by
    cases h with
    | cons _ h2 => simp [Rvs.length h2]
theorem Rvs.append {H : Hp} {sa : Addr} {mu : List Addr} : ∀ {l m : List D} {vs us : List V}, Rvs H sa mu l vs → Rvs H sa mu m us → Rvs H sa mu (l ++ m) (vs ++ us)
  | [], _, _, _, h, h' => by cases h; exact h'
  | _ :: _, _, _, _, h, h' => by
    cases h with
    | cons h1 h2 => exact .cons h1 (Rvs.append h2 h')
theorem Rvs.nil_iff {H : Hp} {sa : Addr} {mu : List Addr} {l : List D} {vs : List V} (h : Rvs H sa mu l vs) : vs = [] ↔ l = [] := by
  cases h <;> simp
theorem Rvs.get {H : Hp} {sa : Addr} {mu : List Addr} : ∀ {l : List D} {vs : List V} {i : Nat} {d : D}, Rvs H sa mu l vs → l[i]? = some d → ∃ v, vs[i]? = some v ∧ Rv H sa mu d v
  | [], _, _, _, h, e => by simp at e
  | _ :: _, _, 0, _, h, e => by
    cases h with
    | cons h1 h2 => simp at e; subst e; exact ⟨_, rfl, h1⟩
  | _ :: _, _, i + 1, _, h, e => by
    cases h with
    | cons h1 h2 =>
      obtain ⟨v, a, b⟩ := Rvs.get (i := i) h2 (by simpa using e)
      exact ⟨v, by simpa using a, b⟩
theorem Rvs.take {H : Hp} {sa : Addr} {mu : List Addr} : ∀ {l : List D} {vs : List V} (n : Nat), Rvs H sa mu l vs → Rvs H sa mu (l.take n) (vs.take n)
  | _, _, 0, _ => .nil
  | [], _, _ + 1, h => by cases h; exact .nil
  | _ :: _, _, n + 1, h => by
    cases h with
    | cons h1 h2 => exact .cons h1 (Rvs.take n h2)
theorem Rvs.drop {H : Hp} {sa : Addr} {mu : List Addr} : ∀ {l : List D} {vs : List V} (n : Nat), Rvs H sa mu l vs → Rvs H sa mu (l.drop n) (vs.drop n)
  | _, _, 0, h => h
  | [], _, _ + 1, h => by cases h; exact .nil
  | _ :: _, _, n + 1, h => by
    cases h with
    | cons h1 h2 => exact Rvs.drop n h2
theorem Rvs.cut {H : Hp} {sa : Addr} {mu : List Addr} {l : List D} {vs : List V} (h : Rvs H sa mu l vs) (lo hi : Option Int) : Rvs H sa mu (Lf.cut l lo hi) (cutV vs lo hi) := by
  unfold Lf.cut cutV
  rw [h.length]
  exact (h.drop _).take _
theorem Rvs.set {H : Hp} {sa : Addr} {mu : List Addr} {d : D} {v : V} (r : Rv H sa mu d v) : ∀ {l : List D} {vs : List V} (n : Nat), Rvs H sa mu l vs → Rvs H sa mu (l.set n d) (vs.set n v)
  | [], _, _, h => by cases h; exact .nil
  | _ :: _, _, 0, h => by
    cases h with
    | cons h1 h2 => exact .cons r h2
  | _ :: _, _, n + 1, h => by
    cases h with
    | cons h1 h2 => exact .cons h1 (Rvs.set r n h2)
theorem Rvs.eraseIdx {H : Hp} {sa : Addr} {mu : List Addr} : ∀ {l : List D} {vs : List V} (n : Nat), Rvs H sa mu l vs → Rvs H sa mu (l.eraseIdx n) (vs.eraseIdx n)
  | [], _, _, h => by cases h; exact .nil
  | _ :: _, _, 0, h => by
    cases h with
    | cons h1 h2 => exact h2
  | _ :: _, _, n + 1, h => by
    cases h with
    | cons h1 h2 => exact .cons h1 (Rvs.eraseIdx n h2)
theorem Rvs.reverse {H : Hp} {sa : Addr} {mu : List Addr} : ∀ {l : List D} {vs : List V}, Rvs H sa mu l vs → Rvs H sa mu l.reverse vs.reverse
  | [], _, h => by cases h; exact .nil
  | _ :: _, _, h => by
    cases h with
    | cons h1 h2 =>
      rw [List.reverse_cons, List.reverse_cons]
      exact (Rvs.reverse h2).append (.cons h1 .nil)
/-- the items of a list or tuple, in the abstract heap -/
theorem items_in {x : D} {l : List D} {v : V} (r : R g H mu S) (rv : Rv H g.sa mu x v) (h : itemsAt S x = some l) :
    ∃ a vs, v = .ref a ∧ Rvs H g.sa mu l vs ∧ ((∃ m, x = .tup m ∧ H a = some (.tup vs)) ∨ (∃ i : Nat, x = .obj i ∧ mu[i]? = some a ∧ H a = some (.lst vs))) := by
  unfold itemsAt at h
  split at h
  · rename_i m
    cases h
    cases rv with
    | tup h1 h2 => exact ⟨_, _, rfl, h2, .inl ⟨_, rfl, h1⟩⟩
  · rename_i i
    split at h
    · rename_i m hm
      cases h
      cases rv with
      | obj h1 =>
        have q := r.obs _ _ _ h1 hm
        cases q with
        | lst q1 q2 => exact ⟨_, _, rfl, q2, .inr ⟨i, rfl, h1, q1⟩⟩
    · cases h
  · cases h
theorem items_sq {x : D} {l : List D} {v : V} (r : R g H mu S) (rv : Rv H g.sa mu x v) (h : itemsAt S x = some l) :
    ∃ a vs, v = .ref a ∧ Rvs H g.sa mu l vs ∧ (SqL g.K H a vs ∨ SqT g.K H a vs) := by
  obtain ⟨a, vs, e, h1, ⟨m, _, h2⟩ | ⟨i, _, _, h2⟩⟩ := items_in r rv h
  · exact ⟨a, vs, e, h1, .inr (.of h2)⟩
  · exact ⟨a, vs, e, h1, .inl (.of h2)⟩

/-! ### arithmetic -/
theorem lr_add (h : LR g (wBin .Add) x y H Q) : rI0 (fun i j => V.int (i + j)) x y H Q ∨ ((∃ i j, x = .str i ∧ y = .str j ∧ i.length + j.length ≤ sizeLine ∧ Q (.str (i ++ j)) H) ∨ (rCatA g.K x y H Q ∨ rCat x y H Q)) := by
  obtain ⟨dx, dy, S, mu, Qd, rx, ry, r, h, k⟩ := h
  cases dx <;> cases dy <;> first
    | exact False.elim h
    | (cases rx; cases ry; exact .inl ⟨_, _, rfl, rfl, k.now r (.int _) h⟩)
    | (cases rx; cases ry; exact .inr (.inl ⟨_, _, rfl, rfl, h.1, k.now r (.str _) h.2⟩))
    | skip
  · obtain ⟨hz, q⟩ := h
    cases rx with
    | tup h1 h2 =>
      cases ry with
      | tup h3 h4 =>
        refine .inr (.inr (.inl ⟨_, _, _, _, rfl, rfl, .of h1, .of h3, by rw [← h2.length, ← h4.length]; exact hz, fun e => ?_, fun e e' => ?_, fun e e' p hp => ?_⟩))
        · have e1 := h2.nil_iff.mp e
          subst e1
          exact k.now r (.tup h3 h4) q
        · have e1 := h4.nil_iff.mp e'
          subst e1
          rw [List.append_nil] at q
          exact k.now r (.tup h1 h2) q
        · exact k.tup r (h2.append h4) q hp
  · obtain ⟨a, b, ha, hb, hz, q⟩ := h
    cases rx with
    | obj h1 =>
      cases ry with
      | obj h2 =>
        have q1 := r.obs _ _ _ h1 ha
        have q2 := r.obs _ _ _ h2 hb
        cases q1 with
        | lst a1 a2 =>
          cases q2 with
          | lst b1 b2 => exact .inr (.inr (.inr ⟨_, _, _, _, rfl, rfl, a1, b1, by rw [← a2.length, ← b2.length]; exact hz, fun p hp => k.lst r (a2.append b2) q hp⟩))
theorem lr_sub (h : LR g (wBin .Sub) x y H Q) : rI0 (fun i j => V.int (i - j)) x y H Q := by
  obtain ⟨dx, dy, S, mu, Qd, rx, ry, r, h, k⟩ := h
  cases dx <;> cases dy <;> first
    | exact False.elim h
    | (cases rx; cases ry; exact ⟨_, _, rfl, rfl, k.now r (.int _) h⟩)
theorem lr_mul (h : LR g (wBin .Mult) x y H Q) : rI CMul (fun i j => V.int (i * j)) x y H Q := by
  obtain ⟨dx, dy, S, mu, Qd, rx, ry, r, h, k⟩ := h
  cases dx <;> cases dy <;> first
    | exact False.elim h
    | (cases rx; cases ry; exact ⟨_, _, rfl, rfl, h.1, k.now r (.int _) h.2⟩)
theorem lr_fdiv (h : LR g (wBin .FloorDiv) x y H Q) : rI CDiv (fun i j => V.int (i / j)) x y H Q := by
  obtain ⟨dx, dy, S, mu, Qd, rx, ry, r, h, k⟩ := h
  cases dx <;> cases dy <;> first
    | exact False.elim h
    | (cases rx; cases ry; exact ⟨_, _, rfl, rfl, h.1, k.now r (.int _) h.2⟩)
theorem lr_mod (h : LR g (wBin .Mod) x y H Q) : rI (fun _ j => 0 < j) (fun i j => V.int (i % j)) x y H Q := by
  obtain ⟨dx, dy, S, mu, Qd, rx, ry, r, h, k⟩ := h
  cases dx <;> cases dy <;> first
    | exact False.elim h
    | (cases rx; cases ry; exact ⟨_, _, rfl, rfl, h.1, k.now r (.int _) h.2⟩)
theorem lr_pow (h : LR g (wBin .Pow) x y H Q) : rI CPow (fun i j => V.int (i ^ j.toNat)) x y H Q := by
  obtain ⟨dx, dy, S, mu, Qd, rx, ry, r, h, k⟩ := h
  cases dx <;> cases dy <;> first
    | exact False.elim h
    | (cases rx; cases ry; exact ⟨_, _, rfl, rfl, h.1, k.now r (.int _) h.2⟩)
/-- the operators that are told -/
def okBin : Operator → Bool
  | .Add | .Sub | .Mult | .FloorDiv | .Mod | .Pow => true
  | _ => false
theorem op_bin {X : Cx} (eK : X.K = g.K) (o : Operator) (h : okBin o = true) : OpR X (binaryOp o) (LR g (wBin o)) := by
  cases o <;> first | exact absurd h Bool.false_ne_true | skip
  · refine OpR.imp (op_add.or (op_add_str.or (op_catA.or op_cat))) fun x y H Q w => ?_
    rw [eK]
    exact lr_add w
  · exact OpR.imp op_sub fun x y H Q w => lr_sub w
  · exact OpR.imp op_mul fun x y H Q w => lr_mul w
  · exact OpR.imp op_mod fun x y H Q w => lr_mod w
  · exact OpR.imp op_pow fun x y H Q w => lr_pow w
  · exact OpR.imp op_fdiv fun x y H Q w => lr_fdiv w
end
end Lf

set_option Elab.async false
set_option linter.all false
set_option maxRecDepth 100000
set_option maxHeartbeats 4000000
/-! Lf3: comparisons, built-in functions, methods, subscripts, told of data. -/
namespace Lf
open PySem L2
/-- an atom as a key -/
inductive KA : D → Key → Prop
  | int (i : Int) : KA (.int i) (.inl i)
  | str (x : Str) : KA (.str x) (.inr x)
section
variable {g : Wd} {H : Hp} {mu : List Addr} {S : Store} {x y : V} {Q : VK} {Qd : K1}
mutual
theorem Rd.dp (r : R g H mu S) : ∀ (p : PyData) (d : D) (v : V), Rd S d p → Rv H g.sa mu d v → Dp g.K H v p
  | .none, _, _, h, rv => by cases h; cases rv; exact .non
  | .bool b, _, _, h, rv => by cases h; cases rv; exact .bl b
  | .int i, _, _, h, rv => by cases h; cases rv; exact .int i
  | .str x, _, _, h, rv => by cases h; cases rv; exact .str x
  | .tuple ps, _, _, h, rv => by
    cases h with
    | tup h1 =>
      cases rv with
      | tup h2 h3 => exact .tup (.of h2) (Rds.dp r ps _ _ h1 h3)
  | .list ps, _, _, h, rv => by
    cases h with
    | lst h1 h2 =>
      cases rv with
      | obj h3 =>
        have q := r.obs _ _ _ h3 h1
        cases q with
        | lst q1 q2 => exact .lst (.of q1) (Rds.dp r ps _ _ h2 q2)
  | .dict _, _, _, h, _ => by cases h
theorem Rds.dp (r : R g H mu S) : ∀ (p : List PyData) (d : List D) (v : List V), Rds S d p → Rvs H g.sa mu d v → DpAll g.K H v p
  | [], _, _, h, rv => by cases h; cases rv; exact .nil
  | p :: ps, _, _, h, rv => by
    cases h with
    | cons h1 h2 =>
      cases rv with
      | cons r1 r2 => exact .cons (Rd.dp r p _ _ h1 r1) (Rds.dp r ps _ _ h2 r2)
end
/-- a comparison, told of data -/
def CR (o : CmpOp) : D → D → Store → K1 → Prop := fun x y S Q => wCmp o x y S fun t => Q (.bl t) S
theorem lr_eq (h : LR g (CR .Eq) x y H Q) : rEqD g.K x y H Q ∨ rEq x y H Q := by
  obtain ⟨dx, dy, S, mu, Qd, rx, ry, r, ⟨p, q, h1, h2, s1, s2, hq⟩ | ⟨a, b, rfl, rfl, hq⟩, k⟩ := h
  · exact .inl ⟨p, q, h1.dp r _ _ _ rx, h2.dp r _ _ _ ry, s1, s2, k.now r (.bl _) hq⟩
  · cases rx
    cases ry
    refine .inr ⟨rfl, ?_⟩
    have e : decide (V.str a = V.str b) = decide (a = b) := by
      congr 1
      exact propext ⟨fun h => by injection h, fun h => by rw [h]⟩
    rw [e]
    exact k.now r (.bl _) hq
theorem lr_ne (h : LR g (CR .NotEq) x y H Q) : rNeD g.K x y H Q ∨ rNe x y H Q := by
  obtain ⟨dx, dy, S, mu, Qd, rx, ry, r, ⟨p, q, h1, h2, s1, s2, hq⟩ | ⟨a, b, rfl, rfl, hq⟩, k⟩ := h
  · exact .inl ⟨p, q, h1.dp r _ _ _ rx, h2.dp r _ _ _ ry, s1, s2, k.now r (.bl _) hq⟩
  · cases rx
    cases ry
    refine .inr ⟨rfl, ?_⟩
    have e : decide (V.str a = V.str b) = decide (a = b) := by
      congr 1
      exact propext ⟨fun h => by injection h, fun h => by rw [h]⟩
    rw [e]
    exact k.now r (.bl _) hq
theorem lr_lt (h : LR g (CR .Lt) x y H Q) : rI0 (fun i j => V.bl (decide (i < j))) x y H Q ∨ (∃ i j, x = .str i ∧ y = .str j ∧ Q (.bl (decide (i.cps.toList < j.cps.toList))) H) := by
  obtain ⟨dx, dy, S, mu, Qd, rx, ry, r, ⟨a, b, rfl, rfl, q⟩ | ⟨a, b, rfl, rfl, q⟩, k⟩ := h
  · cases rx; cases ry; exact .inl ⟨_, _, rfl, rfl, k.now r (.bl _) q⟩
  · cases rx; cases ry; exact .inr ⟨_, _, rfl, rfl, k.now r (.bl _) q⟩
theorem lr_le (h : LR g (CR .LtE) x y H Q) : rI0 (fun i j => V.bl (decide (i ≤ j))) x y H Q := by
  obtain ⟨dx, dy, S, mu, Qd, rx, ry, r, ⟨a, b, rfl, rfl, q⟩, k⟩ := h
  cases rx; cases ry; exact ⟨_, _, rfl, rfl, k.now r (.bl _) q⟩
theorem lr_gt (h : LR g (CR .Gt) x y H Q) : rI0 (fun i j => V.bl (decide (j < i))) x y H Q := by
  obtain ⟨dx, dy, S, mu, Qd, rx, ry, r, ⟨a, b, rfl, rfl, q⟩, k⟩ := h
  cases rx; cases ry; exact ⟨_, _, rfl, rfl, k.now r (.bl _) q⟩
theorem lr_ge (h : LR g (CR .GtE) x y H Q) : rI0 (fun i j => V.bl (decide (j ≤ i))) x y H Q := by
  obtain ⟨dx, dy, S, mu, Qd, rx, ry, r, ⟨a, b, rfl, rfl, q⟩, k⟩ := h
  cases rx; cases ry; exact ⟨_, _, rfl, rfl, k.now r (.bl _) q⟩
theorem Rv.non_iff {sa : Addr} {d : D} (h : Rv H sa mu d x) : decide (x = .non) = decide (d = .non) := by
  cases h <;> rfl
theorem lr_is (h : LR g (CR .Is) x y H Q) : y = .non ∧ Q (.bl (decide (x = .non))) H := by
  obtain ⟨dx, dy, S, mu, Qd, rx, ry, r, ⟨rfl, q⟩, k⟩ := h
  cases ry
  rw [rx.non_iff]
  exact ⟨rfl, k.now r (.bl _) q⟩
theorem lr_isn (h : LR g (CR .IsNot) x y H Q) : y = .non ∧ Q (.bl (!decide (x = .non))) H := by
  obtain ⟨dx, dy, S, mu, Qd, rx, ry, r, ⟨rfl, q⟩, k⟩ := h
  cases ry
  rw [rx.non_iff]
  exact ⟨rfl, k.now r (.bl _) q⟩

/-! ### dicts -/
theorem KA.of {k : D} (h : k.keyA = true) : ∃ i, KA k i := by
  cases k <;> first | exact ⟨_, .int _⟩ | exact ⟨_, .str _⟩ | (simp [D.keyA] at h)
theorem KA.eq_iff {k k' : D} {i i' : Key} (a : KA k i) (b : KA k' i') : (k = k') ↔ (i = i') := by
  cases a <;> cases b <;> simp
theorem KA.rv {k : D} {i : Key} {sa : Addr} {v : V} (a : KA k i) (r : Rv H sa mu k v) : v = kV i := by
  cases a <;> cases r <;> rfl
theorem KvA.look {sa : Addr} {k : D} {i : Key} (a : KA k i) : ∀ {l : List (D × D)} {kvs : List (Key × V)}, KvA H sa mu l kvs → (Lf.look l k = none ∧ valV kvs i = none) ∨ ∃ d v, Lf.look l k = some d ∧ valV kvs i = some v ∧ Rv H sa mu d v
  | [], _, h => by cases h; exact .inl ⟨rfl, rfl⟩
  | (k', d) :: l, _, h => by
    have key : ∀ (i' : Key) (v : V) (r : List (Key × V)), KA k' i' → Rv H sa mu d v → KvA H sa mu l r → (Lf.look ((k', d) :: l) k = none ∧ valV ((i', v) :: r) i = none) ∨ ∃ d' v', Lf.look ((k', d) :: l) k = some d' ∧ valV ((i', v) :: r) i = some v' ∧ Rv H sa mu d' v' := by
      intro i' v r ka rv rr
      by_cases e : k' = k
      · have e2 := (ka.eq_iff a).mp e
        exact .inr ⟨d, v, by simp [Lf.look, e], by simp [valV, e2], rv⟩
      · have e2 : ¬ i' = i := fun z => e ((ka.eq_iff a).mpr z)
        have := KvA.look a rr
        simpa [Lf.look, valV, e, e2] using this
    cases h with
    | int rv rr => exact key _ _ _ (.int _) rv rr
    | str rv rr => exact key _ _ _ (.str _) rv rr
mutual
/-- a key's tuple in the heap -/
theorem key_is {X : Cx} {pins : List (Addr × Obj)} {σ : L2.St} {s : Shared} (I : Inv X pins σ H s) {sa : Addr} : ∀ (d : D) (n : NestedKey) (v : V) (u : Value), d.key = some n → Rv H sa mu d v → RelV v u → NestedIs s.heap n u
  | .non, _, _, _, h, rv, ru => by
    rw [D.key] at h; cases h; cases rv; cases ru; exact .none
  | .bl _, _, _, _, h, _, _ => by simp [D.key] at h
  | .int i, _, _, _, h, rv, ru => by
    rw [D.key] at h; cases h; cases rv; obtain ⟨t, rfl⟩ := ru; exact .int _ _
  | .str x, _, _, _, h, rv, ru => by
    rw [D.key] at h; cases h; cases rv; obtain ⟨t, rfl⟩ := ru; exact .text _ _
  | .tup l, _, _, _, h, rv, ru => by
    rw [D.key] at h
    obtain ⟨ks, h1, h2⟩ := Option.map_eq_some_iff.mp h
    subst h2
    cases rv with
    | tup a1 a2 =>
      cases ru
      obtain ⟨z, its, r, o, ho, hc, m, hd⟩ := I.hok _ _ a1
      refine .tup ho hc hd ?_
      rw [show its.toArray.toList = its by simp]
      exact keys_are I l ks _ _ h1 a2 r
  | .obj _, _, _, _, h, _, _ => by simp [D.key] at h
  | .scr, _, _, _, h, _, _ => by simp [D.key] at h
theorem keys_are {X : Cx} {pins : List (Addr × Obj)} {σ : L2.St} {s : Shared} (I : Inv X pins σ H s) {sa : Addr} : ∀ (d : List D) (n : List NestedKey) (v : List V) (u : List Value), D.keys d = some n → Rvs H sa mu d v → Vals v u → NestedAll s.heap n u
  | [], _, _, _, h, rv, ru => by
    rw [D.keys] at h; cases h; cases rv; cases ru; exact .nil
  | d :: l, _, _, _, h, rv, ru => by
    rw [D.keys] at h
    split at h
    · rename_i k r e1 e2
      cases h
      cases rv with
      | cons r1 r2 =>
        cases ru with
        | cons u1 u2 => exact .cons (key_is I d _ _ _ e1 r1 u1) (keys_are I l _ _ _ e2 r2 u2)
    · cases h
end

/-- a dict with tuple keys, in the heap -/
theorem dict_keyed {X : Cx} {pins : List (Addr × Obj)} {σ : L2.St} {s : Shared} (eP : X.prog = g.P) (eW : X.w = g.w) (I : Inv X pins σ H s) {a : Addr} {xs : List (NestedKey × Addr × V)} {l : List (D × D)}
    (h : H a = some (.ext (dictObj g a xs))) (kv : KvT H g.sa mu l xs) : ∃ ys, Paired (fun (p : NestedKey × Addr × V) (q : NestedKey × Addr × Value) => p.1 = q.1 ∧ p.2.1 = q.2.1 ∧ RelV p.2.2 q.2.2) xs ys ∧ s.heap.DictOfH (nestedKind X.prog X.w) a ys := by
  rw [eP, eW]
  obtain ⟨⟨ys, rel, o, es, ep, ho, he, hd, hes, nd⟩, -, -⟩ := I.hok _ _ h
  refine ⟨ys, rel, o, es, ep, ho, he, hd, hes, ?_, nd⟩
  clear hes nd h
  induction kv generalizing ys with
  | nil => cases rel; intro x hx; cases hx
  | cons k1 k2 r1 _ _ ih =>
    cases rel with
    | cons q rel' =>
      obtain ⟨e1, e2, _⟩ := q
      intro x hx
      rcases List.mem_cons.mp hx with rfl | hx
      · rw [← e1, ← e2]
        exact ⟨key_is I _ _ _ _ k1 r1 rfl, k2⟩
      · exact ih _ rel' x hx

mutual
theorem key_inj : ∀ (a b : D) (n : NestedKey), a.key = some n → b.key = some n → a = b
  | .non, b, _, h, h' => by
    rw [D.key] at h; cases h
    cases b <;> simp_all [D.key]
  | .bl _, _, _, h, _ => by simp [D.key] at h
  | .int i, b, _, h, h' => by
    rw [D.key] at h; cases h
    cases b <;> simp_all [D.key]
  | .str x, b, _, h, h' => by
    rw [D.key] at h; cases h
    cases b <;> simp_all [D.key]
  | .tup l, b, _, h, h' => by
    rw [D.key] at h
    obtain ⟨ks, h1, h2⟩ := Option.map_eq_some_iff.mp h
    subst h2
    cases b with
    | tup m =>
      rw [D.key] at h'
      obtain ⟨ks', h3, h4⟩ := Option.map_eq_some_iff.mp h'
      cases h4
      rw [keys_inj l m _ h1 h3]
    | _ => simp [D.key] at h'
  | .obj _, _, _, h, _ => by simp [D.key] at h
  | .scr, _, _, h, _ => by simp [D.key] at h
theorem keys_inj : ∀ (a b : List D) (n : List NestedKey), D.keys a = some n → D.keys b = some n → a = b
  | [], b, _, h, h' => by
    rw [D.keys] at h; cases h
    cases b with
    | nil => rfl
    | cons c m =>
      rw [D.keys] at h'
      split at h' <;> cases h'
  | a :: l, b, _, h, h' => by
    rw [D.keys] at h
    split at h
    · rename_i k r e1 e2
      cases h
      cases b with
      | nil => simp [D.keys] at h'
      | cons c m =>
        rw [D.keys] at h'
        split at h'
        · rename_i k' r' e3 e4
          injection h' with h'
          injection h' with i1 i2
          subst i1 i2
          rw [key_inj a c _ e1 e3, keys_inj l m _ e2 e4]
        · cases h'
    · cases h
end
theorem keyT_key {d : D} (h : d.keyT = true) : ∃ n, d.key = some n ∧ n.depth ≤ 8 := by
  unfold D.keyT at h
  split at h
  · rename_i l
    split at h
    · rename_i k e
      exact ⟨.tup k, by rw [D.key, e]; rfl, of_decide_eq_true h⟩
    · cases h
  · cases h
theorem key_ref {d : D} {sa : Addr} {v : V} (h : d.keyT = true) (r : Rv H sa mu d v) : ∃ b, v = .ref b := by
  unfold D.keyT at h
  split at h
  · cases r; exact ⟨_, rfl⟩
  · cases h
abbrev PairX : List (NestedKey × Addr × V) → List (NestedKey × Addr × Value) → Prop := Paired fun p q => p.1 = q.1 ∧ p.2.1 = q.2.1 ∧ RelV p.2.2 q.2.2
theorem KvT.look {sa : Addr} {k : D} {n : NestedKey} (hk : k.key = some n) : ∀ {l : List (D × D)} {xs : List (NestedKey × Addr × V)} {ys : List (NestedKey × Addr × Value)}, KvT H sa mu l xs → PairX xs ys →
    (Lf.look l k = none ∧ (xs.find? fun x => decide (x.1 = n)) = none ∧ atKey ys n = none) ∨ ∃ d v u b, Lf.look l k = some d ∧ ((xs.find? fun x => decide (x.1 = n)).isSome = true) ∧ atKey ys n = some (b, u) ∧ RelV v u ∧ Rv H sa mu d v
  | [], _, _, h, p => by
    cases h
    cases p
    exact .inl ⟨rfl, rfl, rfl⟩
  | (k', d) :: l, _, _, h, p => by
    cases h with
    | cons k1 k2 r1 r2 rr =>
      cases p with
      | cons q pp =>
        rename_i n' a v _ y _
        obtain ⟨m, c, u⟩ := y
        obtain ⟨e1, e2, e3⟩ := q
        simp only at e1 e2 e3
        subst e1 e2
        by_cases e : k' = k
        · subst e
          rw [hk] at k1
          cases k1
          exact .inr ⟨d, v, u, a, by simp [Lf.look], by simp, by simp [atKey], e3, r2⟩
        · have e2 : ¬ n' = n := by
            rintro rfl
            exact e (key_inj _ _ _ k1 hk)
          have := KvT.look hk rr pp
          simpa [Lf.look, atKey, e, e2] using this
def putX (xs : List (NestedKey × Addr × V)) (n : NestedKey) (b : Addr) (v : V) : List (NestedKey × Addr × V) :=
  if (xs.find? fun x => decide (x.1 = n)).isSome = true then xs.map fun x => if x.1 = n then (x.1, x.2.1, v) else x else xs ++ [(n, b, v)]
theorem KvT.map_put {sa : Addr} {k d : D} {n : NestedKey} {v : V} (hk : k.key = some n) (rd : Rv H sa mu d v) : ∀ {l : List (D × D)} {xs : List (NestedKey × Addr × V)}, KvT H sa mu l xs →
    KvT H sa mu (l.map fun p => if p.1 = k then (p.1, d) else p) (xs.map fun x => if x.1 = n then (x.1, x.2.1, v) else x)
  | [], _, h => by cases h; exact .nil
  | (k', d') :: l, _, h => by
    cases h with
    | cons k1 k2 r1 r2 rr =>
      rename_i n' a v' _
      rw [List.map_cons, List.map_cons]
      by_cases e : k' = k
      · subst e
        rw [hk] at k1; cases k1
        simp only [if_true]
        exact .cons hk k2 r1 rd (KvT.map_put hk rd rr)
      · have e2 : ¬ n' = n := by
          rintro rfl
          exact e (key_inj _ _ _ k1 hk)
        simp only [e, e2, if_false]
        exact .cons k1 k2 r1 r2 (KvT.map_put hk rd rr)
theorem KvT.snoc {sa : Addr} {k d : D} {n : NestedKey} {b : Addr} {v : V} (hk : k.key = some n) (hd : n.depth ≤ 8) (rk : Rv H sa mu k (.ref b)) (rd : Rv H sa mu d v) : ∀ {l : List (D × D)} {xs : List (NestedKey × Addr × V)}, KvT H sa mu l xs →
    KvT H sa mu (l ++ [(k, d)]) (xs ++ [(n, b, v)])
  | [], _, h => by cases h; exact .cons hk hd rk rd .nil
  | _ :: _, _, h => by
    cases h with
    | cons k1 k2 r1 r2 rr => exact .cons k1 k2 r1 r2 (KvT.snoc hk hd rk rd rr)
theorem PairX.map_put {n : NestedKey} {v : V} {u : Value} (r : RelV v u) : ∀ {xs : List (NestedKey × Addr × V)} {ys : List (NestedKey × Addr × Value)}, PairX xs ys → PairX (xs.map fun x => if x.1 = n then (x.1, x.2.1, v) else x) (ys.map (putAt n u))
  | _, _, .nil => .nil
  | _, _, .cons (a := x) (b := y) q t => by
    rw [List.map_cons, List.map_cons]
    refine .cons ?_ (PairX.map_put r t)
    obtain ⟨e1, e2, e3⟩ := q
    unfold putAt
    rw [← e1]
    by_cases e : x.1 = n
    · simp only [e, if_true]
      exact ⟨trivial, e2, r⟩
    · simp only [e, if_false]
      exact ⟨e1, e2, e3⟩
theorem PairX.snoc {n : NestedKey} {b : Addr} {v : V} {u : Value} (r : RelV v u) : ∀ {xs : List (NestedKey × Addr × V)} {ys : List (NestedKey × Addr × Value)}, PairX xs ys → PairX (xs ++ [(n, b, v)]) (ys ++ [(n, b, u)])
  | _, _, .nil => .cons ⟨rfl, rfl, r⟩ .nil
  | _, _, .cons q t => .cons q (PairX.snoc r t)
end
end Lf

set_option Elab.async false
set_option linter.all false
set_option maxRecDepth 100000
set_option maxHeartbeats 4000000
/-! Lf4: in, subscripts, stores, built-in functions and methods, told of data. -/
namespace Lf
open PySem L2
/-- the context of a law's def: what every piece of it may use -/
structure Good (g : Wd) (X : Cx) : Prop where
  eP : X.prog = g.P
  eW : X.w = g.w
  eK : X.K = g.K
  calm : X.calm = true
  nd : X.N.Nodup
  hu : X.A.units + 200 < cLine
  hh : X.A.handled = none
  gd : X.A.guards = some []
section
variable {g : Wd} {H : Hp} {mu : List Addr} {S : Store} {x y : V} {Q : VK} {Qd : K1} {X : Cx} {pins : List (Addr × Obj)} {σ : L2.St} {s : Shared}

theorem all_keyT {sa : Addr} {l : List (D × D)} {kvs : List (Key × V)} (h : KvA H sa mu l kvs) (k : l.all (·.1.keyT) = true) : l = [] ∧ kvs = [] := by
  cases h with
  | nil => exact ⟨rfl, rfl⟩
  | int _ _ => simp [D.keyT] at k
  | str _ _ => simp [D.keyT] at k
theorem all_keyA {sa : Addr} {l : List (D × D)} {xs : List (NestedKey × Addr × V)} (h : KvT H sa mu l xs) (k : l.all (·.1.keyA) = true) : l = [] := by
  cases h with
  | nil => rfl
  | cons _ _ r1 _ _ =>
    exfalso
    cases r1 with
    | tup _ _ => simp [D.keyA] at k
    | obj _ => simp [D.keyA] at k
    | scr => simp [D.keyA] at k
/-- a dict and a key of it, either kind -/
theorem dict_two {a : Addr} {l : List (D × D)} {d : D} (o : ObR g H mu a (.dic l)) (k : keyFor l d = true) :
    (∃ kvs i, H a = some (.dK kvs) ∧ KvA H g.sa mu l kvs ∧ KA d i) ∨ (d.keyT = true ∧ ((H a = some (.dK []) ∧ l = []) ∨ ∃ xs, H a = some (.ext (dictObj g a xs)) ∧ KvT H g.sa mu l xs ∧ l ≠ [] ∧ (a == sysModules) = false)) := by
  unfold keyFor at k
  simp only [Bool.or_eq_true, Bool.and_eq_true] at k
  cases o with
  | dicA h1 h2 =>
    rcases k with ⟨k1, k2⟩ | ⟨k1, k2⟩
    · obtain ⟨rfl, rfl⟩ := all_keyT h2 k2
      exact .inr ⟨k1, .inl ⟨h1, rfl⟩⟩
    · obtain ⟨i, hi⟩ := KA.of k1
      exact .inl ⟨_, i, h1, h2, hi⟩
  | dicT h1 h2 h3 h4 =>
    rcases k with ⟨k1, k2⟩ | ⟨k1, k2⟩
    · exact .inr ⟨k1, .inr ⟨_, h1, h2, h3, h4⟩⟩
    · exact absurd (all_keyA h2 k2) h3
/-- .. whose key is a tuple: the library's dict -/
theorem dict_ys (G : Good g X) (I : Inv X pins σ H s) {a : Addr} {l : List (D × D)} (h : (H a = some (.dK []) ∧ l = []) ∨ ∃ xs, H a = some (.ext (dictObj g a xs)) ∧ KvT H g.sa mu l xs ∧ l ≠ [] ∧ (a == sysModules) = false) :
    ∃ xs ys, KvT H g.sa mu l xs ∧ PairX xs ys ∧ s.heap.DictOfH (nestedKind X.prog X.w) a ys ∧ (a == sysModules) = false ∧ Mut (H a) ∧ (∀ vs, H a ≠ some (.tup vs)) := by
  rcases h with ⟨h, rfl⟩ | ⟨xs, h1, h2, _, h4⟩
  · obtain ⟨z, hd, vs, rel, dd⟩ := dk_of I.hok h
    cases rel
    obtain ⟨o, es, ep, ho, he, hdt, _, hes, _⟩ := dd
    refine ⟨[], [], .nil, .nil, ⟨o, es, ep, ho, he, hdt, ?_, (fun x hx => nomatch hx), List.nodup_nil⟩, hd, by rw [h]; trivial, fun vs e => by rw [h] at e; cases e⟩
    cases hp : es.toList with
    | nil => rfl
    | cons e r => rw [hp] at hes; cases hes
  · obtain ⟨ys, p, dd⟩ := dict_keyed G.eP G.eW I h1 h2
    exact ⟨xs, ys, h2, p, dd, h4, by rw [h1]; trivial, fun vs e => by rw [h1] at e; cases e⟩
theorem keyT_is (I : Inv X pins σ H s) {sa : Addr} {d : D} {b : Addr} {n : NestedKey} (hk : d.key = some n) (hd : n.depth ≤ 8) (r : Rv H sa mu d (.ref b)) : (nestedKind X.prog X.w).is s.heap n b := ⟨key_is I d n _ _ hk r rfl, hd⟩
theorem roomN (G : Good g X) : (nestedKind X.prog X.w).room X.A.in1 := by
  show X.A.units + 1 + 8 < cLine
  have := G.hu
  omega

/-- x in y -/
theorem op_in (G : Good g X) : OpR X (compareOp .In) (LR g (CR .In)) := by
  intro pins s σ H x y v u Q I rx ry h
  obtain ⟨dx, dy, S, mu, Qd, vx, vy, r, h, k⟩ := h
  rcases h with ⟨l, p, ps, hi, h1, h2, s1, s2, q⟩ | ⟨j, l, rfl, hj, hk, q⟩
  · have dx' := h1.dp r _ _ _ vx
    rw [← G.eK] at dx'
    obtain ⟨as, r1⟩ := Dp.reads I p x v dx' rx
    obtain ⟨a, vs, rfl, hvs, hh⟩ := items_in r vy hi
    cases ry
    have hds := h2.dp r _ _ _ hvs
    rw [← G.eK] at hds
    have cl : PyData.canLayAll0 ps = true := by
      clear q h2 hds
      induction ps with
      | nil => simp [PyData.canLayAll0]
      | cons p0 ps ih =>
        rw [List.all_cons, Bool.and_eq_true] at s2
        rw [PyData.canLayAll0, SeqAt.canLay_of_shaped s2.1, ih s2.2]
        rfl
    have hroom : X.A.units + 1 + min (PyData.depthAll ps) p.depth < cLine := PyProof.Rows.room_in_shaped s1 (by have := G.hu; omega)
    have fin : EP X pins σ Q (.bool (ps.any fun z => PyData.eqv z p)) s := ⟨.bl _, H, I, rfl, k.now r (.bl _) q⟩
    rcases hh with ⟨m, _, ht⟩ | ⟨i, _, _, hl⟩
    · obtain ⟨bs, r2⟩ := Dp.reads I (.tuple ps) (.ref a) _ (.tup (.of ht) hds) rfl
      exact SeqAt.in_tuple_reads r2 r1 cl (SeqAt.canLay_of_shaped s1) hroom fin
    · obtain ⟨bs, r2⟩ := Dp.reads I (.list ps) (.ref a) _ (.lst (.of hl) hds) rfl
      exact SeqAt.in_list_reads r2 r1 cl (SeqAt.canLay_of_shaped s1) hroom fin
  · cases vy with
    | obj ha =>
      have o := r.obs _ _ _ ha hj
      rcases dict_two o hk with ⟨kvs, i, e, kv, ka⟩ | ⟨kt, h2⟩
      · cases ry
        rw [ka.rv vx] at rx
        refine d_in (o := valV kvs i) (by have := G.hu; omega) I (.k e) rx fun s' I' => ⟨.bl _, H, I', rfl, ?_⟩
        have e1 : (valV kvs i).isSome = (Lf.look l dx).isSome := by
          rcases kv.look ka with ⟨a1, a2⟩ | ⟨d, v', a1, a2, _⟩ <;> rw [a1, a2] <;> rfl
        rw [e1]
        exact k.now r (.bl _) q
      · obtain ⟨n, hn, hd⟩ := keyT_key kt
        obtain ⟨b, rfl⟩ := key_ref kt vx
        cases rx
        cases ry
        obtain ⟨xs, ys, kv, px, dd, hs, _, _⟩ := dict_ys G I h2
        refine wpAny_in_heap (roomN G) (keyT_is I hn hd vx) hs dd ⟨.bl _, H, I.tok _, rfl, ?_⟩
        have e1 : (atKey ys n).isSome = (Lf.look l dx).isSome := by
          rcases kv.look hn px with ⟨a1, _, a2⟩ | ⟨d, v', u', b', a1, _, a2, _, _⟩ <;> rw [a1, a2] <;> rfl
        rw [e1]
        exact k.now r (.bl _) q
/-- x not in y -/
theorem op_notIn (G : Good g X) : OpR X (compareOp .NotIn) (LR g (CR .NotIn)) := by
  intro pins s σ H x y v u Q I rx ry h
  obtain ⟨dx, dy, S, mu, Qd, vx, vy, r, h, k⟩ := h
  rcases h with ⟨l, p, ps, hi, h1, h2, s1, s2, q⟩ | ⟨j, l, rfl, hj, hk, q⟩
  · have dx' := h1.dp r _ _ _ vx
    rw [← G.eK] at dx'
    obtain ⟨as, r1⟩ := Dp.reads I p x v dx' rx
    obtain ⟨a, vs, rfl, hvs, hh⟩ := items_in r vy hi
    cases ry
    have hds := h2.dp r _ _ _ hvs
    rw [← G.eK] at hds
    have cl : PyData.canLayAll0 ps = true := by
      clear q h2 hds
      induction ps with
      | nil => simp [PyData.canLayAll0]
      | cons p0 ps ih =>
        rw [List.all_cons, Bool.and_eq_true] at s2
        rw [PyData.canLayAll0, SeqAt.canLay_of_shaped s2.1, ih s2.2]
        rfl
    have hroom : X.A.units + 1 + min (PyData.depthAll ps) p.depth < cLine := PyProof.Rows.room_in_shaped s1 (by have := G.hu; omega)
    have fin : EP X pins σ Q (.bool (!ps.any fun z => PyData.eqv z p)) s := ⟨.bl _, H, I, rfl, k.now r (.bl _) q⟩
    rcases hh with ⟨m, _, ht⟩ | ⟨i, _, _, hl⟩
    · obtain ⟨bs, r2⟩ := Dp.reads I (.tuple ps) (.ref a) _ (.tup (.of ht) hds) rfl
      exact SeqAt.notIn_tuple_reads r2 r1 cl (SeqAt.canLay_of_shaped s1) hroom fin
    · obtain ⟨bs, r2⟩ := Dp.reads I (.list ps) (.ref a) _ (.lst (.of hl) hds) rfl
      exact SeqAt.notIn_list_reads r2 r1 cl (SeqAt.canLay_of_shaped s1) hroom fin
  · cases vy with
    | obj ha =>
      have o := r.obs _ _ _ ha hj
      rcases dict_two o hk with ⟨kvs, i, e, kv, ka⟩ | ⟨kt, h2⟩
      · cases ry
        rw [ka.rv vx] at rx
        refine d_notIn (o := valV kvs i) (by have := G.hu; omega) I (.k e) rx fun s' I' => ⟨.bl _, H, I', rfl, ?_⟩
        have e1 : (valV kvs i).isSome = (Lf.look l dx).isSome := by
          rcases kv.look ka with ⟨a1, a2⟩ | ⟨d, v', a1, a2, _⟩ <;> rw [a1, a2] <;> rfl
        rw [e1]
        exact k.now r (.bl _) q
      · obtain ⟨n, hn, hd⟩ := keyT_key kt
        obtain ⟨b, rfl⟩ := key_ref kt vx
        cases rx
        cases ry
        obtain ⟨xs, ys, kv, px, dd, hs, _, _⟩ := dict_ys G I h2
        show wpAny _ _ (contains (.ref _) (.ref b) >>= fun t => (pure (Value.bool (!t)) : Sem Value)) _ _ s
        refine wpAny_bind (wpAny_contains_heap (roomN G) (keyT_is I hn hd vx) hs dd (wpAny_pure ⟨.bl _, H, I.tok _, rfl, ?_⟩))
        have e1 : (atKey ys n).isSome = (Lf.look l dx).isSome := by
          rcases kv.look hn px with ⟨a1, _, a2⟩ | ⟨d, v', u', b', a1, _, a2, _, _⟩ <;> rw [a1, a2] <;> rfl
        rw [e1]
        exact k.now r (.bl _) q
theorem op_cmp (G : Good g X) (o : CmpOp) : OpR X (compareOp o) (LR g (CR o)) := by
  have hu := G.hu
  cases o
  · refine OpR.imp ((op_eqD (by omega)).or op_eq) fun x y H Q w => ?_
    rw [G.eK]; exact lr_eq w
  · refine OpR.imp ((op_neD (by omega)).or op_ne) fun x y H Q w => ?_
    rw [G.eK]; exact lr_ne w
  · exact OpR.imp (op_lt.or op_lt_str) fun x y H Q w => lr_lt w
  · exact OpR.imp op_le fun x y H Q w => lr_le w
  · exact OpR.imp op_gt fun x y H Q w => lr_gt w
  · exact OpR.imp op_ge fun x y H Q w => lr_ge w
  · exact OpR.imp op_isN fun x y H Q w => lr_is w
  · exact OpR.imp op_notN fun x y H Q w => lr_isn w
  · exact op_in G
  · exact op_notIn G
end
end Lf

set_option Elab.async false
set_option linter.all false
set_option maxRecDepth 100000
set_option maxHeartbeats 4000000
/-! Lf5: subscripts, slices, stores, built-in functions and methods, told of data. -/
namespace Lf
open PySem L2
section
variable {g : Wd} {H : Hp} {mu : List Addr} {S : Store} {x y : V} {Q : VK} {Qd : K1} {X : Cx} {pins : List (Addr × Obj)} {σ : L2.St} {s : Shared}
theorem R.at_lst (r : R g H mu S) {i : Nat} {l : List D} {v : V} (rv : Rv H g.sa mu (.obj i) v) (h : S[i]? = some (.lst l)) : ∃ a vs, v = .ref a ∧ mu[i]? = some a ∧ H a = some (.lst vs) ∧ Rvs H g.sa mu l vs := by
  cases rv with
  | obj h1 =>
    have q := r.obs _ _ _ h1 h
    cases q with
    | lst q1 q2 => exact ⟨_, _, rfl, h1, q1, q2⟩
/-- a list of the store is changed -/
theorem KV.wr {d : D} {v : V} {i : Nat} {a : Addr} {l : List D} {vs : List V} (k : KV g H mu Qd Q) (r : R g H mu S) (ha : mu[i]? = some a) (hv : Rvs H g.sa mu l vs) (rv : Rv H g.sa mu d v) (q : Qd d (S.set i (.lst l))) : Q v (upd H a (.lst vs)) := by
  have e0 : ∀ b ws, H b = some (.tup ws) → upd H a (.lst vs) b = some (.tup ws) := fun b ws h => by
    rw [upd_ne (by rintro rfl; exact r.tup_out h (List.mem_of_getElem? ha))]; exact h
  obtain ⟨r1, e1⟩ := r.set (u := .lst vs) (o := .lst l) ha (fun _ => nofun) (.lst upd_same (hv.mono g.sa e0 List.prefix_rfl))
  exact k _ _ _ _ _ e1 r1 (rv.ext e1 r) q
theorem atI_rel {sa : Addr} {l : List D} {vs : List V} {i : Int} {d : D} (h : Rvs H sa mu l vs) (e : atI l i = some d) : ∃ v, atI vs i = some v ∧ Rv H sa mu d v := by
  unfold atI at e ⊢
  rw [← h.length]
  cases hj : ixN l.length i with
  | none => rw [hj] at e; cases e
  | some j =>
    rw [hj] at e
    exact h.get e
/-- a[i] -/
theorem ix_any (G : Good g X) : IxR X (LR g wIx) := by
  intro value slice pins s σ H x y v u Q I rx ry h hs
  obtain ⟨dx, dy, S, mu, Qd, vx, vy, r, h, k⟩ := h
  rcases h with ⟨l, i, d, hi, rfl, hat, q⟩ | ⟨j, l, d, rfl, hj, hk, hl, q⟩
  · cases vy
    obtain ⟨a, vs, rfl, hvs, hh⟩ := items_in r vx hi
    obtain ⟨w, hw, rw_⟩ := atI_rel hvs hat
    have fin : Q w H := k.now r rw_ q
    rcases hh with ⟨m, _, ht⟩ | ⟨n, _, _, hl⟩
    · exact ix_tup value slice pins s σ H _ _ v u Q I rx ry ⟨a, vs, i, w, rfl, rfl, .of ht, hw, fin⟩ hs
    · exact ix_list value slice pins s σ H _ _ v u Q I rx ry ⟨a, vs, i, w, rfl, rfl, .of hl, hw, fin⟩ hs
  · cases vx with
    | obj ha =>
      have o := r.obs _ _ _ ha hj
      rcases dict_two o hk with ⟨kvs, i, e, kv, ka⟩ | ⟨kt, h2⟩
      · cases rx
        rw [ka.rv vy] at ry
        rcases kv.look ka with ⟨a1, a2⟩ | ⟨d', v', a1, a2, rr⟩
        · rw [hl] at a1; cases a1
        · rw [hl] at a1; cases a1
          have g1 := DGet.k (k := i) e
          rw [a2] at g1
          exact PyProof.Rows.tail_any (dict_typeIs I g1) PySem.F.slot_dict_getitem.lookup (d_getItem (by have := G.hu; omega) I g1 ry fun w' s3 I3 rw' => ⟨v', H, I3, rw', k.now r rr q⟩) hs
      · obtain ⟨n, hn, hd⟩ := keyT_key kt
        obtain ⟨b, rfl⟩ := key_ref kt vy
        cases rx
        cases ry
        obtain ⟨xs, ys, kv, px, dd, hsys, _, _⟩ := dict_ys G I h2
        rcases kv.look hn px with ⟨a1, _⟩ | ⟨d', v', u', b', a1, _, a2, ru, rr⟩
        · rw [hl] at a1; cases a1
        · rw [hl] at a1; cases a1
          exact PyProof.Rows.tail_any dd.typeIs PySem.F.slot_dict_getitem.lookup (wpAny_getItem_heap (roomN G) (keyT_is I hn hd vy) dd a2 ⟨v', H, I.tok _, ru, k.now r rr q⟩) hs

/-! ### slices -/
theorem cut_whole {α : Type} (l : List α) (lo hi : Option Int) (h : HT.sIx l.length 0 lo = 0 ∧ HT.sIx l.length l.length hi = l.length) : Lf.cut l lo hi = l := by
  unfold Lf.cut
  rw [h.1, h.2, List.drop_zero, Nat.sub_zero, List.take_length]
theorem cut_map {α β : Type} (f : α → β) (l : List α) (lo hi : Option Int) : Lf.cut (l.map f) lo hi = (Lf.cut l lo hi).map f := by
  unfold Lf.cut
  rw [List.length_map, List.map_take, List.map_drop]
theorem ints_rv {sa : Addr} : ∀ ns : List Int, Rvs H sa mu (ns.map D.int) (ns.map V.int)
  | [] => .nil
  | n :: ns => .cons (.int n) (ints_rv ns)
def LRsl (g : Wd) : V → Option Int → Option Int → Hp → VK → Prop := fun x lo hi H Q => ∃ dx S mu Qd, Rv H g.sa mu dx x ∧ R g H mu S ∧ wSl dx lo hi S g.ns Qd ∧ KV g H mu Qd Q
theorem sl_any (G : Good g X) : SlR X (LRsl g) := by
  refine SlR.imp (sl_tupA.or sl_list) fun x lo hi H Q h => ?_
  obtain ⟨dx, S, mu, Qd, vx, r, h, k⟩ := h
  cases dx with
  | tup l =>
    left
    cases vx with
    | tup h1 h2 =>
      refine ⟨_, _, rfl, .of h1, fun e => ?_, fun e p hp => k.tup r (h2.cut lo hi) h hp⟩
      rw [← h2.length] at e
      rw [show wSl (.tup l) lo hi S g.ns Qd = Qd (.tup (Lf.cut l lo hi)) S from rfl, cut_whole l lo hi e] at h
      exact k.now r (.tup h1 h2) h
  | obj i =>
    right
    obtain ⟨l, h1, q⟩ := h
    obtain ⟨a, vs, rfl, hvs, ⟨m, e, _⟩ | ⟨n, _, _, hl⟩⟩ := items_in r vx h1
    · cases e
    · exact ⟨a, vs, rfl, .of hl, fun p hp => k.lst r (hvs.cut lo hi) q hp⟩
  | scr =>
    right
    cases vx
    refine ⟨g.sa, g.ns.map V.int, rfl, ?_, fun p hp => k.lst r ((ints_rv g.ns).cut lo hi) h hp⟩
    rw [G.eK]
    exact r.scr.sq
  | _ => exact False.elim h

/-! ### stores -/
def LRset (g : Wd) : TSet := fun o i v H Q => ∃ dO dI dV S mu N, Rv H g.sa mu dO o ∧ Rv H g.sa mu dI i ∧ Rv H g.sa mu dV v ∧ R g H mu S ∧ wSet dO dI dV S N ∧
  ∀ S' H' mu', Ext H mu H' mu' → R g H' mu' S' → N S' → Q H'
theorem KvA.put {sa : Addr} {k d : D} {i : Key} {v : V} (ka : KA k i) (rd : Rv H sa mu d v) {l : List (D × D)} {kvs : List (Key × V)} (h : KvA H sa mu l kvs) : KvA H sa mu (Lf.put l k d) (putK kvs i v) := by
  have e1 : (Lf.look l k).isSome = kvs.any (fun kv => decide (kv.1 = i)) := by
    have e2 : kvs.any (fun kv => decide (kv.1 = i)) = (valV kvs i).isSome := by
      unfold valV
      rw [Option.isSome_map]
      induction kvs generalizing l with
      | nil => rfl
      | cons p r ih =>
        rw [List.any_cons, List.find?_cons]
        by_cases e : p.1 = i
        · simp [e]
        · simp only [e, decide_false, Bool.false_or]
          cases h with
          | int _ h' => exact ih h'
          | str _ h' => exact ih h'
    rw [e2]
    rcases h.look ka with ⟨a1, a2⟩ | ⟨d', v', a1, a2, _⟩ <;> rw [a1, a2] <;> rfl
  unfold Lf.put putK
  rw [e1]
  split
  · rename_i hx
    clear e1 hx
    induction h with
    | nil => exact .nil
    | @int j d' v' l r r1 _ ih =>
      rw [List.map_cons, List.map_cons]
      by_cases e : (D.int j) = k
      · have e2 := ((KA.int j).eq_iff ka).mp e
        simp only [e2, if_true]
        rw [if_pos e]
        cases ka with
        | int _ => injection e2 with e2; subst e2; exact .int rd ih
        | str _ => cases e
      · have e2 : ¬ (Sum.inl j : Key) = i := fun z => e (((KA.int j).eq_iff ka).mpr z)
        simp only [e2, if_false]
        rw [if_neg e]
        exact .int r1 ih
    | @str j d' v' l r r1 _ ih =>
      rw [List.map_cons, List.map_cons]
      by_cases e : (D.str j) = k
      · have e2 := ((KA.str j).eq_iff ka).mp e
        simp only [e2, if_true]
        rw [if_pos e]
        cases ka with
        | int _ => cases e
        | str _ => injection e2 with e2; subst e2; exact .str rd ih
      · have e2 : ¬ (Sum.inr j : Key) = i := fun z => e (((KA.str j).eq_iff ka).mpr z)
        simp only [e2, if_false]
        rw [if_neg e]
        exact .str r1 ih
  · rename_i hx
    clear e1 hx
    induction h with
    | nil =>
      cases ka with
      | int j => exact .int rd .nil
      | str j => exact .str rd .nil
    | int r1 _ ih => exact .int r1 ih
    | str r1 _ ih => exact .str r1 ih
end

section
variable {g : Wd} {H : Hp} {mu : List Addr} {S : Store} {x y : V} {Q : VK} {Qd : K1} {X : Cx} {pins : List (Addr × Obj)} {σ : L2.St} {s : Shared}
/-- a dict with tuple keys is written -/
theorem write_keyed (G : Good g X) {E : Value → Shared → Prop} (I : Inv X pins σ H s) {a b : Addr} {l : List (D × D)} {k d : D} {n : NestedKey} {v : V} {u : Value} (hk : k.key = some n) (hd : n.depth ≤ 8) (rk : Rv H g.sa mu k (.ref b)) (rd : Rv H g.sa mu d v) (ru : RelV v u)
    (h : (H a = some (.dK []) ∧ l = []) ∨ ∃ xs, H a = some (.ext (dictObj g a xs)) ∧ KvT H g.sa mu l xs ∧ l ≠ [] ∧ (a == sysModules) = false) (hz : l.length ≤ 100000) {Q : Unit → Shared → Prop}
    (fin : ∀ xs' s', Inv X pins σ (upd H a (.ext (dictObj g a xs'))) s' → KvT H g.sa mu (Lf.put l k d) xs' → (a == sysModules) = false → (∀ vs, H a ≠ some (.tup vs)) → Q () s') : wpAny (model X.prog X.w) X.A (setItem (.ref a) (.ref b) u) Q E s := by
  obtain ⟨xs, ys, kv, px, dd, hs, hm, ht⟩ := dict_ys G I h
  have lx : ∀ {l : List (D × D)} {xs : List (NestedKey × Addr × V)}, KvT H g.sa mu l xs → l.length = xs.length := by
    intro l xs h
    induction h with
    | nil => rfl
    | cons _ _ _ _ _ ih => simp [ih]
  have l1 := lx kv
  have l2 := Paired.length px
  have hz' : ys.length ≤ sizeLine := by rw [sizeLine_eq]; omega
  refine wpAny_setItem_heap (hsz := hz') (roomN G) (keyT_is I hk hd rk) dd fun h' dd' hsb => ?_
  obtain ⟨o, es, ep, ho, he, hdt, hes, _, hnd⟩ := dd'
  have pk : PairX (putX xs n b v) (storedH ys n b u) ∧ KvT H g.sa mu (Lf.put l k d) (putX xs n b v) := by
    rcases kv.look hk px with ⟨a1, a2, a3⟩ | ⟨d', v', u', b', a1, a2, a3, _, _⟩
    · unfold putX Lf.put storedH
      rw [a1, a2, a3]
      exact ⟨px.snoc ru, kv.snoc hk hd rk rd⟩
    · unfold putX Lf.put storedH
      rw [a1, a3, if_pos a2]
      exact ⟨px.map_put ru, kv.map_put hk rd⟩
  refine fin (putX xs n b v) _ (d_write I hm hsb ⟨o, ho⟩ ⟨?_, ⟨o, ho⟩, ?_⟩) pk.2 hs ht
  · exact ⟨_, pk.1, o, es, ep, ho, he, hdt, by rw [← G.eP, ← G.eW]; exact hes, hnd⟩
  · rintro h1 h2 ⟨zs, q1, o1, es1, ep1, w1, w2⟩ st
    exact ⟨zs, q1, o1, es1, ep1, st _ w1, w2⟩
theorem put_ne {l : List (D × D)} {k d : D} : Lf.put l k d ≠ [] := by
  unfold Lf.put
  split
  · rename_i h
    cases l with
    | nil => simp [Lf.look] at h
    | cons p l => simp
  · simp
/-- o[i] = v -/
theorem set_any (G : Good g X) : PSet X (LRset g) := by
  intro pins s σ H o i v ov iv u Q I ro ri rv h
  obtain ⟨dO, dI, dV, S, mu, N, vo, vi, vv, r, h, k⟩ := h
  rcases h with ⟨j, l, m, n, rfl, rfl, hj, hm, q⟩ | ⟨j, l, rfl, hj, hk, hz, q⟩
  · cases vi
    obtain ⟨a, vs, rfl, ha, hl, hvs⟩ := r.at_lst vo hj
    refine set_list pins s σ H _ _ v ov iv u Q I ro ri rv ⟨a, vs, m, n, rfl, rfl, hl, by rw [← hvs.length]; exact hm, ?_⟩
    exact KV.wr (Q := fun _ H' => Q H') (Qd := fun _ S' => N S') (fun _ _ _ _ _ e r' _ q' => k _ _ _ e r' q') r ha (hvs.set vv n) vv q
  · cases vo with
    | obj ha =>
      rename_i ad
      have ob := r.obs _ _ _ ha hj
      have am := List.mem_of_getElem? ha
      rcases dict_two ob hk with ⟨kvs, c, e, kv, ka⟩ | ⟨kt, h2⟩
      · cases ro
        rw [ka.rv vi] at ri
        have kl : ∀ {l : List (D × D)} {kvs : List (Key × V)}, KvA H g.sa mu l kvs → l.length = kvs.length := by
          intro l kvs h
          induction h with
          | nil => rfl
          | int _ _ ih => simp [ih]
          | str _ _ ih => simp [ih]
        refine d_setItem (by have := G.hu; omega) I (.k e (by have := kl kv; rw [sizeLine_eq]; omega)) ri rv fun s' I' => ⟨_, I', ?_⟩
        have e0 : ∀ b ws, H b = some (.tup ws) → upd H ad (.dK (putK kvs c v)) b = some (.tup ws) := fun b ws h => by
          rw [upd_ne (by rintro rfl; exact r.tup_out h am)]; exact h
        obtain ⟨r1, e1⟩ := r.set (u := .dK (putK kvs c v)) (o := .dic (Lf.put l dI dV)) ha (fun _ => nofun) (.dicA upd_same ((kv.put ka vv).mono g.sa e0 List.prefix_rfl))
        exact k _ _ _ e1 r1 q
      · obtain ⟨n, hn, hd⟩ := keyT_key kt
        obtain ⟨b, rfl⟩ := key_ref kt vi
        cases ro
        cases ri
        refine write_keyed G I hn hd vi vv rv h2 hz fun xs' s' I' kv' hs ht => ⟨_, I', ?_⟩
        have e0 : ∀ b ws, H b = some (.tup ws) → upd H ad (.ext (dictObj g ad xs')) b = some (.tup ws) := fun b ws h => by
          rw [upd_ne (by rintro rfl; exact r.tup_out h am)]; exact h
        obtain ⟨r1, e1⟩ := r.set (u := .ext (dictObj g ad xs')) (o := .dic (Lf.put l dI dV)) ha (fun _ => nofun) (.dicT upd_same (kv'.mono g.sa e0 List.prefix_rfl) put_ne hs)
        exact k _ _ _ e1 r1 q

/-! ### built-in functions -/
theorem texts_rv {sa : Addr} : ∀ ns : List Str, Rvs H sa mu (texts ns) (ns.map V.str)
  | [] => .nil
  | n :: ns => .cons (.str n) (texts_rv ns)
theorem texts_vs {sa : Addr} : ∀ {ns : List Str} {vs : List V}, Rvs H sa mu (texts ns) vs → vs = ns.map V.str
  | [], _, h => by cases h; rfl
  | n :: ns, _, h => by
    cases h with
    | cons h1 h2 =>
      cases h1
      rw [texts_vs h2]
      rfl
theorem one_of {sa : Addr} {d : D} {vs : List V} (h : Rvs H sa mu [d] vs) : ∃ v, vs = [v] ∧ Rv H sa mu d v := by
  cases h with
  | cons h1 h2 => cases h2; exact ⟨_, rfl, h1⟩
theorem call_len_any (G : Good g X) : CallR X (.builtin "len") (LRs g (wBi .len)) := by
  refine CallR.imp call_len fun vs H Q h => ?_
  obtain ⟨ds, S, mu, Qd, vx, r, h, k⟩ := h
  match ds, h, vx with
  | [d], h, vx =>
    obtain ⟨v, rfl, rv⟩ := one_of vx
    rcases h with ⟨t, rfl, hz, q⟩ | ⟨l, hl, q⟩
    · cases rv
      exact ⟨_, t.length, rfl, ⟨hz, rfl⟩, k.now r (.int _) q⟩
    · obtain ⟨a, us, rfl, hus, hh⟩ := items_sq r rv hl
      refine ⟨_, us.length, rfl, ?_, by rw [← hus.length]; exact k.now r (.int _) q⟩
      rw [G.eK]
      rcases hh with hh | hh
      · exact .inl ⟨us, hh, rfl⟩
      · exact .inr ⟨us, hh, rfl⟩
theorem call_list_any (G : Good g X) : CallR X (.type "list") (LRs g (wBi .lst)) := by
  refine CallR.imp call_list_of fun vs H Q h => ?_
  obtain ⟨ds, S, mu, Qd, vx, r, h, k⟩ := h
  match ds, h, vx with
  | [d], ⟨l, hl, q⟩, vx =>
    obtain ⟨v, rfl, rv⟩ := one_of vx
    obtain ⟨a, us, rfl, hus, hh⟩ := items_sq r rv hl
    refine ⟨a, us, rfl, ?_, fun p hp => k.lst r hus q hp⟩
    rw [G.eK]; exact hh
theorem call_tuple_any (G : Good g X) : CallR X (.type "tuple") (LRs g (wBi .tup)) := by
  refine CallR.imp call_tuple_of fun vs H Q h => ?_
  obtain ⟨ds, S, mu, Qd, vx, r, h, k⟩ := h
  match ds, h, vx with
  | [d], ⟨l, hl, q⟩, vx =>
    obtain ⟨v, rfl, rv⟩ := one_of vx
    obtain ⟨a, us, rfl, hus, ⟨m, rfl, hh⟩ | ⟨i, rfl, _, hh⟩⟩ := items_in r rv hl
    · have e : m = l := Option.some.inj hl
      subst e
      exact ⟨a, us, rfl, .inr ⟨.of hh, k.now r rv q⟩⟩
    · exact ⟨a, us, rfl, .inl ⟨.of hh, fun p hp => k.tup r hus q hp⟩⟩
theorem call_str_any : CallR X (.type "str") (LRs g (wBi .toStr)) := by
  refine CallR.imp (CallR.or SkE.call_str_str call_str_int) fun vs H Q h => ?_
  obtain ⟨ds, S, mu, Qd, vx, r, h, k⟩ := h
  match ds, h, vx with
  | [d], h, vx =>
    obtain ⟨v, rfl, rv⟩ := one_of vx
    rcases h with ⟨t, rfl, q⟩ | ⟨i, rfl, hi, q⟩
    · cases rv; exact .inl ⟨t, rfl, k.now r (.str _) q⟩
    · cases rv; exact .inr ⟨i, rfl, hi, k.now r (.str _) q⟩
theorem call_int_any : CallR X (.type "int") (LRs g (wBi .toInt)) := by
  refine CallR.imp call_int1 fun vs H Q h => ?_
  obtain ⟨ds, S, mu, Qd, vx, r, h, k⟩ := h
  match ds, h, vx with
  | [d], ⟨i, e, q⟩, vx =>
    subst e
    obtain ⟨v, rfl, rv⟩ := one_of vx
    cases rv
    exact .inl ⟨i, rfl, k.now r (.int _) q⟩
theorem call_sorted_any (G : Good g X) : CallR X (.builtin "sorted") (LRs g (wBi .sorted)) := by
  refine CallR.imp cr_sortedS fun vs H Q h => ?_
  obtain ⟨ds, S, mu, Qd, vx, r, h, k⟩ := h
  match ds, h, vx with
  | [d], ⟨i, ss, e, hi, hz, q⟩, vx =>
    subst e
    obtain ⟨v, rfl, rv⟩ := one_of vx
    obtain ⟨a, us, rfl, ha, hl, hus⟩ := r.at_lst rv hi
    have e := texts_vs hus
    subst e
    exact ⟨a, ss, rfl, .of hl, hz, fun ys p h1 h2 hp => k.lst r (texts_rv ys) (q ys h1 h2) hp⟩
theorem call_repr_any (G : Good g X) : CallR X (.builtin "repr") (LRs g (wBi .repr)) := by
  intro pins s σ H vs us Q I rs h
  obtain ⟨ds, S, mu, Qd, vx, r, h, k⟩ := h
  match ds, h, vx with
  | [d], ⟨p, hp, sh, sw, hz, q⟩, vx =>
    obtain ⟨v, rfl, rv⟩ := one_of vx
    obtain ⟨u, rfl, ru⟩ := vals1 rs
    have dd := hp.dp r _ _ _ rv
    rw [← G.eK] at dd
    obtain ⟨as, rr⟩ := Dp.reads I p v u dd ru
    have q1 : Q (.str p.shown) H := k.now r (.str _) q
    have hdp := SeqAt.depth_of_shaped sh
    have hnd := PyData.hasDict_of_canLay p (SeqAt.canLay_of_shaped sh)
    have hu := G.hu
    have fin : ∀ h' t tk, (∀ b o, s.heap.get? b = some o → h'.get? b = some o) → EP X pins σ Q (.str p.shown t) { s with heap := h', toks := tk } := fun h' t tk hk => ⟨.str p.shown, H, I.kept hk, ⟨t, rfl⟩, q1⟩
    cases rr with
    | none => exact PySem.P.repr_of_none (fin s.heap _ _ fun _ _ e => e)
    | bool b => exact PySem.P.repr_of_bool (fin s.heap _ _ fun _ _ e => e)
    | int i t => exact PySem.P.repr_of_int (by simpa [PyData.showable] using sw) (fin s.heap _ _ fun _ _ e => e)
    | str x t => exact PySem.P.repr_of_str (fin s.heap _ _ fun _ _ e => e) hz
    | list a1 a2 a3 a4 => exact repr_of_reads' (.list a1 a2 a3 a4) sw (PyData.noDict_hsm hnd) G.gd (by omega) (fun _ _ e => e) fin hz
    | tuple a1 a2 a3 a4 => exact repr_of_reads' (.tuple a1 a2 a3 a4) sw (PyData.noDict_hsm hnd) G.gd (by omega) (fun _ _ e => e) fin hz
    | dict a1 a2 a3 a4 a5 => exact repr_of_reads' (.dict a1 a2 a3 a4 a5) sw (PyData.noDict_hsm hnd) G.gd (by omega) (fun _ _ e => e) fin hz

/-! ### methods -/
theorem mt_append_any : MtR X "list.append" (LRm g (wMe .append)) := by
  refine MtR.imp (show MtR X "list.append" rAppend from mt_append) fun x vs H Q h => ?_
  obtain ⟨d, ds, S, mu, Qd, rx, vx, r, h, k⟩ := h
  match ds, h, vx with
  | [e], ⟨i, l, e1, hi, hz, q⟩, vx =>
    subst e1
    obtain ⟨v, rfl, rv⟩ := one_of vx
    obtain ⟨a, us, rfl, ha, hl, hus⟩ := r.at_lst rx hi
    exact ⟨a, us, v, rfl, rfl, hl, by rw [← hus.length]; exact hz, k.wr r ha (hus.append (.cons rv .nil)) .non q⟩
theorem mt_pop_any : MtR X "list.pop" (LRm g fun o a S Q => wMe .pop o a S Q ∨ wMe .popAt o a S Q) := by
  refine MtR.imp (show MtR X "list.pop" _ from MtR.or mt_pop mt_popAt) fun x vs H Q h => ?_
  obtain ⟨d, ds, S, mu, Qd, rx, vx, r, h, k⟩ := h
  rcases h with h | h
  · match ds, h, vx with
    | [], ⟨i, l, e, e1, hi, q⟩, vx =>
      subst e1
      cases vx
      obtain ⟨a, us, rfl, ha, hl, hus⟩ := r.at_lst rx hi
      obtain ⟨u1, u2, rfl, h1, h2⟩ : ∃ u1 u2, us = u1 ++ [u2] ∧ Rvs H g.sa mu l u1 ∧ Rv H g.sa mu e u2 := by
        have hl2 := hus.length
        rw [List.length_append] at hl2
        have t1 := hus.take l.length
        have t2 := hus.drop l.length
        rw [List.take_left' rfl] at t1
        rw [List.drop_left' rfl] at t2
        obtain ⟨u2, e2, rv2⟩ := one_of t2
        exact ⟨us.take l.length, u2, by rw [← e2, List.take_append_drop], t1, rv2⟩
      refine .inl ⟨a, _, u2, rfl, rfl, hl, by simp, ?_⟩
      rw [List.dropLast_concat]
      exact k.wr r ha h1 h2 q
  · match ds, h, vx with
    | [e], ⟨i, l, j, f, e1, e2, hi, hz, hj, q⟩, vx =>
      subst e1 e2
      obtain ⟨v, rfl, rv⟩ := one_of vx
      cases rv
      obtain ⟨a, us, rfl, ha, hl, hus⟩ := r.at_lst rx hi
      obtain ⟨u, hu, ru⟩ := hus.get hj
      have hjl : j < us.length := (List.getElem?_eq_some_iff.mp hu).1
      have hsz : us.length ≤ 16777216 := by rw [← hus.length, ← sizeLine_eq]; exact hz
      obtain ⟨sj, _⟩ := ixN_seq (n := us.length) (i := (j : Int)) (j := j) (by unfold ixN; rw [if_pos (by omega), if_pos (by omega)]; simp)
      exact .inr ⟨a, us, (j : Int), j, u, rfl, rfl, hl, by omega, by omega, sj, hu, k.wr r ha (hus.eraseIdx j) ru q⟩
theorem mt_split_any : MtR X "str.split" (LRm g (wMe .split)) := by
  refine MtR.imp mt_split fun x vs H Q h => ?_
  obtain ⟨d, ds, S, mu, Qd, rx, vx, r, h, k⟩ := h
  match ds, h, vx with
  | [e], ⟨a, b, e1, e2, hb, hz, q⟩, vx =>
    subst e1 e2
    obtain ⟨v, rfl, rv⟩ := one_of vx
    cases rv
    cases rx
    exact ⟨a, b, rfl, rfl, hb, hz, fun p hp => k.lst r (texts_rv _) q hp⟩
end
end Lf

set_option Elab.async false
set_option linter.all false
set_option maxRecDepth 100000
set_option maxHeartbeats 4000000
/-! Lf6: expressions and arguments, told of data. -/
namespace Lf
open PySem L2
/-! ### t[::-1] of a tuple -/
section
open PySem PySem.Spec PyProof.Rows
variable {prog : Program} {w : World} {A : Around} {E : Value → Shared → Prop} {s : Shared}
theorem back_places (n : Nat) : Builtin.Slice.slicePlaces ((n : Int) - 1) (-1) (-1) = n := by
  unfold Builtin.Slice.slicePlaces
  rw [if_neg (by decide)]
  by_cases h : n = 0
  · subst h; decide
  · rw [if_pos (by omega)]
    have e : ((n : Int) - 1 - -1 - 1) / (- -1) = (n : Int) - 1 := by
      rw [show (- -1 : Int) = 1 by decide, Int.ediv_one]; omega
    rw [e]; omega
theorem fm_some {α β : Type} {f : α → Option β} {h : α → β} : ∀ {l : List α}, (∀ a ∈ l, f a = some (h a)) → l.filterMap f = l.map h
  | [], _ => rfl
  | a :: l, k => by
    rw [List.filterMap_cons, k a List.mem_cons_self, List.map_cons, fm_some fun b hb => k b (List.mem_cons_of_mem _ hb)]
theorem back_pick (xs : List Value) : ((List.range xs.length).filterMap fun (m : Nat) => xs.toArray[(((xs.length : Int) - 1) + (m : Int) * (-1)).toNat]?) = xs.reverse := by
  apply List.ext_getElem?
  intro i
  have e : (List.range xs.length).filterMap (fun (m : Nat) => xs.toArray[(((xs.length : Int) - 1) + (m : Int) * (-1)).toNat]?) = (List.range xs.length).map fun m => xs.getD (xs.length - 1 - m) .none := by
    refine fm_some fun m hm => ?_
    have hm' := List.mem_range.mp hm
    have e1 : (((xs.length : Int) - 1) + (m : Int) * (-1)).toNat = xs.length - 1 - m := by omega
    rw [e1]
    have hl : xs.length - 1 - m < xs.length := by omega
    simp [hl]
  rw [e, List.getElem?_map]
  by_cases h : i < xs.length
  · rw [List.getElem?_range h]
    rw [List.getElem?_reverse h]
    have hl : xs.length - 1 - i < xs.length := by omega
    simp [hl]
  · rw [List.getElem?_eq_none (by simpa using h), List.getElem?_eq_none (by simpa using h)]
    rfl
/-- the whole of it back to front; the empty one or one of one entry is no other object than a new one -/
theorem getItem_tuple_back {t sl : Addr} {its : List Value} {vs : Value} {Q : Value → Shared → Prop} (ht : IsTup s.heap t its.toArray) (hs : s.heap.IsSliceOf sl .none .none vs) (ps : IsPart vs (some (-1)))
    (h : Q (.ref s.heap.objs.size) { s with heap := s.heap.push { cls := .type "tuple", data := .seq its.reverse.toArray } }) (hsz : its.length ≤ sizeLine) : wpAny (model prog w) A (getItem (.ref t) (.ref sl)) Q E s := by
  have hok : sizeOk (.seq its.reverse.toArray) := by
    show its.reverse.toArray.size ≤ sizeLine
    simpa using hsz
  obtain ⟨os, hos, hcs, hds⟩ := id hs
  have hTs : s.TypeIs (.ref sl) "slice" := ⟨os, hos, hcs⟩
  unfold getItem
  try with_reducible refine wpAny_holding ?_
  first | refine wpAny_bind (wpAny_pure ?_) | skip
  refine wpAny_bind (wpAny_sequenceKey ht.typeIs (by decide) ?_)
  refine wpAny_bind (wpAny_callSpecial?_slot (name := Str.ofString "__getitem__") ht.typeIs slot_tuple_getitem
    (wpAny_call_entry slot_tuple_getitem ht.typeIs entry_tuple_getitem ?_ (args_tuple_getitem _ _)))
  show wpAny _ _ (Builtin.Tuple.tupleItemsOf (.ref t) >>= _) _ _ s
  refine wpAny_bind (tupleItemsOf_ ht ?_)
  refine wpAny_bind (wpAny_typeOf hTs ?_)
  rw [if_pos (by decide)]
  refine wpAny_bind ?_
  unfold Builtin.Slice.sliceApplied Builtin.Slice.sliceFields
  refine wpAny_bind (wpAny_bind (wpAny_field hos hds (x := .none) rfl (wpAny_bind (wpAny_field hos hds (x := .none) rfl (wpAny_bind (wpAny_field hos hds (x := vs) rfl (wpAny_pure ?_)))))))
  refine wpAny_bind (HT.slicePart_ ps ?_)
  show wpAny _ _ (if ((-1 : Int) == 0) = true then _ else _) _ _ s
  rw [if_neg (by decide)]
  refine wpAny_bind (HT.slicePart_ .none (wpAny_bind (HT.slicePart_ .none (wpAny_bind (wpAny_pure ?_)))))
  have ea : Builtin.Slice.sliceAdjust none none (-1) (its.toArray.size : Int) = ((its.toArray.size : Int) - 1, -1) := rfl
  show wpAny _ _ (match Builtin.Slice.sliceAdjust none none (-1) (its.toArray.size : Int) with | (lo, hi) => pure (lo, (-1 : Int), Builtin.Slice.slicePlaces lo hi (-1))) _ _ s
  rw [ea]
  show wpAny _ _ (pure ((its.toArray.size : Int) - 1, (-1 : Int), Builtin.Slice.slicePlaces ((its.toArray.size : Int) - 1) (-1) (-1))) _ _ s
  rw [back_places]
  refine wpAny_pure ?_
  have hno : ¬ ((((its.toArray.size : Int) - 1) == 0 && (-1 : Int) == 1 && its.toArray.size == its.toArray.size) = true) := by simp
  show wpAny _ _ (if (((its.toArray.size : Int) - 1) == 0 && (-1 : Int) == 1 && its.toArray.size == its.toArray.size) = true then _ else _) _ _ s
  rw [if_neg hno]
  have ep : ((List.range its.toArray.size).filterMap fun (m : Nat) => its.toArray[(((its.toArray.size : Int) - 1) + (m : Int) * (-1)).toNat]?).toArray = its.reverse.toArray := by
    have := back_pick its
    simp only [List.size_toArray]
    rw [this]
  rw [ep]
  first
    | exact wpAny_bind (m := Builtin.Tuple.tupleExact _) (wpAny_newObj_type (wpAny_pure ⟨_, rfl, wpAny_pure h⟩) hok)
    | exact wpAny_bind (m := Builtin.Tuple.tupleExact _) (wpAny_newObj_type (wpAny_bind (wpAny_pure (wpAny_pure ⟨_, rfl, wpAny_pure h⟩))) hok)
    | exact wpAny_bind (wpAny_bind (m := Builtin.Tuple.tupleExact _) (wpAny_newObj_type (wpAny_pure (wpAny_pure ⟨_, rfl, wpAny_pure h⟩)) hok))
    | exact wpAny_bind (wpAny_bind (m := Builtin.Tuple.tupleExact _) (wpAny_newObj_type (wpAny_pure ⟨_, rfl, wpAny_pure h⟩) hok))
end
section
variable {g : Wd} {X : Cx} {a b c : Expr} {fa fb fc : Env → Store → K1 → Prop} {pos : Pos}
theorem tD_cont {f : Env → Store → K1 → Prop} {σ : L2.St} {H : Hp} {Q : VK} {ρ : Env} {S : Store} {mu : List Addr} {Qd : K1} (re : Re g H mu ρ σ) (r : R g H mu S) (h : f ρ S Qd) (k : KV g H mu Qd Q) : tD g f σ H Q := ⟨ρ, S, mu, Qd, re, r, h, k⟩
/-- a reading whose value is handed on to another piece of the same slots -/
theorem KV.then {f : D → Env → Store → K1 → Prop} {σ : L2.St} {H : Hp} {mu : List Addr} {S : Store} {ρ : Env} {Qd : K1} {Q : VK} (re : Re g H mu ρ σ) (r : R g H mu S) (k : KV g H mu Qd Q) {P : VK}
    (hP : ∀ d S' v H' mu', Ext H mu H' mu' → Re g H' mu' ρ σ → R g H' mu' S' → Rv H' g.sa mu' d v → f d ρ S' Qd → KV g H' mu' Qd Q → P v H') : KV g H mu (fun d S' => f d ρ S' Qd) P :=
  fun d S' v H' mu' e r' rv q => hP d S' v H' mu' e (re.ext e r) r' rv q (k.ext e)
theorem se_var {i : Nat} {x : Str} (hN : X.N[i]? = some x) (hv : Vis X.env.scope x) (hd : (x == ("__debug__" : Str)) = false) (hcd : (x == ("__classdict__" : Str)) = false) : PE X (.Name x pos) (tD g fun ρ S Q => ∃ d, ρ[i]? = some (some d) ∧ Q d S) :=
  PE.imp (pe_var hN hv hd hcd) fun σ H Q ⟨ρ, S, mu, Qd, re, r, ⟨d, e, q⟩, k⟩ => by
    obtain ⟨v, e1, rv⟩ := re.at_ i d e
    exact ⟨v, e1, k.now r rv q⟩
theorem se_con {e : Expr} {d : D} {v : V} (h : PE X e (tC v)) (hr : ∀ H mu, Rv H g.sa mu d v) : PE X e (tD g fun _ S Q => Q d S) :=
  PE.imp h fun σ H Q ⟨ρ, S, mu, Qd, re, r, q, k⟩ => k.now r (hr H mu) q
theorem se_bin (G : Good g X) (o : Operator) (h : okBin o = true) (ha : PE X a (tD g fa)) (hb : PE X b (tD g fb)) : PE X (.BinOp a o b pos) (tD g fun ρ S Q => fa ρ S fun x S1 => fb ρ S1 fun y S2 => wBin o x y S2 Q) :=
  PE.imp (pe_op (op_bin G.eK o h) ha hb) fun _ _ _ w => tOp_lift w
theorem se_neg (ha : PE X a (tD g fa)) : PE X (.UnaryOp .USub a pos) (tD g fun ρ S Q => fa ρ S fun x S1 => ∃ i, x = .int i ∧ Q (.int (-i)) S1) := by
  have h : UnR X (unaryOp .USub) (LR1 g fun x S1 Q => ∃ i, x = .int i ∧ Q (.int (-i)) S1) := UnR.imp un_neg fun x H Q ⟨d, S, mu, Qd, rv, r, ⟨i, e, q⟩, k⟩ => by
    subst e
    cases rv
    exact ⟨i, rfl, k.now r (.int _) q⟩
  exact PE.imp (pe_un h ha) fun _ _ _ w => tUn_lift w
theorem se_cmp (G : Good g X) (o : CmpOp) (ha : PE X a (tD g fa)) (hb : PE X b (tD g fb)) (hm : behindInMarks o b = false) : PE X (.Compare a [o] [b] pos) (tD g fun ρ S Q => fa ρ S fun x S1 => fb ρ S1 fun y S2 => wCmp o x y S2 fun t => Q (.bl t) S2) :=
  PE.imp (pe_cmpR (op_cmp G o) ha hb hm) fun _ _ _ w => tOp_lift (f := CR o) w
theorem wCmp_imp {o : CmpOp} {x y : D} {S : Store} {P P' : Bool → Prop} (h : wCmp o x y S P) (k : ∀ b, P b → P' b) : wCmp o x y S P' := by
  cases o <;> first
    | (rcases h with ⟨p, q, a, b, c, d, e⟩ | ⟨a, b, c, d, e⟩ <;> first | exact .inl ⟨p, q, a, b, c, d, k _ e⟩ | exact .inr ⟨a, b, c, d, k _ e⟩)
    | (rcases h with ⟨a, b, c, d, e⟩ | ⟨a, b, c, d, e⟩ <;> first | exact .inl ⟨a, b, c, d, k _ e⟩ | exact .inr ⟨a, b, c, d, k _ e⟩)
    | exact (let ⟨a, b, c, d, e⟩ := h; ⟨a, b, c, d, k _ e⟩)
    | exact (let ⟨a, b⟩ := h; ⟨a, k _ b⟩)
    | (rcases h with ⟨l, p, ps, a, b, c, d, e, q⟩ | ⟨j, l, a, b, c, q⟩ <;> first | exact .inl ⟨l, p, ps, a, b, c, d, e, k _ q⟩ | exact .inr ⟨j, l, a, b, c, k _ q⟩)
theorem wCmp_bl {o : CmpOp} {x y : D} {S : Store} {P : Bool → Prop} (h : wCmp o x y S P) : wCmp o x y S fun t => ∃ b, D.bl t = .bl b ∧ P b := by
  cases o <;> first
    | (rcases h with ⟨p, q, a, b, c, d, e⟩ | ⟨a, b, c, d, e⟩ <;> first | exact .inl ⟨p, q, a, b, c, d, _, rfl, e⟩ | exact .inr ⟨a, b, c, d, _, rfl, e⟩)
    | (rcases h with ⟨a, b, c, d, e⟩ | ⟨a, b, c, d, e⟩ <;> first | exact .inl ⟨a, b, c, d, _, rfl, e⟩ | exact .inr ⟨a, b, c, d, _, rfl, e⟩)
    | exact (let ⟨a, b, c, d, e⟩ := h; ⟨a, b, c, d, _, rfl, e⟩)
    | exact (let ⟨a, b⟩ := h; ⟨a, _, rfl, b⟩)
    | (rcases h with ⟨l, p, ps, a, b, c, d, e, q⟩ | ⟨j, l, a, b, c, q⟩ <;> first | exact .inl ⟨l, p, ps, a, b, c, d, e, _, rfl, q⟩ | exact .inr ⟨j, l, a, b, c, _, rfl, q⟩)
/-- an operation's value is a bool -/
theorem st_of {e : Expr} {f : Env → Store → K1 → Prop} {t : TE} (h : PT X e (tTest t)) (k : ∀ σ H Q, tD g f σ H Q → t σ H Q) : PT X e (tDT g f) :=
  PT.imp h fun σ H Q ⟨ρ, S, mu, Qd, re, r, w, q⟩ => k σ H _ ⟨ρ, S, mu, Qd, re, r, w, fun d S' v H' mu' e' r' rv q' => by
    obtain ⟨b, hb, q2⟩ := q d S' H' mu' e' r' q'
    subst hb
    cases rv
    exact ⟨b, rfl, q2⟩⟩
theorem st_val {e : Expr} {f : Env → Store → K1 → Prop} (h : PE X e (tD g f)) (he : ∀ whole, isTrue e X.env whole = (do let v ← whole; standAt e.pos; holding [v] (truthy v))) : PT X e (tDT g f) := st_of (t := tD g f) (pt_val h he) fun _ _ _ w => w
theorem st_cmp (G : Good g X) (o : CmpOp) (ha : PE X a (tD g fa)) (hb : PE X b (tD g fb)) (hm : behindInMarks o b = false) : PT X (.Compare a [o] [b] pos) (tDT g fun ρ S Q => fa ρ S fun x S1 => fb ρ S1 fun y S2 => wCmp o x y S2 fun t => Q (.bl t) S2) :=
  st_of (pt_cmpR (op_cmp G o) ha hb hm) fun _ _ _ w => tOp_lift (f := CR o) w
theorem chain_lift {o o' : CmpOp} {σ : L2.St} {H : Hp} {Q : VK} (h : tD g (fun ρ S Q => fa ρ S fun x S1 => fb ρ S1 fun y S2 => wCmp o x y S2 fun t => if t = true then fc ρ S2 (fun z S3 => wCmp o' y z S3 fun t' => Q (.bl t') S3) else Q (.bl false) S2) σ H Q) :
    tChain (LR g (CR o)) (LR g (CR o')) (tD g fa) (tD g fb) (tD g fc) σ H Q := by
  obtain ⟨ρ, S, mu, Qd, re, r, h, k⟩ := h
  refine ⟨ρ, S, mu, _, re, r, h, fun x S1 v H1 mu1 e1 r1 rv q => ⟨ρ, S1, mu1, _, re.ext e1 r, r1, q, fun y S2 u H2 mu2 e2 r2 ru q2 => ?_⟩⟩
  have e12 := e1.trans e2
  refine ⟨x, y, S2, mu2, fun t S3 => S3 = S2 ∧ ∃ b, t = .bl b ∧ if b = true then fc ρ S2 (fun z S3 => wCmp o' y z S3 fun t' => Qd (.bl t') S3) else Qd (.bl false) S2, rv.ext e2 r1, ru, r2, ?_, fun t S3 w H3 mu3 e3 r3 rw_ q3 => ?_⟩
  · have := wCmp_bl q2
    exact wCmp_imp this fun t ⟨b, hb, q⟩ => ⟨rfl, b, hb, q⟩
  · obtain ⟨rfl, b, rfl, q3⟩ := q3
    cases rw_
    refine ⟨b, rfl, ?_⟩
    have e13 := e12.trans e3
    cases b with
    | true =>
      simp only [if_true] at q3 ⊢
      exact ⟨ρ, S3, mu3, _, re.ext e13 r, r3, q3, fun z S4 w4 H4 mu4 e4 r4 rv4 q4 => ⟨y, z, S4, mu4, Qd, ru.ext (e3.trans e4) r2, rv4, r4, q4, k.ext (e13.trans e4)⟩⟩
    | false =>
      simp only [Bool.false_eq_true, if_false] at q3 ⊢
      exact (k.ext e13).now r3 (.bl _) q3
end
end Lf

set_option Elab.async false
set_option linter.all false
set_option maxRecDepth 100000
set_option maxHeartbeats 4000000
/-! Lf7: tests, displays, subscripts, calls of built-in things, told of data. -/
namespace Lf
open PySem L2
/-- syntax: what the rules ask of it -/
def isStar : Expr → Bool
  | .Starred _ _ => true
  | _ => false
def isSet : Expr → Bool
  | .Set _ _ _ => true
  | _ => false
def isComp : Expr → Bool
  | .ListComp _ _ _ _ => true
  | .SetComp _ _ _ _ => true
  | .DictComp _ _ _ _ _ => true
  | _ => false
def isSlice : Expr → Bool
  | .Slice _ _ _ _ => true
  | _ => false
/-- an expression whose test is the truth of its value -/
def plainTest : Expr → Bool
  | .UnaryOp .Not _ _ => false
  | .BoolOp _ _ _ => false
  | .IfExp _ _ _ _ => false
  | .Compare _ _ _ _ => false
  | _ => true
def isCall : Expr → Bool
  | .Call _ _ _ _ => true
  | _ => false
theorem star_cons {e : Expr} {es : List Expr} {env : PySem.Env} (h : isStar e = false) : starEach (e :: es) env = (false, eval e env) :: starEach es env := by
  cases e <;> first | rfl | cases h
theorem star_star {e : Expr} {p : Pos} {es : List Expr} {env : PySem.Env} : starEach (.Starred e p :: es) env = (true, eval e env) :: starEach es env := rfl
theorem no_star {env : PySem.Env} {pos : Pos} : ∀ {es : List Expr}, es.any isStar = false → (backTo pos (starEach es env)).any (·.1) = false
  | [], _ => rfl
  | e :: es, h => by
    rw [List.any_cons, Bool.or_eq_false_iff] at h
    rw [star_cons h.1]
    show (false || (backTo pos (starEach es env)).any (·.1)) = false
    rw [no_star h.2]; rfl
theorem a_star {env : PySem.Env} {pos : Pos} : ∀ {es : List Expr}, es.any isStar = true → (backTo pos (starEach es env)).any (·.1) = true
  | [], h => by simp at h
  | e :: es, h => by
    cases he : isStar e with
    | true =>
      cases e <;> first | (simp [isStar] at he; done) | rfl
    | false =>
      rw [List.any_cons, he, Bool.false_or] at h
      rw [star_cons he]
      show (false || (backTo pos (starEach es env)).any (·.1)) = true
      rw [a_star h]; rfl
theorem no_set {e : Expr} {env : PySem.Env} (h : isSet e = false) : ∀ x, foldedSetIterable e env x = pure x := by
  intro x
  cases e <;> first | rfl | cases h
theorem no_comp {e : Expr} {t : Option Expr} {l : Nat} {env : PySem.Env} (h : isComp e = false) : swapsWith e t l env = pure false := by
  cases e <;> first | rfl | cases h
theorem plain_ix {e : Expr} (h : isSlice e = false) : PlainIx e := by
  intro o i
  cases e <;> first | rfl | cases h
theorem plain_test {e : Expr} {env : PySem.Env} (h : plainTest e = true) : ∀ whole, isTrue e env whole = (do let v ← whole; standAt e.pos; holding [v] (truthy v)) := by
  intro w
  cases e <;> first | rfl | cases h | skip
  rename_i op a pos
  cases op <;> first | rfl | cases h
theorem base_plain {e : Expr} {n : Str} {env : PySem.Env} (h : isCall e = false) : attributeBase e n env (eval e env) = eval e env := by
  cases e <;> first | rfl | cases h
theorem no_marks {o o' : CmpOp} {b c : Expr} (h : behindInMarks o' c = false) : lastMarks [o, o'] [b, c] = false := h
section
variable {g : Wd} {X : Cx} {a b c : Expr} {fa fb fc : Env → Store → K1 → Prop} {pos : Pos}
def fChain (o o' : CmpOp) (fa fb fc : Env → Store → K1 → Prop) : Env → Store → K1 → Prop := fun ρ S Q => fa ρ S fun x S1 => fb ρ S1 fun y S2 => wCmp o x y S2 fun t => if t = true then fc ρ S2 (fun z S3 => wCmp o' y z S3 fun t' => Q (.bl t') S3) else Q (.bl false) S2
theorem se_chain (G : Good g X) (o o' : CmpOp) (ha : PE X a (tD g fa)) (hb : PE X b (tD g fb)) (hc : PE X c (tD g fc)) (hm : behindInMarks o' c = false) : PE X (.Compare a [o, o'] [b, c] pos) (tD g (fChain o o' fa fb fc)) :=
  PE.imp (pe_chain (op_cmp G o) (op_cmp G o') ha hb hc (no_marks hm)) fun _ _ _ w => chain_lift w
theorem st_chain (G : Good g X) (o o' : CmpOp) (ha : PE X a (tD g fa)) (hb : PE X b (tD g fb)) (hc : PE X c (tD g fc)) (hm : behindInMarks o' c = false) : PT X (.Compare a [o, o'] [b, c] pos) (tDT g (fChain o o' fa fb fc)) :=
  st_of (pt_chain (op_cmp G o) (op_cmp G o') ha hb hc (no_marks hm)) fun _ _ _ w => chain_lift w

/-! ### and, or, not, if -/
def fAnd (fa fb : Env → Store → K1 → Prop) : Env → Store → K1 → Prop := fun ρ S Q => fa ρ S fun x S1 => (x = .bl true ∧ fb ρ S1 fun y S2 => (∃ t, y = .bl t) ∧ Q y S2) ∨ (x = .bl false ∧ Q (.bl false) S1)
def fOr (fa fb : Env → Store → K1 → Prop) : Env → Store → K1 → Prop := fun ρ S Q => fa ρ S fun x S1 => (x = .bl false ∧ fb ρ S1 fun y S2 => (∃ t, y = .bl t) ∧ Q y S2) ∨ (x = .bl true ∧ Q (.bl true) S1)
def fNot (fa : Env → Store → K1 → Prop) : Env → Store → K1 → Prop := fun ρ S Q => fa ρ S fun x S1 => ∃ t, x = .bl t ∧ Q (.bl (!t)) S1
theorem KV.and {H : Hp} {mu : List Addr} {Qd : K1} {Q : VK} (k : KV g H mu Qd Q) : KV g H mu (fun y S2 => (∃ t, y = .bl t) ∧ Qd y S2) Q := fun d S v H' mu' e r rv q => k d S v H' mu' e r rv q.2
theorem se_and {rest : List Expr} (ha : PE X a (tD g fa)) (hb : PE X (.BoolOp .And (b :: rest) pos) (tD g fb)) : PE X (.BoolOp .And (a :: b :: rest) pos) (tD g (fAnd fa fb)) :=
  PE.imp (pe_and ha hb) fun σ H Q ⟨ρ, S, mu, Qd, re, r, h, k⟩ => ⟨ρ, S, mu, _, re, r, h, fun d S1 v H1 mu1 e1 r1 rv q => by
    rcases q with ⟨rfl, q⟩ | ⟨rfl, q⟩
    · cases rv
      exact ⟨true, rfl, show tD g fb σ H1 Q from ⟨ρ, S1, mu1, _, re.ext e1 r, r1, q, (k.ext e1).and⟩⟩
    · cases rv
      exact ⟨false, rfl, (k.ext e1).now r1 (.bl _) q⟩⟩
theorem se_or {rest : List Expr} (ha : PE X a (tD g fa)) (hb : PE X (.BoolOp .Or (b :: rest) pos) (tD g fb)) : PE X (.BoolOp .Or (a :: b :: rest) pos) (tD g (fOr fa fb)) :=
  PE.imp (pe_or ha hb) fun σ H Q ⟨ρ, S, mu, Qd, re, r, h, k⟩ => ⟨ρ, S, mu, _, re, r, h, fun d S1 v H1 mu1 e1 r1 rv q => by
    rcases q with ⟨rfl, q⟩ | ⟨rfl, q⟩
    · cases rv
      exact ⟨false, rfl, show tD g fb σ H1 Q from ⟨ρ, S1, mu1, _, re.ext e1 r, r1, q, (k.ext e1).and⟩⟩
    · cases rv
      exact ⟨true, rfl, (k.ext e1).now r1 (.bl _) q⟩⟩
theorem se_not (ha : PE X a (tD g fa)) : PE X (.UnaryOp .Not a pos) (tD g (fNot fa)) :=
  PE.imp (pe_not ha) fun σ H Q ⟨ρ, S, mu, Qd, re, r, h, k⟩ => ⟨ρ, S, mu, _, re, r, h, fun d S1 v H1 mu1 e1 r1 rv ⟨t, e, q⟩ => by
    subst e
    cases rv
    exact ⟨t, rfl, (k.ext e1).now r1 (.bl _) q⟩⟩
theorem st_not (ha : PT X a (tDT g fa)) : PT X (.UnaryOp .Not a pos) (tDT g (fNot fa)) :=
  PT.imp (pt_not ha) fun σ H Q ⟨ρ, S, mu, Qd, re, r, h, k⟩ => ⟨ρ, S, mu, _, re, r, h, fun d S1 H1 mu1 e1 r1 ⟨t, e, q⟩ => by
    obtain ⟨b, hb, q2⟩ := k _ _ _ _ e1 r1 q
    injection hb with hb
    subst hb
    exact ⟨t, e, q2⟩⟩
theorem sw_and {rest : List Expr} (ha : PT X a (tDT g fa)) (hb : PW X (.BoolOp .And (b :: rest) pos) (tDT g fb)) : PW X (.BoolOp .And (a :: b :: rest) pos) (tDT g (fAnd fa fb)) :=
  PW.imp (pw_and ha hb) fun σ H Q ⟨ρ, S, mu, Qd, re, r, h, k⟩ => ⟨ρ, S, mu, _, re, r, h, fun d S1 H1 mu1 e1 r1 q => by
    rcases q with ⟨rfl, q⟩ | ⟨rfl, q⟩
    · exact ⟨true, rfl, show tDT g fb σ H1 Q from ⟨ρ, S1, mu1, _, re.ext e1 r, r1, q, fun d S2 H2 mu2 e2 r2 q2 => k _ _ _ _ (e1.trans e2) r2 q2.2⟩⟩
    · refine ⟨false, rfl, show Q false H1 from ?_⟩
      obtain ⟨b, hb, q2⟩ := k _ _ _ _ e1 r1 q
      injection hb with hb
      subst hb
      exact q2⟩
theorem sw_or {rest : List Expr} (ha : PT X a (tDT g fa)) (hb : PW X (.BoolOp .Or (b :: rest) pos) (tDT g fb)) : PW X (.BoolOp .Or (a :: b :: rest) pos) (tDT g (fOr fa fb)) :=
  PW.imp (pw_or ha hb) fun σ H Q ⟨ρ, S, mu, Qd, re, r, h, k⟩ => ⟨ρ, S, mu, _, re, r, h, fun d S1 H1 mu1 e1 r1 q => by
    rcases q with ⟨rfl, q⟩ | ⟨rfl, q⟩
    · exact ⟨false, rfl, show tDT g fb σ H1 Q from ⟨ρ, S1, mu1, _, re.ext e1 r, r1, q, fun d S2 H2 mu2 e2 r2 q2 => k _ _ _ _ (e1.trans e2) r2 q2.2⟩⟩
    · refine ⟨true, rfl, show Q true H1 from ?_⟩
      obtain ⟨b, hb, q2⟩ := k _ _ _ _ e1 r1 q
      injection hb with hb
      subst hb
      exact q2⟩
def fIf (fc fa fb : Env → Store → K1 → Prop) : Env → Store → K1 → Prop := fun ρ S Q => fc ρ S fun x S1 => (x = .bl true ∧ fa ρ S1 Q) ∨ (x = .bl false ∧ fb ρ S1 Q)
theorem se_if (hc : PT X c (tDT g fc)) (ha : PE X a (tD g fa)) (hb : PE X b (tD g fb)) : PE X (.IfExp c a b pos) (tD g (fIf fc fa fb)) :=
  PE.imp (pe_ifExp hc ha hb) fun σ H Q ⟨ρ, S, mu, Qd, re, r, h, k⟩ => ⟨ρ, S, mu, _, re, r, h, fun d S1 H1 mu1 e1 r1 q => by
    rcases q with ⟨rfl, q⟩ | ⟨rfl, q⟩
    · exact ⟨true, rfl, show tD g fa σ H1 Q from ⟨ρ, S1, mu1, _, re.ext e1 r, r1, q, k.ext e1⟩⟩
    · exact ⟨false, rfl, show tD g fb σ H1 Q from ⟨ρ, S1, mu1, _, re.ext e1 r, r1, q, k.ext e1⟩⟩⟩

/-! ### arguments, displays -/
abbrev FA := Env → Store → (List D → Store → Prop) → Prop
def fNil : FA := fun _ S Q => Q [] S
def fCons (fa : Env → Store → K1 → Prop) (fr : FA) : FA := fun ρ S Q => fa ρ S fun x S1 => fr ρ S1 fun l S2 => Q (x :: l) S2
def fStar (fa : Env → Store → K1 → Prop) (fr : FA) : FA := fun ρ S Q => fa ρ S fun x S1 => ∃ a, itemsAt S1 x = some a ∧ fr ρ S1 fun l S2 => Q (a ++ l) S2
variable {es : List Expr} {fr : FA}
theorem sa_nil : PA X [] (tDA g fNil) := PA.imp pa_nil fun σ H Q ⟨ρ, S, mu, Qd, re, r, h, k⟩ => k _ _ _ _ _ (.refl _ _) r .nil h
theorem sa_cons (h0 : isStar a = false) (ha : PE X a (tD g fa)) (hr : PA X es (tDA g fr)) : PA X (a :: es) (tDA g (fCons fa fr)) :=
  PA.imp (pa_cons ha hr (star_cons h0)) fun σ H Q ⟨ρ, S, mu, Qd, re, r, h, k⟩ => ⟨ρ, S, mu, _, re, r, h, fun d S1 v H1 mu1 e1 r1 rv q =>
    ⟨ρ, S1, mu1, _, re.ext e1 r, r1, q, fun l S2 vs H2 mu2 e2 r2 rvs q2 => k _ _ _ _ _ (e1.trans e2) r2 (.cons (rv.ext e2 r1) rvs) q2⟩⟩
theorem sa_star (G : Good g X) {p : Pos} (ha : PE X a (tD g fa)) (hr : PA X es (tDA g fr)) : PA X (.Starred a p :: es) (tDA g (fStar fa fr)) :=
  PA.imp (StX.pa_star ha hr star_star) fun σ H Q ⟨ρ, S, mu, Qd, re, r, h, k⟩ => ⟨ρ, S, mu, _, re, r, h, fun d S1 v H1 mu1 e1 r1 rv ⟨l0, hl, q⟩ => by
    obtain ⟨a, us, rfl, hus, hh⟩ := items_sq r1 rv hl
    refine ⟨a, us, rfl, by rw [G.eK]; exact hh.symm, ρ, S1, mu1, _, re.ext e1 r, r1, q, fun l S2 vs H2 mu2 e2 r2 rvs q2 => k _ _ _ _ _ (e1.trans e2) r2 ((hus.ext e2 r1).append rvs) q2⟩⟩
theorem KVs.tup {H : Hp} {mu : List Addr} {Qd : K1} {Q : VK} (k : KV g H mu Qd Q) : KVs g H mu (fun l S' => l.length ≤ sizeLine ∧ Qd (.tup l) S') (fun xs H1 => xs.length ≤ sizeLine ∧ ∀ p, H1 p = none → Q (.ref p) (upd H1 p (.tup xs))) :=
  fun l S' vs H' mu' e r rvs q => ⟨by rw [← rvs.length]; exact q.1, fun p hp => (k.ext e).tup r rvs q.2 hp⟩
theorem KVs.lst {H : Hp} {mu : List Addr} {Qd : K1} {Q : VK} (k : KV g H mu Qd Q) : KVs g H mu (fun l S' => l.length ≤ sizeLine ∧ alloc S' (.lst l) Qd) (fun xs H1 => xs.length ≤ sizeLine ∧ ∀ p, H1 p = none → Q (.ref p) (upd H1 p (.lst xs))) :=
  fun l S' vs H' mu' e r rvs q => ⟨by rw [← rvs.length]; exact q.1, fun p hp => (k.ext e).lst r rvs q.2 hp⟩
theorem se_tup {x1} (h : PA X es (tDA g fr)) : PE X (.Tuple es x1 pos) (tD g fun ρ S Q => fr ρ S fun l S' => l.length ≤ sizeLine ∧ Q (.tup l) S') :=
  PE.imp (pe_tup h) fun σ H Q ⟨ρ, S, mu, Qd, re, r, h, k⟩ => ⟨ρ, S, mu, _, re, r, h, KVs.tup k⟩
theorem se_lst (h : PA X es (tDA g fr)) : PE X (.List es pos) (tD g fun ρ S Q => fr ρ S fun l S' => l.length ≤ sizeLine ∧ alloc S' (.lst l) Q) :=
  PE.imp (pe_lst h) fun σ H Q ⟨ρ, S, mu, Qd, re, r, h, k⟩ => ⟨ρ, S, mu, _, re, r, h, KVs.lst k⟩
theorem se_dnew : PE X (.Dict [] [] pos) (tD g fun _ S Q => alloc S (.dic []) Q) :=
  PE.imp pe_dnewK fun σ H Q ⟨ρ, S, mu, Qd, re, r, h, k⟩ p hp => by
    obtain ⟨r1, e1⟩ := r.alloc (u := .dK []) (o := .dic []) hp (.dicA upd_same .nil)
    refine k _ _ _ _ _ e1 r1 (.obj ?_) h
    rw [← r.len, List.getElem?_append_right (Nat.le_refl _), Nat.sub_self]
    rfl

/-! ### subscripts -/
theorem se_ix (G : Good g X) (ha : PE X a (tD g fa)) (hb : PE X b (tD g fb)) (h : isSlice b = false) : PE X (.Subscript a b pos) (tD g fun ρ S Q => fa ρ S fun x S1 => fb ρ S1 fun y S2 => wIx x y S2 Q) :=
  PE.imp (pe_ix (ix_any G) ha hb (plain_ix h)) fun _ _ _ w => tOp_lift w
abbrev FO := Env → Store → (Option Int → Store → Prop) → Prop
def tDO (g : Wd) (f : FO) : TO := fun σ H Q => ∃ ρ S mu Qd, Re g H mu ρ σ ∧ R g H mu S ∧ f ρ S Qd ∧ ∀ o S' H' mu', Ext H mu H' mu' → R g H' mu' S' → Qd o S' → Q o H'
theorem PO.imp {X : Cx} {e : Option Expr} {t t' : TO} (h : PO X e t) (k : ∀ σ H Q, t' σ H Q → t σ H Q) : PO X e t' := ⟨fun pins s σ H Q I w => h.run pins s σ H Q I (k _ _ _ w)⟩
theorem so_no : PO X none (tDO g fun _ S Q => Q none S) := PO.imp po_none fun σ H Q ⟨ρ, S, mu, Qd, re, r, h, k⟩ => k _ _ _ _ (.refl _ _) r h
theorem so_yes (ha : PE X a (tD g fa)) : PO X (some a) (tDO g fun ρ S Q => fa ρ S fun x S1 => ∃ i, x = .int i ∧ Q (some i) S1) :=
  PO.imp (po_some ha) fun σ H Q ⟨ρ, S, mu, Qd, re, r, h, k⟩ => ⟨ρ, S, mu, _, re, r, h, fun d S1 v H1 mu1 e1 r1 rv ⟨i, e, q⟩ => by
    subst e
    cases rv
    exact ⟨i, rfl, k _ _ _ _ e1 r1 q⟩⟩
theorem se_sl (G : Good g X) {lo hi : Option Expr} {fl fh : FO} {p2 : Pos} (ha : PE X a (tD g fa)) (hl : PO X lo (tDO g fl)) (hh : PO X hi (tDO g fh)) :
    PE X (.Subscript a (.Slice lo hi none p2) pos) (tD g fun ρ S Q => fa ρ S fun x S1 => fl ρ S1 fun l S2 => fh ρ S2 fun u S3 => wSl x l u S3 g.ns Q) :=
  PE.imp (pe_slice (sl_any G) ha hl hh) fun σ H Q ⟨ρ, S, mu, Qd, re, r, h, k⟩ => ⟨ρ, S, mu, _, re, r, h, fun d S1 v H1 mu1 e1 r1 rv q =>
    ⟨ρ, S1, mu1, _, re.ext e1 r, r1, q, fun l S2 H2 mu2 e2 r2 q2 => ⟨ρ, S2, mu2, _, re.ext (e1.trans e2) r, r2, q2, fun u S3 H3 mu3 e3 r3 q3 =>
      ⟨d, S3, mu3, Qd, rv.ext (e2.trans e3) r1, r3, q3, (k.ext e1).ext (e2.trans e3)⟩⟩⟩⟩
theorem se_rev {kk : Nat} {p1 p2 p3 : Pos} (G : Good g X) (ha : PE X a (tD g fa)) : PE X (.Subscript a (.Slice none none (some (.UnaryOp .USub (.Constant (.int 1) kk p1) p2)) p3) pos) (tD g fun ρ S Q => fa ρ S fun x S1 => wRev x S1 Q) := by
  refine ⟨fun pins s σ H Q I h => ?_⟩
  obtain ⟨ρ, S, mu, Qd, re, r, h, k⟩ := h
  -- the value first, then by its kind
  refine PyProof.Rows.Subscript_ (thn (ha.run pins s σ H (fun v H1 => ∃ d S1 mu1, Ext H mu H1 mu1 ∧ R g H1 mu1 S1 ∧ Rv H1 g.sa mu1 d v ∧ wRev d S1 Qd) I ⟨ρ, S, mu, _, re, r, h, fun d S1 v H1 mu1 e1 r1 rv q => ⟨d, S1, mu1, e1, r1, rv, q⟩⟩) fun v s1 ⟨x, H1, I1, rx, d, S1, mu1, e1, r1, rv, q⟩ => ?_)
  have hst : PO X (some (.UnaryOp .USub (.Constant (.int 1) kk p1) p2)) (tPart (tUn (rU fun i => .int (-i)) (tC (.int 1)))) := po_some (pe_un un_neg pe_int)
  refine PySem.wpAny_Slice (thn (po_none.run pins s1 σ H1 (fun o H2 => o = none ∧ H2 = H1) I1 ⟨rfl, rfl⟩) fun vl s2 ⟨l, H2, I2, pl, el, e2⟩ => ?_)
  subst el e2
  refine thn (po_none.run pins s2 σ H2 (fun o H3 => o = none ∧ H3 = H2) I2 ⟨rfl, rfl⟩) fun vu s3 ⟨u, H3, I3, pu, eu, e3⟩ => ?_
  subst eu e3
  refine thn (hst.run pins s3 σ H3 (fun o H4 => o = some (-1) ∧ H4 = H3) I3 ⟨1, rfl, -1, rfl, rfl, rfl⟩) fun vs s4 ⟨o, H4, I4, ps, eo, e4⟩ => ?_
  subst eo e4
  have I5 : Inv X pins σ H4 { s4 with heap := s4.heap.push { cls := .type "slice", data := .fields #[vl, vu, vs] } } := I4.kept (t' := s4.toks) fun b ob q => Heap.get?_push_of_some _ q
  have kk4 := k.ext e1
  cases pl
  cases pu
  cases d with
  | tup m =>
    cases rv with
    | tup h1 h2 =>
      cases rx
      obtain ⟨its, rr, ht, hz⟩ := I5.tuple (.of h1)
      have hlen := rr.length
      show wpAny (model X.prog X.w) X.A (PyProof.Rows.subscriptTail a (.Slice none none (some (.UnaryOp .USub (.Constant (.int 1) kk p1) p2)) p3) (.ref _) (.ref s4.heap.objs.size)) (EP X pins σ Q) X.xe { s4 with heap := s4.heap.push { cls := .type "slice", data := .fields #[.none, .none, vs] } }
      refine PyProof.Rows.tail_any (ops := [.ref _, .ref s4.heap.objs.size]) ht.typeIs (PyProof.Rows.slot_tuple_getitem.lookup) ?_ (by with_unfolding_all rfl)
      refine getItem_tuple_back ht (Heap.IsSliceOf.new _ .none .none vs) ps ?_ (by omega)
      refine ⟨.ref _, _, I5.laid (t' := s4.toks) (o := .tup _) (fun b ob q => Heap.get?_push_of_some _ q) (Nat.le_refl _) ?_, rfl, kk4.tup r1 h2.reverse q (I5.hok.fresh (Nat.le_refl _))⟩
      exact ⟨by rw [List.length_reverse]; exact hz, _, rr.reverse, PyProof.Rows.IsTup.new _ _⟩
  | obj i =>
    obtain ⟨l, h1, q⟩ := q
    obtain ⟨ad, us, rfl, hus, ⟨m, e, _⟩ | ⟨n, _, _, hl⟩⟩ := items_in r1 rv h1
    · cases e
    · cases rx
      obtain ⟨its, rr, ht, hz⟩ := I5.list (.of hl)
      have hlen := rr.length
      show wpAny (model X.prog X.w) X.A (PyProof.Rows.subscriptTail a (.Slice none none (some (.UnaryOp .USub (.Constant (.int 1) kk p1) p2)) p3) (.ref ad) (.ref s4.heap.objs.size)) (EP X pins σ Q) X.xe { s4 with heap := s4.heap.push { cls := .type "slice", data := .fields #[.none, .none, vs] } }
      refine PyProof.Rows.tail_any (ops := [.ref ad, .ref s4.heap.objs.size]) ht.isList.typeIs (PySem.slot_list_getitem.lookup) ?_ (by with_unfolding_all rfl)
      refine wpAny_getItem_list_slice ht.isList (Heap.IsSliceOf.new _ .none .none vs) .none .none ps (by decide) ?_ (by rw [List.size_toArray]; omega)
      rw [PySem.W.krv_pick]
      refine ⟨.ref _, _, I5.laid (t' := s4.toks) (o := .lst _) (fun b ob q => Heap.get?_push_of_some _ q) (Nat.le_refl _) ?_, rfl, kk4.lst r1 hus.reverse q (I5.hok.fresh (Nat.le_refl _))⟩
      exact ⟨by rw [List.length_reverse]; exact hz, _, 0, rr.reverse, Heap.get?_push_size _ rfl⟩
  | _ => exact False.elim q
end
end Lf

set_option Elab.async false
set_option linter.all false
set_option maxRecDepth 100000
set_option maxHeartbeats 4000000
/-! Lf8: calls, what a loop walks, targets, told of data. -/
namespace Lf
open PySem L2
/-- how the arguments of a call come to positions: all by position, or the last ones by names that are told in pat -/
def Acc (pat : List (Nat × List Str)) (args : Args) (us : List Value) : Prop :=
  args = ⟨us, []⟩ ∨ ∃ u1 u2 ks, us = u1 ++ u2 ∧ args = ⟨u1, ks.zip u2⟩ ∧ (u1.length, ks) ∈ pat ∧ u2.length = ks.length
/-- a promise told of data, as the hand layer says it -/
def lift (g : Wd) (sp : Lf.Sp) : L2.Sp := fun vs H Q _ => ∃ ds S mu Qd, Rvs H g.sa mu ds vs ∧ R g H mu S ∧ sp.wp ds S Qd never ∧ KV g H mu Qd Q
/-- the def at f keeps the promise; no guard is set around it -/
def FnG (g : Wd) (mg : Str → Option Value) (base : Heap) (pat : List (Nat × List Str)) (k : Nat) (f : Addr) (sp : Lf.Sp) : Prop :=
  ∀ (A : Around) (outer : List PySem.Env) (s : Shared) (H : Hp) (args : Args) (us : List Value) (vs : List V) (Q : VK) (E : XK), Room k A → A.guards = some [] → Env0 g.P g.w g.K mg base A outer s H → Acc pat args us → Vals vs us → lift g sp vs H Q E →
    codeAny (model g.P g.w) A (.call (.ref f) args) (L2.CR CX0 outer g.P g.w H s Q E) s
theorem FnG.mono {g : Wd} {mg : Str → Option Value} {base : Heap} {pat : List (Nat × List Str)} {j k : Nat} {f : Addr} {sp : Lf.Sp} (F : FnG g mg base pat j f sp) (h : j ≤ k) : FnG g mg base pat k f sp :=
  fun A outer s H args us vs Q E hr => F A outer s H args us vs Q E (hr.mono h)
/-- the defs that the text may call: their names, promises, forms of arguments -/
structure Prog where
  fn : List Str
  G : Nat → Lf.Sp
  pat : Nat → List (Nat × List Str)
  bn : List Str
/-- .. as the context knows them -/
structure Calls (g : Wd) (p : Prog) (X : Cx) : Prop where
  good : Good g X
  fns : ∀ (f : Nat) (x : Str), p.fn[f]? = some x → ∃ a k, X.mg x = some (.ref a) ∧ PySem.W.keepIn X.K (.ref a) = true ∧ FnG g X.mg X.base (p.pat f) k a (p.G f) ∧ Room k X.A
  blt : ∀ x ∈ p.bn, X.mg x = none
section
variable {g : Wd} {pr : Prog} {X : Cx} {fa fb : Env → Store → K1 → Prop} {fr fk : FA} {pos p : Pos} {x : Str} {es : List Expr} {e : Expr}
theorem run_G (C : Calls g pr X) {f : Nat} (hf : pr.fn[f]? = some x) {pins : List (Addr × Obj)} {σ : L2.St} {H : Hp} {s : Shared} {Q : VK} {us : List Value} {vs : List V} {us1 : List Value} {kw : List (Str × Value)} {a : Addr} {k : Nat}
    (F : FnG g X.mg X.base (pr.pat f) k a (pr.G f)) (hr : Room k X.A) (I : Inv X pins σ H s) (ha : Acc (pr.pat f) ⟨us1, kw⟩ us) (r : Vals vs us) (h : lift g (pr.G f) vs H Q fun _ _ _ => False) :
    wpAny (model X.prog X.w) X.A (call (.ref a) us1 kw) (EP X pins σ Q) X.xe s := by
  have G := C.good
  have e0 := I.env0
  rw [G.eP, G.eW, G.eK] at e0
  have hc := F X.A X.stack s H ⟨us1, kw⟩ us vs Q (fun _ _ _ => False) hr G.gd e0 ha r h
  rw [← G.eP, ← G.eW] at hc
  refine wpAny_call (codeAny_mono hc fun r s' hq => ?_)
  cases r with
  | error e => exact False.elim hq
  | ok fl =>
    cases fl with
    | ret u => exact I.after hq
    | next => exact False.elim hq
    | brk => exact False.elim hq
    | cont => exact False.elim hq
def fCall (pr : Prog) (f : Nat) (fr : FA) : Env → Store → K1 → Prop := fun ρ S Q => fr ρ S fun l S' => (pr.G f).wp l S' Q never
theorem lift_of {f : Nat} {H H' : Hp} {mu mu' : List Addr} {Q : VK} {Qd : K1} {l : List D} {vs : List V} {S' : Store} (k : KV g H mu Qd Q) (e : Ext H mu H' mu') (r : R g H' mu' S') (rv : Rvs H' g.sa mu' l vs) (h : (pr.G f).wp l S' Qd never) : lift g (pr.G f) vs H' Q fun _ _ _ => False :=
  ⟨l, S', mu', Qd, rv, r, h, k.ext e⟩
/-- f() -/
theorem se_call0 (C : Calls g pr X) {f : Nat} (hf : pr.fn[f]? = some x) (hg : Gl X x) (hd : (x == ("__debug__" : Str)) = false) : PE X (.Call (.Name x p) [] [] pos) (tD g (fCall pr f fNil)) := by
  obtain ⟨a, k, hm, hk, F, hr⟩ := C.fns f x hf
  refine ⟨fun pins s σ H Q I h => ?_⟩
  obtain ⟨ρ, S, mu, Qd, re, r, h, kk⟩ := h
  refine wpAny_Call_Name_kw (ld_glob I hg hm ?_ hd)
  refine PySem.W.callWith_K0 I.kIn hk ?_
  exact run_G C hf F hr I (.inl rfl) .nil ⟨[], S, mu, Qd, .nil, r, h, kk⟩
/-- f(e, ..), stars behind the first -/
theorem se_call (C : Calls g pr X) {f : Nat} (hf : pr.fn[f]? = some x) (hg : Gl X x) (hd : (x == ("__debug__" : Str)) = false) (hs : isStar e = false) (ha : PA X (e :: es) (tDA g fr)) :
    PE X (.Call (.Name x p) (e :: es) [] pos) (tD g (fCall pr f fr)) := by
  obtain ⟨a, k, hm, hk, F, hr⟩ := C.fns f x hf
  refine ⟨fun pins s σ H Q I h => ?_⟩
  obtain ⟨ρ, S, mu, Qd, re, r, h, kk⟩ := h
  have hA := ha.run pos pins s σ H (fun vs H' => lift g (pr.G f) vs H' Q fun _ _ _ => False) I ⟨ρ, S, mu, _, re, r, h, fun l S' vs H' mu' e' r' rv q => lift_of kk e' r' rv q⟩
  refine wpAny_Call_Name_kw (ld_glob I hg hm ?_ hd)
  cases hst : es.any isStar with
  | false =>
    refine PySem.W.callWith_K (h₀ := X.base) I.ok.mod.kin hk (thn hA fun us s1 ⟨vs, H1, I1, rv, q⟩ => ⟨I1.kIn, ?_⟩) (star_cons hs) (no_star hst)
    exact run_G C hf F hr I1 (.inl rfl) rv q
  | true =>
    refine PySem.W.callWith_S2 (h₀ := X.base) I.ok.mod.kin hk (thn hA fun us s1 ⟨vs, H1, I1, rv, q⟩ => ⟨I1.kIn, ?_⟩) (star_cons hs) (a_star hst)
    exact run_G C hf F hr I1 (.inl rfl) rv q
/-- f(*e) -/
theorem se_call1 (C : Calls g pr X) {f : Nat} {q : Pos} (hf : pr.fn[f]? = some x) (hg : Gl X x) (hd : (x == ("__debug__" : Str)) = false) (he : PE X e (tD g fa)) :
    PE X (.Call (.Name x p) [.Starred e q] [] pos) (tD g (fCall pr f (fStar fa fNil))) := by
  obtain ⟨a, k, hm, hk, F, hr⟩ := C.fns f x hf
  refine ⟨fun pins s σ H Q I h => ?_⟩
  obtain ⟨ρ, S, mu, Qd, re, r, h, kk⟩ := h
  refine wpAny_Call_Name_kw (ld_glob I hg hm ?_ hd)
  refine PySem.W.callWith_S (h₀ := X.base) I.ok.mod.kin hk ?_ rfl
  refine thn (he.run pins s σ H (fun v H1 => ∃ d S1 mu1, Ext H mu H1 mu1 ∧ R g H1 mu1 S1 ∧ Rv H1 g.sa mu1 d v ∧ ∃ l, itemsAt S1 d = some l ∧ (pr.G f).wp (l ++ []) S1 Qd never) I ⟨ρ, S, mu, _, re, r, h, fun d S1 v H1 mu1 e1 r1 rv q => ⟨d, S1, mu1, e1, r1, rv, q⟩⟩) fun v s1 ⟨y, H1, I1, ry, d, S1, mu1, e1, r1, rv, l0, hl, q⟩ => ?_
  obtain ⟨ad, us, rfl, hus, hh⟩ := items_sq r1 rv hl
  cases ry
  rw [← C.good.eK] at hh
  rw [List.append_nil] at q
  exact StX.star_any I1 hh.symm fun ws s2 I2 rw_ => ⟨I2.kIn, run_G C hf F hr I2 (.inl rfl) rw_ (lift_of kk e1 r1 hus q)⟩
/-! ### names in a call -/
def kwNames : List Keyword → Option (List Str)
  | [] => some []
  | ⟨some n, _, _⟩ :: r => (kwNames r).map (n :: ·)
  | ⟨none, _, _⟩ :: _ => none
theorem kw_all {env : PySem.Env} {pos : Pos} : ∀ {kws : List Keyword} {ks : List Str}, kwNames kws = some ks → (backToKw pos (keywordEach kws env)).all (·.1.isSome) = true ∧ (backToKw pos (keywordEach kws env)).filterMap (·.1) = ks ∧ (backToKw pos (keywordEach kws env)).any (·.1.isNone) = false
  | [], _, h => by cases h; exact ⟨rfl, rfl, rfl⟩
  | ⟨some n, e, q⟩ :: r, ks, h => by
    obtain ⟨k2, h1, h2⟩ := Option.map_eq_some_iff.mp h
    subst h2
    obtain ⟨a, b, c⟩ := kw_all (env := env) (pos := pos) h1
    exact ⟨by show (true && (backToKw pos (keywordEach r env)).all (·.1.isSome)) = true; rw [a]; rfl, by show n :: (backToKw pos (keywordEach r env)).filterMap (·.1) = _; rw [b],
      by show (false || (backToKw pos (keywordEach r env)).any (·.1.isNone)) = false; rw [c]; rfl⟩
  | ⟨none, _, _⟩ :: _, _, h => by cases h
/-- the values of the keywords -/
theorem sk_nil : PK X [] (tDA g fNil) := ⟨fun pos pins s σ H Q I ⟨ρ, S, mu, Qd, re, r, h, k⟩ => pk_nil.run pos pins s σ H Q I (k _ _ _ _ _ (.refl _ _) r .nil h)⟩
theorem sk_cons {nm : Option Str} {kws : List Keyword} {q : Pos} (ha : PE X e (tD g fa)) (hr : PK X kws (tDA g fr)) : PK X (⟨nm, e, q⟩ :: kws) (tDA g (fCons fa fr)) :=
  ⟨fun pos pins s σ H Q I ⟨ρ, S, mu, Qd, re, r, h, k⟩ => (pk_cons ha hr).run pos pins s σ H Q I ⟨ρ, S, mu, _, re, r, h, fun d S1 v H1 mu1 e1 r1 rv q =>
    ⟨ρ, S1, mu1, _, re.ext e1 r, r1, q, fun l S2 vs H2 mu2 e2 r2 rvs q2 => k _ _ _ _ _ (e1.trans e2) r2 (.cons (rv.ext e2 r1) rvs) q2⟩⟩⟩
def fApp (fr fk : FA) : FA := fun ρ S Q => fr ρ S fun l S1 => fk ρ S1 fun m S2 => Q (l ++ m) S2
theorem kw_len {env : PySem.Env} {pos : Pos} : ∀ {kws : List Keyword} {ks : List Str}, kwNames kws = some ks → kws.length = ks.length
  | [], _, h => by cases h; rfl
  | ⟨some n, e, q⟩ :: r, ks, h => by
    obtain ⟨k2, h1, h2⟩ := Option.map_eq_some_iff.mp h
    subst h2
    simp [kw_len (env := env) (pos := pos) h1]
  | ⟨none, _, _⟩ :: _, _, h => by cases h
/-- f(k = v, ..) -/
theorem se_callk0 (C : Calls g pr X) {f : Nat} {kws : List Keyword} {ks : List Str} (hf : pr.fn[f]? = some x) (hg : Gl X x) (hd : (x == ("__debug__" : Str)) = false) (hn : kwNames kws = some ks) (hp : (0, ks) ∈ pr.pat f) (hlen : ∀ ρ S Q, fk ρ S Q → fk ρ S fun m S' => m.length = ks.length ∧ Q m S') (hk : PK X kws (tDA g fk)) :
    PE X (.Call (.Name x p) [] kws pos) (tD g (fCall pr f fk)) := by
  obtain ⟨a, k, hm, hkp, F, hr⟩ := C.fns f x hf
  refine ⟨fun pins s σ H Q I h => ?_⟩
  obtain ⟨ρ, S, mu, Qd, re, r, h, kk⟩ := h
  obtain ⟨h1, h2, h3⟩ := kw_all (env := X.env) (pos := pos) hn
  refine wpAny_Call_Name_kw (ld_glob I hg hm ?_ hd)
  refine PySem.W.callWith_KW0 (h₀ := X.base) I.ok.mod.kin hkp h1 ?_ (by rw [h3]; rfl)
  refine thn (hk.run pos pins s σ H (fun vs H' => vs.length = ks.length ∧ lift g (pr.G f) vs H' Q fun _ _ _ => False) I ⟨ρ, S, mu, _, re, r, hlen _ _ _ h, fun l S' vs H' mu' e' r' rv q => ⟨by rw [← rv.length]; exact q.1, lift_of kk e' r' rv q.2⟩⟩) fun ws s2 ⟨zs, H2, I2, rz, hl, q2⟩ => ⟨I2.kIn, ?_⟩
  rw [h2]
  exact run_G C hf F hr I2 (.inr ⟨[], ws, ks, rfl, rfl, hp, by rw [← rz.length]; exact hl⟩) rz q2
end
end Lf

set_option Elab.async false
set_option linter.all false
set_option maxRecDepth 100000
set_option maxHeartbeats 4000000
/-! Lf9: built-in calls, methods, what a loop walks, targets, comprehensions, told of data. -/
namespace Lf
open PySem L2
section
variable {g : Wd} {pr : Prog} {X : Cx} {fa fb : Env → Store → K1 → Prop} {fr fk : FA} {pos p apos : Pos} {x : Str} {es : List Expr} {e o : Expr}
theorem tCB_lift {f : List D → Store → K1 → Prop} {σ : L2.St} {H : Hp} {Q : VK} (h : tD g (fun ρ S Q => fr ρ S fun l S' => f l S' Q) σ H Q) : tCB (LRs g f) (tDA g fr) σ H Q := by
  obtain ⟨ρ, S, mu, Qd, re, r, h, k⟩ := h
  exact ⟨ρ, S, mu, _, re, r, h, fun l S' vs H' mu' e' r' rv q => ⟨l, S', mu', Qd, rv, r', q, k.ext e'⟩⟩
/-- the built-in functions that are told: name, what it is called by -/
def biName : Bi → Str
  | .len => "len" | .lst => "list" | .tup => "tuple" | .toStr => "str" | .toInt => "int" | .sorted => "sorted" | .repr => "repr" | .dict => "dict" | .isi _ => "isinstance"
/-- a built-in function of one plain argument -/
theorem se_bi1 (C : Calls g pr X) (n : Bi) (hn : n = .len ∨ n = .sorted ∨ n = .repr ∨ n = .lst ∨ n = .tup ∨ n = .toStr ∨ n = .toInt) (hb : biName n ∈ pr.bn) (hg : Gl X (biName n)) (hs : isStar e = false) (ha : PE X e (tD g fa)) :
    PE X (.Call (.Name (biName n) p) [e] [] pos) (tD g fun ρ S Q => fCons fa fNil ρ S fun l S' => wBi n l S' Q) := by
  have hm := C.blt _ hb
  have G := C.good
  have hA : PA X [e] (tDA g (fCons fa fNil)) := sa_cons hs ha sa_nil
  rcases hn with rfl | rfl | rfl | rfl | rfl | rfl | rfl
  · exact PE.imp (pe_callB (call_len_any G) hg hm (by decide +kernel) hA (by decide) (by decide) (star_cons hs) rfl) fun _ _ _ w => tCB_lift w
  · exact PE.imp (pe_callB (call_sorted_any G) hg hm (by decide +kernel) hA (by decide) (by decide) (star_cons hs) rfl) fun _ _ _ w => tCB_lift w
  · exact PE.imp (pe_callB (call_repr_any G) hg hm (by decide +kernel) hA (by decide) (by decide) (star_cons hs) rfl) fun _ _ _ w => tCB_lift w
  · exact PE.imp (pe_callTy (call_list_any G) hg hm (by decide +kernel) hA (by decide) (by decide) (star_cons hs) rfl) fun _ _ _ w => tCB_lift w
  · exact PE.imp (pe_callTy (call_tuple_any G) hg hm (by decide +kernel) hA (by decide) (by decide) (star_cons hs) rfl) fun _ _ _ w => tCB_lift w
  · exact PE.imp (pe_callTy call_str_any hg hm (by decide +kernel) hA (by decide) (by decide) (star_cons hs) rfl) fun _ _ _ w => tCB_lift w
  · exact PE.imp (pe_callTy call_int_any hg hm (by decide +kernel) hA (by decide) (by decide) (star_cons hs) rfl) fun _ _ _ w => tCB_lift w

/-! ### methods -/
theorem few1 {env : PySem.Env} {e : Expr} {pos : Pos} (hs : isStar e = false) : ((backTo pos (starEach [e] env)).all (fun x => !x.1) && (backToKw pos (keywordEach [] env)).all (fun x => x.1.isSome) && decide ([e].length + ([] : List Keyword).length + (if ([] : List Keyword).isEmpty then 0 else 1) < 30)) = true := by
  rw [star_cons hs]; rfl
theorem me_list {H : Hp} {mu : List Addr} {S : Store} {d : D} {v : V} (r : R g H mu S) (rv : Rv H g.sa mu d v) (h : ∃ i l, d = .obj i ∧ S[i]? = some (.lst l)) (K : PySem.W.Frag) : tyV K "list" v H := by
  obtain ⟨i, l, rfl, hi⟩ := h
  obtain ⟨a, vs, rfl, _, hl, _⟩ := r.at_lst rv hi
  exact .inl ⟨rfl, _, .of hl⟩
def fMe (n : Me) (fa : Env → Store → K1 → Prop) (fr : FA) : Env → Store → K1 → Prop := fun ρ S Q => fa ρ S fun x S1 => meOk n x S1 ∧ fr ρ S1 fun l S' => wMe n x l S' Q
theorem tBM_lift {n : Me} {T : String} {K : PySem.W.Frag} {f : D → List D → Store → K1 → Prop} (hty : ∀ {H : Hp} {mu : List Addr} {S : Store} {d : D} {v : V}, R g H mu S → Rv H g.sa mu d v → meOk n d S → tyV K T v H) (hf : ∀ x l S Q, wMe n x l S Q → f x l S Q)
    {σ : L2.St} {H : Hp} {Q : VK} (h : tD g (fMe n fa fr) σ H Q) : tBM K T (LRm g f) (tD g fa) (tDA g fr) σ H Q := by
  obtain ⟨ρ, S, mu, Qd, re, r, h, k⟩ := h
  exact ⟨ρ, S, mu, _, re, r, h, fun d S1 v H1 mu1 e1 r1 rv ⟨ok, q⟩ => ⟨hty r1 rv ok, ρ, S1, mu1, _, re.ext e1 r, r1, q, fun l S2 vs H2 mu2 e2 r2 rvs q2 => ⟨d, l, S2, mu2, Qd, rv.ext e2 r1, rvs, r2, hf _ _ _ _ q2, (k.ext e1).ext e2⟩⟩⟩
theorem tBM0_lift {n : Me} {T : String} {K : PySem.W.Frag} {f : D → List D → Store → K1 → Prop} (hty : ∀ {H : Hp} {mu : List Addr} {S : Store} {d : D} {v : V}, R g H mu S → Rv H g.sa mu d v → meOk n d S → tyV K T v H) (hf : ∀ x l S Q, wMe n x l S Q → f x l S Q)
    {σ : L2.St} {H : Hp} {Q : VK} (h : tD g (fMe n fa fNil) σ H Q) : tBM0 K T (LRm g f) (tD g fa) σ H Q := by
  obtain ⟨ρ, S, mu, Qd, re, r, h, k⟩ := h
  exact ⟨ρ, S, mu, _, re, r, h, fun d S1 v H1 mu1 e1 r1 rv ⟨ok, q⟩ => ⟨hty r1 rv ok, d, [], S1, mu1, Qd, rv, .nil, r1, hf _ _ _ _ q, k.ext e1⟩⟩
theorem se_append (ho : PE X o (tD g fa)) (hc : isCall o = false) (hs : isStar e = false) (he : PE X e (tD g fb)) (hl : (apos.endLine == pos.line) = true) : PE X (.Call (.Attribute o "append" apos) [e] [] pos) (tD g (fMe .append fa (fCons fb fNil))) :=
  PE.imp (pe_bm PySem.F.plainAttrs_list PySem.F.slot_list_append PySem.F.type_list_append mt_append_any ho (sa_cons hs he sa_nil) (base_plain hc) (few1 hs) hl (star_cons hs) rfl) fun _ _ _ w => tBM_lift (n := .append) (fun r rv h => me_list r rv h _) (fun _ _ _ _ q => q) w
theorem se_pop (ho : PE X o (tD g fa)) (hc : isCall o = false) (hl : (apos.endLine == pos.line) = true) : PE X (.Call (.Attribute o "pop" apos) [] [] pos) (tD g (fMe .pop fa fNil)) :=
  PE.imp (pe_bm0 PySem.F.plainAttrs_list PySem.F.slot_list_pop PySem.F.type_list_pop mt_pop_any ho (base_plain hc) hl) fun _ _ _ w => tBM0_lift (n := .pop) (fun r rv h => me_list r rv h _) (fun _ _ _ _ q => .inl q) w
theorem se_popAt (ho : PE X o (tD g fa)) (hc : isCall o = false) (hs : isStar e = false) (he : PE X e (tD g fb)) (hl : (apos.endLine == pos.line) = true) : PE X (.Call (.Attribute o "pop" apos) [e] [] pos) (tD g (fMe .popAt fa (fCons fb fNil))) :=
  PE.imp (pe_bm PySem.F.plainAttrs_list PySem.F.slot_list_pop PySem.F.type_list_pop mt_pop_any ho (sa_cons hs he sa_nil) (base_plain hc) (few1 hs) hl (star_cons hs) rfl) fun _ _ _ w => tBM_lift (n := .popAt) (fun r rv h => me_list r rv h _) (fun _ _ _ _ q => .inr q) w
theorem se_split (ho : PE X o (tD g fa)) (hc : isCall o = false) (hs : isStar e = false) (he : PE X e (tD g fb)) (hl : (apos.endLine == pos.line) = true) : PE X (.Call (.Attribute o "split" apos) [e] [] pos) (tD g (fMe .split fa (fCons fb fNil))) :=
  PE.imp (pe_m1 PySem.F.slot_str_split PySem.F.type_str_split mt_split_any ho he (star_cons hs) (base_plain hc) hl) fun σ H Q ⟨ρ, S, mu, Qd, re, r, h, k⟩ =>
    ⟨ρ, S, mu, _, re, r, h, fun d S1 v H1 mu1 e1 r1 rv ⟨⟨t, et⟩, q⟩ => by
      subst et
      cases rv
      exact ⟨⟨t, rfl⟩, ρ, S1, mu1, _, re.ext e1 r, r1, q, fun d2 S2 v2 H2 mu2 e2 r2 rv2 q2 => ⟨.str t, [d2], S2, mu2, Qd, .str t, .cons rv2 .nil, r2, q2, (k.ext e1).ext e2⟩⟩⟩

/-! ### what a loop walks -/
/-- J walks the items l, as long as chk holds -/
def Wk (g : Wd) (J : L2.It) (l : List D) (chk : Store → Prop) (H : Hp) (mu : List Addr) : Prop :=
  ∀ H' mu' S', Ext H mu H' mu' → R g H' mu' S' → chk S' → ∀ i : Nat, (i = l.length → J.stop i H') ∧ ∀ d, l[i]? = some d → J.go i H' ∧ ∀ x H'', J.yld i H' x H'' → Ext H' mu' H'' mu' ∧ R g H'' mu' S' ∧ Rv H'' g.sa mu' d x
abbrev FI := Env → Store → ((Store → Prop) → List D → Store → Prop) → Prop
def tDI (g : Wd) (f : FI) : TI := fun σ H Rr => ∃ ρ S mu Qd, Re g H mu ρ σ ∧ R g H mu S ∧ f ρ S Qd ∧ ∀ chk l S' J H' mu', Ext H mu H' mu' → R g H' mu' S' → Wk g J l chk H' mu' → Qd chk l S' → Rr J H'
theorem PI.imp {X : Cx} {tg e : Expr} {t t' : TI} (h : PI X tg e t) (k : ∀ σ H Q, t' σ H Q → t σ H Q) : PI X tg e t' := ⟨fun pins s σ H Q I w => h.run pins s σ H Q I (k _ _ _ w)⟩
/-- a list or a tuple -/
def iSeq (K : PySem.W.Frag) (tl : TE) : TI := fun σ H Rr => tl σ H fun x H1 => ∃ a, x = .ref a ∧ (((∃ xs, SqL K H1 a xs) ∧ Rr (Itl K a) H1) ∨ ((∃ xs, SqT K H1 a xs) ∧ Rr (Itt K a) H1))
theorem pi_seq {tg l : Expr} {tl : TE} (hl : PE X l tl) : PI X tg l (iSeq X.K tl) := by
  refine ⟨fun pins s σ H Rr I h => ?_⟩
  refine thn (hl.run pins s σ H _ I h) fun v s1 ⟨x, H1, I1, r1, a, ea, q⟩ => ?_
  subst ea
  cases r1
  have hf : ∀ b ∈ [s1.heap.objs.size], FpOk X pins H1 b := fun b hb => by
    rw [List.mem_singleton.mp hb]
    exact I1.fpOk (Nat.le_refl _) (I1.hok.fresh (Nat.le_refl _))
  rcases q with ⟨⟨xs, hq⟩, q⟩ | ⟨⟨xs, hq⟩, q⟩
  · obtain ⟨its, _, pl, _⟩ := I1.list hq
    exact wpAny_pyIter_list pl.isList ⟨_, [_], _, _, H1, rfl, I1.kept (t' := s1.toks) fun b o e => Heap.get?_push_of_some _ e, turn_list a _, ⟨_, Heap.get?_push_size _ rfl, rfl, rfl⟩, hf, q⟩
  · obtain ⟨its, _, pl, _⟩ := I1.tuple hq
    exact wpAny_pyIter_tuple (show s1.heap.IsTuple a its.toArray from pl) ⟨_, [_], _, _, H1, rfl, I1.kept (t' := s1.toks) fun b o e => Heap.get?_push_of_some _ e, turn_tuple a _, ⟨_, Heap.get?_push_size _ rfl, rfl, rfl⟩, hf, q⟩
def fSeq (fa : Env → Store → K1 → Prop) : FI := fun ρ S Q => fa ρ S fun x S1 => ∃ l, itemsAt S1 x = some l ∧ Q (stays x l) l S1
theorem si_seq (G : Good g X) {tg : Expr} (he : PE X e (tD g fa)) : PI X tg e (tDI g (fSeq fa)) :=
  PI.imp (pi_seq he) fun σ H Rr ⟨ρ, S, mu, Qd, re, r, h, k⟩ => ⟨ρ, S, mu, _, re, r, h, fun d S1 v H1 mu1 e1 r1 rv ⟨l, hl, q⟩ => by
    obtain ⟨a, vs, rfl, hvs, ⟨m, rfl, ht⟩ | ⟨j, rfl, hj, hh⟩⟩ := items_in r1 rv hl
    · refine ⟨a, rfl, .inr ⟨⟨vs, .of ht⟩, k _ _ _ _ _ _ e1 r1 (fun H' mu' S' e' r' _ i => ?_) q⟩⟩
      have ht' := e'.tups r1 _ _ ht
      refine ⟨fun hi => ⟨vs, .of ht', by rw [← hvs.length]; omega⟩, fun d hd => ?_⟩
      obtain ⟨v, hv, rv'⟩ := hvs.get hd
      refine ⟨⟨vs, v, .of ht', hv⟩, fun x H'' y => ?_⟩
      obtain ⟨e2, y⟩ := y
      subst e2
      have e3 := y vs (.of ht')
      rw [hv] at e3
      cases e3
      exact ⟨.refl _ _, r', rv'.ext e' r1⟩
    · refine ⟨a, rfl, .inl ⟨⟨vs, .of hh⟩, k _ _ _ _ _ _ e1 r1 (fun H' mu' S' e' r' hc i => ?_) q⟩⟩
      obtain ⟨a2, vs2, ea, hvs2, ⟨m, z, _⟩ | ⟨j2, z, hj2, hh2⟩⟩ := items_in r' (.obj (pre_get e'.pre hj)) (show itemsAt S' (.obj j) = some l from hc)
      · cases z
      · cases ea
        refine ⟨fun hi => ⟨vs2, .of hh2, by rw [← hvs2.length]; omega⟩, fun d hd => ?_⟩
        obtain ⟨v, hv, rv'⟩ := hvs2.get hd
        refine ⟨⟨vs2, v, .of hh2, hv⟩, fun x H'' y => ?_⟩
        obtain ⟨e2, y⟩ := y
        subst e2
        have e3 := y vs2 (.of hh2)
        rw [hv] at e3
        cases e3
        exact ⟨.refl _ _, r', rv'⟩⟩
theorem wk_range (lo : Int) (n : Nat) {H : Hp} {mu : List Addr} : Wk g (Itr lo n) ((List.range n).map fun (k : Nat) => D.int (lo + k)) (fun _ => True) H mu := by
  intro H' mu' S' e r _ i
  refine ⟨fun hi => by rw [List.length_map, List.length_range] at hi; exact Nat.le_of_eq hi.symm, fun d hd => ?_⟩
  rw [List.getElem?_map] at hd
  obtain ⟨j, hj, ej⟩ := Option.map_eq_some_iff.mp hd
  obtain ⟨h1, h2⟩ := List.getElem?_eq_some_iff.mp hj
  rw [List.getElem_range] at h2
  subst h2 ej
  rw [List.length_range] at h1
  refine ⟨h1, fun x H'' y => ?_⟩
  obtain ⟨e2, y⟩ := y
  subst e2 y
  exact ⟨.refl _ _, r, .int _⟩
def fRng (fa : Env → Store → K1 → Prop) : FI := fun ρ S Q => fa ρ S fun x S1 => ∃ n, x = .int n ∧ (-(2 ^ 62) ≤ n ∧ n < 2 ^ 62) ∧ Q (fun _ => True) ((List.range n.toNat).map fun (k : Nat) => D.int k) S1
def fRng2 (fa fb : Env → Store → K1 → Prop) : FI := fun ρ S Q => fa ρ S fun x S1 => fb ρ S1 fun y S2 => ∃ m n, x = .int m ∧ y = .int n ∧ (-(2 ^ 62) ≤ m ∧ m < 2 ^ 62 ∧ -(2 ^ 62) ≤ n ∧ n < 2 ^ 62) ∧ Q (fun _ => True) ((List.range (n - m).toNat).map fun (k : Nat) => D.int (m + k)) S2
theorem si_rng (C : Calls g pr X) {tg : Expr} (hb : ("range" : Str) ∈ pr.bn) (hg : Gl X "range") (hs : isStar e = false) (he : PE X e (tD g fa)) : PI X tg (.Call (.Name "range" p) [e] [] pos) (tDI g (fRng fa)) :=
  PI.imp (pi_range1 hg (C.blt _ hb) (sa_cons hs he sa_nil) (star_cons hs)) fun σ H Rr ⟨ρ, S, mu, Qd, re, r, h, k⟩ => ⟨ρ, S, mu, fun l S1 => ∃ n, l = [.int n] ∧ (-(2 ^ 62) ≤ n ∧ n < 2 ^ 62) ∧ Qd (fun _ => True) ((List.range n.toNat).map fun (k : Nat) => D.int k) S1, re, r,
    (by
      have e1 : (fun (x : D) (S1 : Store) => ∃ n, [x] = [D.int n] ∧ (-(2 ^ 62) ≤ n ∧ n < 2 ^ 62) ∧ Qd (fun _ => True) ((List.range n.toNat).map fun (k : Nat) => D.int k) S1) = fun x S1 => ∃ n, x = .int n ∧ (-(2 ^ 62) ≤ n ∧ n < 2 ^ 62) ∧ Qd (fun _ => True) ((List.range n.toNat).map fun (k : Nat) => D.int k) S1 := by
        funext x S1
        simp
      have h0 : fa ρ S (fun x S1 => ∃ n, x = D.int n ∧ (-(2 ^ 62) ≤ n ∧ n < 2 ^ 62) ∧ Qd (fun _ => True) ((List.range n.toNat).map fun (k : Nat) => D.int k) S1) := h
      rw [← e1] at h0
      exact h0), fun l S1 vs H1 mu1 e1 r1 rvs ⟨n, el, ⟨h1, h2⟩, q⟩ => by
    subst el
    obtain ⟨v, rfl, rv⟩ := one_of rvs
    cases rv
    refine ⟨n, rfl, h1, h2, k _ _ _ _ _ _ e1 r1 ?_ q⟩
    have := wk_range (g := g) 0 n.toNat (H := H1) (mu := mu1)
    simpa using this⟩
theorem si_rng2 (C : Calls g pr X) {tg e2 : Expr} (hb : ("range" : Str) ∈ pr.bn) (hg : Gl X "range") (hs : isStar e = false) (hs2 : isStar e2 = false) (he : PE X e (tD g fa)) (he2 : PE X e2 (tD g fb)) : PI X tg (.Call (.Name "range" p) [e, e2] [] pos) (tDI g (fRng2 fa fb)) :=
  PI.imp (pi_range2 hg (C.blt _ hb) (sa_cons hs he (sa_cons hs2 he2 sa_nil)) (by rw [star_cons hs, star_cons hs2]; rfl) (by rw [star_cons hs2]; rfl)) fun σ H Rr ⟨ρ, S, mu, Qd, re, r, h, k⟩ => ⟨ρ, S, mu, fun l S1 => ∃ m n, l = [.int m, .int n] ∧ (-(2 ^ 62) ≤ m ∧ m < 2 ^ 62 ∧ -(2 ^ 62) ≤ n ∧ n < 2 ^ 62) ∧ Qd (fun _ => True) ((List.range (n - m).toNat).map fun (k : Nat) => D.int (m + k)) S1, re, r,
    (by
      have e1 : (fun (x : D) (S1 : Store) => fb ρ S1 fun y S2 => ∃ m n, [x, y] = [D.int m, D.int n] ∧ (-(2 ^ 62) ≤ m ∧ m < 2 ^ 62 ∧ -(2 ^ 62) ≤ n ∧ n < 2 ^ 62) ∧ Qd (fun _ => True) ((List.range (n - m).toNat).map fun (k : Nat) => D.int (m + k)) S2) =
          fun x S1 => fb ρ S1 fun y S2 => ∃ m n, x = .int m ∧ y = .int n ∧ (-(2 ^ 62) ≤ m ∧ m < 2 ^ 62 ∧ -(2 ^ 62) ≤ n ∧ n < 2 ^ 62) ∧ Qd (fun _ => True) ((List.range (n - m).toNat).map fun (k : Nat) => D.int (m + k)) S2 := by
        funext x S1
        congr 1
        funext y S2
        simp [and_assoc]
      have h0 : fa ρ S (fun x S1 => fb ρ S1 fun y S2 => ∃ m n, x = D.int m ∧ y = .int n ∧ (-(2 ^ 62) ≤ m ∧ m < 2 ^ 62 ∧ -(2 ^ 62) ≤ n ∧ n < 2 ^ 62) ∧ Qd (fun _ => True) ((List.range (n - m).toNat).map fun (k : Nat) => D.int (m + k)) S2) := h
      rw [← e1] at h0
      exact h0), fun l S1 vs H1 mu1 e1 r1 rvs ⟨m, n, el, hbd, q⟩ => by
    subst el
    cases rvs with
    | cons a b =>
      obtain ⟨v, rfl, rv⟩ := one_of b
      cases rv
      cases a
      exact ⟨m, n, rfl, hbd, k _ _ _ _ _ _ e1 r1 (wk_range m (n - m).toNat) q⟩⟩

/-! ### targets -/
abbrev FG := D → Env → Store → (Env → Store → Prop) → Prop
abbrev FGs := List D → Env → Store → (Env → Store → Prop) → Prop
def gNm (i : Nat) : FG := fun d ρ S N => N (ρ.set i (some d)) S
def gTp (f : FGs) : FG := fun d ρ S N => ∃ l, d = .tup l ∧ f l ρ S N
def gNl : FGs := fun l ρ S N => l = [] ∧ N ρ S
def gCn (f : FG) (fr : FGs) : FGs := fun l ρ S N => ∃ d m, l = d :: m ∧ f d ρ S fun ρ' S' => fr m ρ' S' N
def gSb (fa fb : Env → Store → K1 → Prop) : FG := fun d ρ S N => fa ρ S fun x S1 => fb ρ S1 fun y S2 => wSet x y d S2 fun S3 => N ρ S3
def isStarT : Expr → Bool := isStar
theorem sg_nm {i : Nat} {own : List Nat} (ho : i ∈ own) (hN : X.N.Nodup) (hi : X.N[i]? = some x) (hx : Loc X.env.scope x) (hf : X.fn x = true ∨ X.env.scope.names.lookup x = some .local) : PG X (.Name x pos) (tDG g own (gNm i)) :=
  PG.imp (pg_name hN hi hx hf) fun v σ H Q ⟨d, ρ, S, mu, N, rv, re, r, h, k⟩ => k _ _ _ _ _ (.refl _ _) r (re.set rv) (by simp) (fun j hj => List.getElem?_set_ne (by rintro rfl; exact hj ho)) h
theorem sg_nil {own : List Nat} : PGs X [] (tDGs g own gNl) :=
  PGs.imp pgs_nil fun v σ H Q ⟨d, ρ, S, mu, N, rv, re, r, ⟨e, h⟩, k⟩ => by
    subst e
    cases rv
    exact ⟨rfl, k _ _ _ _ _ (.refl _ _) r re rfl (fun _ _ => rfl) h⟩
theorem asg_cons {t : Expr} {ts : List Expr} {env : PySem.Env} (h : isStar t = false) : assignEach (t :: ts) env = (false, assign t env) :: assignEach ts env := by
  cases t <;> first | rfl | cases h
theorem sg_cons {own : List Nat} {t : Expr} {ts : List Expr} {f : FG} {fr : FGs} (hs : isStar t = false) (h1 : PG X t (tDG g own f)) (h2 : PGs X ts (tDGs g own fr)) : PGs X (t :: ts) (tDGs g own (gCn f fr)) :=
  PGs.imp (pgs_cons h1 h2 (by rw [asg_cons hs]; rfl)) fun v σ H Q ⟨d, ρ, S, mu, N, rv, re, r, ⟨d0, m, e, h⟩, k⟩ => by
    subst e
    cases rv with
    | cons a b =>
      exact ⟨_, _, rfl, d0, ρ, S, mu, _, a, re, r, h, fun ρ' S' σ' H' mu' e' r' re' hl ho q => ⟨m, ρ', S', mu', N, b.ext e' r, re', r', q, k.ext e' hl ho⟩⟩
theorem asg_len {env : PySem.Env} : ∀ ts : List Expr, (assignEach ts env).length = ts.length
  | [] => rfl
  | t :: ts => by
    cases h : isStar t with
    | false => rw [asg_cons h, List.length_cons, List.length_cons, asg_len ts]
    | true =>
      match t, h with
      | .Starred e q, _ => exact congrArg (· + 1) (asg_len ts)
theorem asg_plain {env : PySem.Env} : ∀ {ts : List Expr}, ts.any isStar = false → (assignEach ts env).findIdx? (·.1) = none
  | [], _ => rfl
  | t :: ts, h => by
    rw [List.any_cons, Bool.or_eq_false_iff] at h
    rw [asg_cons h.1, List.findIdx?_cons, asg_plain h.2]
    rfl
/-- each target of a tuple takes one item -/
def gLen (n : Nat) (f : FGs) : Prop := ∀ l ρ S N, f l ρ S N → l.length = n
theorem sg_tp {own : List Nat} {ts : List Expr} {kk : Nat} {f : FGs} (G : Good g X) (hs : ts.any isStar = false) (hl : gLen ts.length f) (h : PGs X ts (tDGs g own f)) : PG X (.Tuple ts kk pos) (tDG g own (gTp f)) :=
  PG.imp (pg_tup G.calm h (asg_len ts) (asg_plain hs)) fun v σ H Q ⟨d, ρ, S, mu, N, rv, re, r, ⟨l, e, h⟩, k⟩ => by
    subst e
    cases rv with
    | tup h1 h2 => exact ⟨_, _, rfl, .of h1, by rw [← h2.length]; exact hl _ _ _ _ h, l, ρ, S, mu, N, h2, re, r, h, k⟩
theorem gLen_nil : gLen 0 gNl := fun l ρ S N h => by rw [h.1]; rfl
theorem gLen_cons {n : Nat} {f : FG} {fr : FGs} (hm : ∀ d ρ S N, f d ρ S N → ∃ ρ' S', N ρ' S') (h : gLen n fr) : gLen (n + 1) (gCn f fr) := fun l ρ S N ⟨d, m, e, q⟩ => by
  obtain ⟨ρ', S', z⟩ := hm _ _ _ _ q
  rw [e, List.length_cons, h _ _ _ _ z]
theorem sg_sb {own : List Nat} (G : Good g X) {i : Expr} (ho : PE X o (tD g fa)) (hi : PE X i (tD g fb)) (hsl : isSlice i = false) : PG X (.Subscript o i pos) (tDG g own (gSb fa fb)) :=
  PG.imp (pg_sub ho hi (set_any G) (by intro v; cases i <;> first | rfl | cases hsl)) fun v σ H Q ⟨d, ρ, S, mu, N, rv, re, r, h, k⟩ =>
    ⟨ρ, S, mu, _, re, r, h, fun x S1 vx H1 mu1 e1 r1 rx q => ⟨ρ, S1, mu1, _, re.ext e1 r, r1, q, fun y S2 vy H2 mu2 e2 r2 ry q2 =>
      ⟨x, y, d, S2, mu2, _, rx.ext e2 r1, ry, rv.ext (e1.trans e2) r, r2, q2, fun S3 H3 mu3 e3 r3 q3 => k _ _ _ _ _ ((e1.trans e2).trans e3) r3 (re.ext ((e1.trans e2).trans e3) r) rfl (fun _ _ => rfl) q3⟩⟩⟩
end
end Lf

set_option Elab.async false
set_option linter.all false
set_option maxRecDepth 100000
set_option maxHeartbeats 4000000
/-! Lf10: comprehensions, told of data. -/
namespace Lf
open PySem L2
theorem wipe_get : ∀ {vs : List Nat} {σ : L2.St} {j : Nat}, j ∉ vs → (L2.wipe σ vs)[j]? = σ[j]?
  | [], _, _, _ => rfl
  | v :: vs, σ, j, h => by
    rw [L2.wipe, List.getElem?_set_ne (by rintro rfl; exact h List.mem_cons_self)]
    exact wipe_get fun z => h (List.mem_cons_of_mem _ z)
theorem wipe_in : ∀ {vs : List Nat} {σ : L2.St} {j : Nat}, j ∈ vs → j < σ.length → (L2.wipe σ vs)[j]? = some none
  | v :: vs, σ, j, h, hl => by
    rw [L2.wipe]
    by_cases e : v = j
    · subst e
      rw [List.getElem?_set_self (by rw [L2.wipe_length]; exact hl)]
    · rw [List.getElem?_set_ne e]
      rcases List.mem_cons.mp h with h | h
      · exact absurd h.symm e
      · exact wipe_in h hl
theorem wipe_eq {vs : List Nat} {a b : L2.St} (hl : a.length = b.length) (h : ∀ j, j ∉ vs → a[j]? = b[j]?) : L2.wipe a vs = L2.wipe b vs := by
  apply List.ext_getElem?
  intro j
  by_cases hj : j ∈ vs
  · by_cases hb : j < b.length
    · rw [wipe_in hj hb, wipe_in hj (by rw [hl]; exact hb)]
    · rw [List.getElem?_eq_none (by rw [L2.wipe_length]; omega), List.getElem?_eq_none (by rw [L2.wipe_length]; omega)]
  · rw [wipe_get hj, wipe_get hj]
    exact h j hj
section
variable {g : Wd} {pr : Prog} {X : Cx} {fa fb fe : Env → Store → K1 → Prop} {pos p : Pos} {x : Str} {es : List Expr} {e o elt tg iter : Expr}
/-- a clause's tests -/
abbrev FC := Env → Store → (Bool → Store → Prop) → Prop
def tDC (g : Wd) (f : FC) : TT := fun σ H Q => ∃ ρ S mu Qd, Re g H mu ρ σ ∧ R g H mu S ∧ f ρ S Qd ∧ ∀ b S' H' mu', Ext H mu H' mu' → R g H' mu' S' → Qd b S' → Q b H'
theorem PTs.imp {X : Cx} {e : List Expr} {t t' : TT} (h : PTs X e t) (k : ∀ σ H Q, t' σ H Q → t σ H Q) : PTs X e t' := ⟨fun pins s σ H Q I w => h.run pins s σ H Q I (k _ _ _ w)⟩
theorem sc_no : PTs X [] (tDC g fun _ S Q => Q true S) := PTs.imp pts_nil fun σ H Q ⟨ρ, S, mu, Qd, re, r, h, k⟩ => k _ _ _ _ (.refl _ _) r h
theorem sc_yes (h : PT X e (tDT g fa)) : PTs X [e] (tDC g fun ρ S Q => fa ρ S fun x S1 => ∃ t, x = .bl t ∧ Q t S1) :=
  PTs.imp (pts_one h) fun σ H Q ⟨ρ, S, mu, Qd, re, r, h, k⟩ => ⟨ρ, S, mu, _, re, r, h, fun d S1 H1 mu1 e1 r1 ⟨t, e, q⟩ => ⟨t, e, k _ _ _ _ e1 r1 q⟩⟩
def lcStep (own : List Nat) (ρ : Env) (fg : FG) (fc : FC) (fe : Env → Store → K1 → Prop) : D → Store → (List D → Store → Prop) → Prop :=
  fun d S k => fg d (Lf.wipe ρ own) S fun ρ' S1 => fc ρ' S1 fun t S2 => if t = true then fe ρ' S2 fun v S3 => k [v] S3 else k [] S2
def fLc (own : List Nat) (fi : FI) (fg : FG) (fc : FC) (fe : Env → Store → K1 → Prop) : Env → Store → K1 → Prop := fun ρ S Q =>
  fi ρ S fun chk l S1 => l.length ≤ sizeLine ∧ loopC chk (lcStep own ρ fg fc fe) l S1 [] fun l' S' => alloc S' (.lst l') Q
/-- a new object comes to the store that lay beside it -/
theorem R.take {H : Hp} {mu : List Addr} {S : Store} (r : R g H mu S) {a : Addr} {o : Ob} (ha : a ∉ mu) (ho : ObR g H (mu ++ [a]) a o) : R g H (mu ++ [a]) (S ++ [o]) := by
  refine ⟨by simp [r.len], ?_, fun i b ob h1 h2 => ?_, r.scr⟩
  · rw [List.nodup_append]
    refine ⟨r.nd, by simp, fun c hc b hb => ?_⟩
    rw [List.mem_singleton.mp hb]
    rintro rfl
    exact ha hc
  · by_cases hi : i < mu.length
    · rw [List.getElem?_append_left hi] at h1
      rw [List.getElem?_append_left (by rw [← r.len]; exact hi)] at h2
      exact (r.obs i b ob h1 h2).mono (fun _ h => h) (fun _ _ h => h) (List.prefix_append _ _)
    · have hl := r.len
      have h1' := (List.getElem?_eq_some_iff.mp h1).1
      rw [List.length_append] at h1'
      have e2 : i = mu.length := by simp at h1'; omega
      subst e2
      rw [List.getElem?_append_right (Nat.le_refl _), Nat.sub_self] at h1
      rw [List.getElem?_append_right (by omega)] at h2
      have z : mu.length - S.length = 0 := by omega
      rw [z] at h2
      cases h1
      cases h2
      exact ho
/-- .. and what follows -/
theorem KV.take {H1 H : Hp} {mu1 mu : List Addr} {S : Store} {Qd : K1} {Q : VK} (k : KV g H1 mu1 Qd Q) (e : Ext H1 mu1 H mu) (r : R g H mu S) {a : Addr} {o : Ob} (ha : a ∉ mu) (h0 : H1 a = none) (ho : ObR g H (mu ++ [a]) a o) (q : alloc S o Qd) : Q (.ref a) H := by
  have r1 := r.take ha ho
  refine k _ _ _ _ _ ⟨e.pre.trans (List.prefix_append _ _), fun b hb nb => ?_, e.keep⟩ r1 (.obj ?_) q
  · rcases List.mem_append.mp hb with h | h
    · exact e.new b h nb
    · rw [List.mem_singleton.mp h]; exact h0
  · rw [← r.len, List.getElem?_append_right (Nat.le_refl _), Nat.sub_self]
    rfl
/-- a list that lies beside the store is written -/
theorem R.beside {H : Hp} {mu : List Addr} {S : Store} (r : R g H mu S) {a : Addr} {vs us : List V} (ha : a ∉ mu) (h : H a = some (.lst vs)) : R g (upd H a (.lst us)) mu S := by
  have tk : ∀ b ws, H b = some (.tup ws) → upd H a (.lst us) b = some (.tup ws) := fun b ws hb => by
    rw [upd_ne (by rintro rfl; rw [h] at hb; cases hb)]; exact hb
  refine ⟨r.len, r.nd, fun i b o h1 h2 => (r.obs i b o h1 h2).mono (fun u hu => ?_) tk List.prefix_rfl, ?_⟩
  · rw [upd_ne (by rintro rfl; exact ha (List.mem_of_getElem? h1))]; exact hu
  · rcases r.scr with ⟨o, ho⟩ | ho
    · refine .inl ⟨o, ?_⟩
      rw [upd_ne (by intro z; rw [z, h] at ho; cases ho)]; exact ho
    · exact .inr ho
theorem loopC_drop {chk : Store → Prop} {step : D → Store → (List D → Store → Prop) → Prop} {l : List D} {i : Nat} {S : Store} {acc : List D} {Q : List D → Store → Prop} (h : loopC chk step (l.drop i) S acc Q) (hi : i ≤ l.length) :
    chk S ∧ ((i = l.length ∧ Q acc S) ∨ ∃ d, l[i]? = some d ∧ i < l.length ∧ step d S fun new S' => loopC chk step (l.drop (i + 1)) S' (acc ++ new) Q) := by
  by_cases hl : i < l.length
  · rw [List.drop_eq_getElem_cons hl] at h
    exact ⟨h.1, .inr ⟨l[i], List.getElem?_eq_getElem hl, hl, h.2⟩⟩
  · have e : i = l.length := by omega
    subst e
    rw [List.drop_length] at h
    exact ⟨h.1, .inl ⟨rfl, h.2⟩⟩
theorem lc_lift {own : List Nat} {fi : FI} {fg : FG} {fc : FC} {σ : L2.St} {H : Hp} {Q : VK} (h : tD g (fLc own fi fg fc fe) σ H Q) : tLc (tDI g fi) (tDG g own fg) (tDC g fc) (tD g fe) own σ H Q := by
  obtain ⟨ρ, S, mu, Qd, re, r, h, k⟩ := h
  refine ⟨ρ, S, mu, _, re, r, h, fun chk l S1 J H1 mu1 e1 r1 wk ⟨hz, q⟩ D hD => ?_⟩
  have k1 := k.ext e1
  have re1 := re.ext e1 r
  obtain ⟨r2, e2⟩ := r1.laid (u := .lst []) hD
  refine ⟨fun i m H' => m = l.length - i ∧ i ≤ l.length ∧ ∃ S' mu' acc accV, Ext H1 mu1 H' mu' ∧ R g H' mu' S' ∧ D ∉ mu' ∧ H' D = some (.lst accV) ∧ Rvs H' g.sa mu' acc accV ∧ acc.length ≤ i ∧ loopC chk (lcStep own ρ fg fc fe) (l.drop i) S' acc fun l' S' => alloc S' (.lst l') Qd,
    ⟨l.length, by simp, Nat.zero_le _, S1, mu1, [], [], e2, r2, r1.none_out hD, upd_same, .nil, Nat.le_refl _, q⟩, ?_⟩
  rintro i m H' ⟨rfl, hi, S', mu', acc, accV, e', r', hDm, hDl, rva, hacc, hq⟩
  obtain ⟨hc, hq2⟩ := loopC_drop hq hi
  obtain ⟨w1, w2⟩ := wk H' mu' S' e' r' hc i
  rcases hq2 with ⟨ei, hq2⟩ | ⟨d, hd, hlt, hq2⟩
  · exact .inl ⟨w1 ei, k1.take e' r' hDm hD (.lst hDl (rva.mono g.sa (fun _ _ h => h) (List.prefix_append _ _))) hq2⟩
  · obtain ⟨go, w3⟩ := w2 d hd
    refine .inr ⟨go, fun H2 => ∃ S2 mu2 acc2 accV2, Ext H1 mu1 H2 mu2 ∧ R g H2 mu2 S2 ∧ D ∉ mu2 ∧ H2 D = some (.lst accV2) ∧ Rvs H2 g.sa mu2 acc2 accV2 ∧ acc2.length ≤ i + 1 ∧ loopC chk (lcStep own ρ fg fc fe) (l.drop (i + 1)) S2 acc2 fun l' S' => alloc S' (.lst l') Qd,
      fun H2 z => ⟨l.length - (i + 1), by omega, rfl, by omega, z⟩, fun xv H'' y => ?_⟩
    obtain ⟨e3, r3, rv3⟩ := w3 xv H'' y
    have hD3 : H'' D = some (.lst accV) := e3.keep _ _ hDl hDm
    have e13 := e'.trans e3
    refine ⟨d, Lf.wipe ρ own, S', mu', _, rv3, (re1.ext e13 r1).wiped own, r3, hq2, fun ρ2 S2 σ2 H2 mu2 e4 r4 re4 hl4 ho4 q4 => ⟨?_, ?_⟩⟩
    · refine (wipe_eq hl4 ho4).trans (wipe_eq (L2.wipe_length _ _) fun j hj => wipe_get hj)
    · refine ⟨ρ2, S2, mu2, _, re4, r4, q4, fun b S3 H3 mu3 e5 r5 q5 => ?_⟩
      have e35 := e4.trans e5
      have out : ∀ {Ha Hb : Hp} {ma mb : List Addr}, Ext Ha ma Hb mb → (∃ u, Ha D = some u) → D ∉ ma → D ∉ mb := fun ee hu hn hm => by
        obtain ⟨u, hu⟩ := hu
        rw [ee.new D hm hn] at hu
        cases hu
      have n3 : D ∉ mu3 := out e35 ⟨_, hD3⟩ hDm
      have hD5 : H3 D = some (.lst accV) := e35.keep _ _ hD3 hDm
      have rva5 := rva.ext (e3.trans e35) r'
      cases b with
      | false =>
        refine (show _ from ⟨S3, mu3, acc, accV, e13.trans e35, r5, n3, hD5, rva5, by omega, ?_⟩)
        have := q5
        simpa using this
      | true =>
        refine (show tD g fe σ2 H3 _ from ⟨ρ2, S3, mu3, _, re4.ext e5 r4, r5, (by simpa using q5), fun v S6 vv H6 mu6 e6 r6 rv6 q6 => ?_⟩)
        have n6 : D ∉ mu6 := out e6 ⟨_, hD5⟩ n3
        have hD6 : H6 D = some (.lst accV) := e6.keep _ _ hD5 n3
        have rva6 := rva5.ext e6 r5
        refine ⟨accV, hD6, by rw [← rva6.length]; omega, S6, mu6, acc ++ [v], accV ++ [vv], ?_, ?_, n6, upd_same, ?_, by rw [List.length_append, List.length_singleton]; omega, q6⟩
        · exact ⟨((e13.trans e35).trans e6).pre, ((e13.trans e35).trans e6).new, fun a o ha hn => by
            rw [upd_ne (by rintro rfl; rw [hD] at ha; cases ha)]
            exact ((e13.trans e35).trans e6).keep a o ha hn⟩
        · exact r6.beside n6 hD6
        · have tk : ∀ a vs, H6 a = some (.tup vs) → upd H6 D (.lst (accV ++ [vv])) a = some (.tup vs) := fun a vs h => by
            rw [upd_ne (by rintro rfl; rw [hD6] at h; cases h)]; exact h
          exact (rva6.mono g.sa tk List.prefix_rfl).append (.cons (rv6.mono g.sa tk List.prefix_rfl) .nil)
end
end Lf

set_option Elab.async false
set_option linter.all false
set_option maxRecDepth 100000
set_option maxHeartbeats 4000000
/-! Lf11: list and dict comprehensions as expressions, told of data. -/
namespace Lf
open PySem L2
/-- the context inside a comprehension -/
abbrev inB (X : Cx) (sc : Scope) (s : Shared) (H : Hp) (C : Addr) (cl : List (Str × Addr)) (fp : List Addr) : Cx := X.blk s H sc (compEnvC sc cl C X.env) fp
/-- what holds in each context of the comprehension's block -/
abbrev AllB (X : Cx) (sc : Scope) (p : Cx → Prop) : Prop := ∀ (s : Shared) (H : Hp) (C : Addr) (cl : List (Str × Addr)) (fp : List Addr), p (inB X sc s H C cl fp)
section
variable {g : Wd} {pr : Prog} {X : Cx} {fa fb fe fk fv : Env → Store → K1 → Prop} {pos p : Pos} {x : Str} {es : List Expr} {e o elt tg iter kx vx : Expr} {ifs : List Expr} {scope : Scope} {own : List (Str × Nat)} {fi : FI} {fg : FG} {fc : FC}
theorem Good.blk (G : Good g X) (sc : Scope) : AllB X sc (Good g) := fun s H C cl fp => ⟨G.eP, G.eW, G.eK, G.calm, G.nd, G.hu, G.hh, G.gd⟩
theorem Calls.blk (C : Calls g pr X) (sc : Scope) : AllB X sc (Calls g pr) := fun s H c cl fp => ⟨C.good.blk sc s H c cl fp, C.fns, C.blt⟩
theorem se_lc (G : Good g X) (hi : PI X tg iter (tDI g fi)) (ok : BlkOk X.N X.env.scope scope own) (hs : isSet iter = false)
    (hg : AllB X scope fun Y => PG Y tg (tDG g (own.map (·.2)) fg)) (ht : AllB X scope fun Y => PTs Y ifs (tDC g fc)) (he : AllB X scope fun Y => PE Y elt (tD g fe)) :
    PE X (.ListComp elt [⟨tg, iter, ifs, 0⟩] scope pos) (tD g (fLc (own.map (·.2)) fi fg fc fe)) :=
  PE.imp (pe_lc G.calm G.nd hi ok hg ht he (no_set hs)) fun _ _ _ w => lc_lift w
theorem ss_setLc {i : Nat} {y : Str} {py spos : Pos} (G : Good g X) (hy : X.N[i]? = some y) (hyl : X.env.scope.names.lookup y = some .local)
    (hsw : swapsWith (.ListComp elt [⟨tg, iter, ifs, 0⟩] scope pos) (some (.Name y py)) spos.line X.env = pure true) (hi : PI X tg iter (tDI g fi)) (ok : BlkOk X.N X.env.scope scope own) (hs : isSet iter = false)
    (hg : AllB X scope fun Y => PG Y tg (tDG g (own.map (·.2)) fg)) (ht : AllB X scope fun Y => PTs Y ifs (tDC g fc)) (he : AllB X scope fun Y => PE Y elt (tD g fe)) :
    PS X (.Assign [.Name y py] (.ListComp elt [⟨tg, iter, ifs, 0⟩] scope pos) spos) (tAsg (tD g (fLc (own.map (·.2)) fi fg fc fe)) (gName i)) :=
  PS.imp (ps_setLc G.calm G.nd hy hyl hsw hi ok hg ht he (no_set hs)) fun D σ H w => lc_lift w

/-! ### dict comprehensions: D the new dict, beside the store -/
/-- an entry is put into the dict at D -/
def dPut (g : Wd) (D : Addr) : V → V → Hp → (Hp → Prop) → Prop := fun y z H N => ∃ mu S acc k d, R g H mu S ∧ D ∉ mu ∧ ObR g H mu D (.dic acc) ∧ Rv H g.sa mu k y ∧ Rv H g.sa mu d z ∧ keyFor acc k = true ∧ acc.length ≤ 100000 ∧
  ∀ u, (∀ xs, u ≠ .tup xs) → ObR g (upd H D u) mu D (.dic (Lf.put acc k d)) → N (upd H D u)
theorem dict_putS (G : Good g X) {pins : List (Addr × Obj)} {σ : L2.St} {H : Hp} {s : Shared} {D : Addr} {y z : V} {u r : Value} {N : Hp → Prop} {E : Value → Shared → Prop} {Q : Unit → Shared → Prop} (I : Inv X pins σ H s) (ry : RelV y u) (rz : RelV z r) (h : dPut g D y z H N)
    (fin : ∀ H' s', Inv X pins σ H' s' → N H' → Q () s') : wpAny (model X.prog X.w) X.A (dictSet D u r) Q E s := by
  obtain ⟨mu, S, acc, k, d, rr, hD, ob, rk, rd, hk, hz, q⟩ := h
  have kept : ∀ {v : HO}, (∀ xs, v ≠ .tup xs) → ∀ b ws, H b = some (.tup ws) → upd H D v b = some (.tup ws) := fun {v} _ b ws hb => by
    rw [upd_ne (by
      rintro rfl
      obtain ⟨w, e, n, _⟩ := ob.told
      rw [hb] at e
      exact n ws (Option.some.inj e).symm)]
    exact hb
  rcases dict_two ob hk with ⟨kvs, c, e, kv, ka⟩ | ⟨kt, h2⟩
  · have ry2 := ka.rv rk ▸ ry
    have kl : ∀ {l : List (Lf.D × Lf.D)} {kvs : List (Key × V)}, KvA H g.sa mu l kvs → l.length = kvs.length := by
      intro l kvs h
      induction h with
      | nil => rfl
      | int _ _ ih => simp [ih]
      | str _ _ ih => simp [ih]
    have := kl kv
    have h2 : ∀ xs, HO.dK (putK kvs c z) ≠ .tup xs := fun _ => nofun
    exact d_dictSet I e (by rw [sizeLine_eq]; omega) ry2 rz fun s' I' => fin _ s' I' (q _ h2 (.dicA upd_same ((kv.put ka rd).mono g.sa (kept h2) List.prefix_rfl)))
  · obtain ⟨n, hn, hd⟩ := keyT_key kt
    obtain ⟨b, rfl⟩ := key_ref kt rk
    cases ry
    obtain ⟨xs, ys, kv, px, dd, hsys, hm, _⟩ := dict_ys G I h2
    have lx : ∀ {l : List (Lf.D × Lf.D)} {xs : List (NestedKey × Addr × V)}, KvT H g.sa mu l xs → l.length = xs.length := by
      intro l xs h
      induction h with
      | nil => rfl
      | cons _ _ _ _ _ ih => simp [ih]
    have l1 := lx kv
    have l2 := Paired.length px
    have hz' : ys.length ≤ sizeLine := by rw [sizeLine_eq]; omega
    have room : (nestedKind X.prog X.w).room X.A := by
      show X.A.units + 8 < cLine
      have := G.hu
      omega
    refine wpAny_dictSet_heap (hsz := hz') room (keyT_is I hn hd rk) dd fun h' dd' hsb => ?_
    obtain ⟨ob2, es2, ep, ho, he, hdt, hes, _, hnd⟩ := dd'
    have pk : PairX (putX xs n b z) (storedH ys n b r) ∧ KvT H g.sa mu (Lf.put acc k d) (putX xs n b z) := by
      rcases kv.look hn px with ⟨a1, a2, a3⟩ | ⟨d', v', u', b', a1, a2, a3, _, _⟩
      · unfold putX Lf.put storedH
        rw [a1, a2, a3]
        exact ⟨px.snoc rz, kv.snoc hn hd rk rd⟩
      · unfold putX Lf.put storedH
        rw [a1, a3, if_pos a2]
        exact ⟨px.map_put rz, kv.map_put hn rd⟩
    have h3 : ∀ vs, HO.ext (dictObj g D (putX xs n b z)) ≠ .tup vs := fun _ => nofun
    refine fin (upd H D (.ext (dictObj g D (putX xs n b z)))) _ (d_write I hm hsb ⟨ob2, ho⟩ ⟨?_, ⟨ob2, ho⟩, ?_⟩) (q _ h3 (.dicT upd_same (pk.2.mono g.sa (kept h3) List.prefix_rfl) put_ne hsys))
    · exact ⟨_, pk.1, ob2, es2, ep, ho, he, hdt, by rw [← G.eP, ← G.eW]; exact hes, hnd⟩
    · rintro h1 h2 ⟨zs, q1, o1, es1, ep1, w1, w2⟩ st
      exact ⟨zs, q1, o1, es1, ep1, st _ w1, w2⟩
/-- {k: v for t in it if c}, keys of any told kind -/
def tDm (g : Wd) (wi : TI) (t : TG) (c : TT) (tk tv : TE) (vs : List Nat) : TE := fun σ H0 Q => wi σ H0 fun J H1 => ∀ D : Addr, H1 D = none → ∃ I : Nat → Nat → Hp → Prop, (∃ n, I 0 n (upd H1 D (.dK []))) ∧ ∀ i n H2, I i n H2 →
  (J.stop i H2 ∧ Q (.ref D) H2) ∨ (J.go i H2 ∧ ∃ Nx : Hp → Prop, (∀ H3, Nx H3 → ∃ n', n' < n ∧ I (i + 1) n' H3) ∧
    ∀ x H3, J.yld i H2 x H3 → t x (L2.wipe σ vs) H3 fun σ4 H4 => L2.wipe σ4 vs = L2.wipe σ vs ∧ c σ4 H4 fun b H5 => if b = true then tk σ4 H5 (fun y H6 => tv σ4 H6 fun z H7 => dPut g D y z H7 Nx) else Nx H5)
end
end Lf

set_option Elab.async false
set_option linter.all false
set_option maxRecDepth 100000
set_option maxHeartbeats 4000000
/-! Lf12: dict comprehensions with keys of any told kind. -/
namespace Lf
open PySem L2 PySem.Spec PyProof.Rows
section
variable {g : Wd} {X : Cx} {fk fv : Env → Store → K1 → Prop} {pos : Pos} {tg iter kx vx : Expr} {ifs : List Expr} {scope : Scope} {own : List (Str × Nat)} {wi : TI} {t : TG} {c : TT} {tk tv : TE} {fi : FI} {fg : FG} {fc : FC}
theorem pe_dm (G : Good g X) (hi : PI X tg iter wi) (ok : BlkOk X.N X.env.scope scope own) (hs : isSet iter = false)
    (hg : AllB X scope fun Y => PG Y tg t) (ht : AllB X scope fun Y => PTs Y ifs c) (hk : AllB X scope fun Y => PE Y kx tk) (hv : AllB X scope fun Y => PE Y vx tv) :
    PE X (.DictComp kx vx [⟨tg, iter, ifs, 0⟩] scope pos) (tDm g wi t c tk tv (own.map (·.2))) := by
  refine ⟨fun pins s σ H Q I h => ?_⟩
  rw [arm_eval_DictComp]
  have cellAt : ∀ y ∈ scope.names, y.2 = .free → ∃ c, X.env.cells.lookup y.1 = some c := fun y hy e =>
    I.ok.has _ ((ok.free y hy e).imp id id)
  refine wpAny_comprehension_free (use := none) rfl (no_set hs) (closure_ok cellAt) ok.kind (fun y hy e => (ok.uniq y hy).trans (congrArg some e))
    (thn (hi.run pins s σ H _ I h) fun xv sa ha => thn ha fun itv sb hb => ?_)
  obtain ⟨it, fp, tn, J, Hb, rfl, Ib, T, stb, fb, q⟩ := hb
  refine wpAny_newObj_type (newEnv_comp ?_)
  obtain ⟨D, eD⟩ : ∃ D, D = sb.heap.objs.size := ⟨_, rfl⟩
  rw [← eD]
  have Dn : Hb D = none := Ib.hok.fresh (by omega)
  obtain ⟨W, ⟨n0, w0⟩, turn⟩ := q D Dn
  -- the new dict is laid
  obtain ⟨sc, esc⟩ : ∃ sc : Shared, sc = { sb with heap := sb.heap.push { cls := .type "dict", data := .dict #[] } } := ⟨_, rfl⟩
  rw [← esc]
  obtain ⟨Hc, eHc⟩ : ∃ Hc, Hc = upd Hb D (.dK []) := ⟨_, rfl⟩
  rw [← eHc] at w0
  have hpc : sc.heap = sb.heap.push { cls := .type "dict", data := .dict #[] } := by rw [esc]
  have Ic : Inv X pins σ Hc sc := by
    rw [esc, eHc]
    refine Ib.laid (t' := sb.toks) (fun _ _ e => Heap.get?_push_of_some _ e) (Nat.le_of_eq eD.symm) ?_
    rw [eD]
    exact dk_empty sb.heap Ib.big
  have under : ∀ b ∈ fp, b < sb.heap.objs.size := fun b hb => Heap.lt_size (T.obj _ _ stb b hb).choose_spec.1
  have fC : ∀ b ∈ fp, FpOk X pins Hc b ∧ b < sc.heap.objs.size := fun b hb => by
    have lt := under b hb
    refine ⟨⟨?_, (fb b hb).2⟩, by rw [hpc, Heap.size_push]; exact Nat.lt_succ_of_lt lt⟩
    rw [eHc, upd_ne (Nat.ne_of_lt (eD ▸ lt))]
    exact (fb b hb).1
  have stc : tn 0 sc.heap := T.keep _ _ _ stb fun b _ o e => by
    rw [hpc]
    exact Heap.get?_push_of_some _ e
  have Id := block_start Ic ok G.nd fC
  obtain ⟨cl, ecl⟩ : ∃ cl, cl = cellsFrom (sc.heap.objs.size + 1) scope.names (cloFrom X.env.cells scope.names []) := ⟨_, rfl⟩
  have Gg := hg sc Hc sc.heap.objs.size cl fp
  have Gt := ht sc Hc sc.heap.objs.size cl fp
  have Gk := hk sc Hc sc.heap.objs.size cl fp
  have Gv := hv sc Hc sc.heap.objs.size cl fp
  have GB : Good g (inB X scope sc Hc sc.heap.objs.size cl fp) := G.blk scope sc Hc sc.heap.objs.size cl fp
  rw [← ecl] at Id ⊢
  obtain ⟨se, ese⟩ : ∃ se : Shared, se = { sc with heap := pushCells (sc.heap.push { cls := .type "dict", data := .dict #[] }) scope.names } := ⟨_, rfl⟩
  rw [← ese] at Id ⊢
  have ste : tn 0 se.heap := T.keep _ _ _ stc fun b _ o e => by
    rw [ese]
    exact pushCells_keeps _ _ _ _ (Heap.get?_push_of_some _ e)
  have nofp : ∀ b ∈ fp, Hc b = none := fun b hb => (fC b hb).1.1
  have okfp : ∀ {σ' : L2.St} {H' : Hp} {s' : Shared}, Inv (inB X scope sc Hc sc.heap.objs.size cl fp) [] σ' H' s' → (∀ b ∈ fp, H' b = none) → ∀ b ∈ fp, FpOk (inB X scope sc Hc sc.heap.objs.size cl fp) [] H' b := fun {σ' H' s'} I' nn b hb =>
    ⟨nn b hb, (I'.ok.exf b hb).1, I'.ok.exfs b hb, Or.inl hb, (fun x c e => (I'.ok.exf b hb).2 x c e), fun p hp => by cases hp⟩
  have loop : codeAny (model X.prog X.w) X.A (.compLoop (.DictComp kx vx [⟨tg, iter, ifs, 0⟩] scope pos) 0 (.ref it) (.ref D) (compEnvC scope cl sc.heap.objs.size X.env)) (compPost (model X.prog X.w) X.A X.xe none (EP X pins σ Q) (.ref D) sc.heap.objs.size) se := by
    refine compLoop_anyD (fun n s' => ∃ i H', Inv (inB X scope sc Hc sc.heap.objs.size cl fp) [] (L2.wipe σ (own.map (·.2))) H' s' ∧ tn i s'.heap ∧ (∀ b ∈ fp, H' b = none) ∧ W i n H') ?_ n0 ⟨0, Hc, Id, ste, nofp, w0⟩
    rintro n s5 ⟨i, H5, I5, st5, n5, w5⟩
    rcases turn i n H5 w5 with ⟨halt, qq⟩ | ⟨go, Nx, hNx, step⟩
    · refine thnF (T.done (inB X scope sc Hc sc.heap.objs.size cl fp) rfl rfl rfl G.calm i [] s5 _ H5 (fun _ _ => False) I5 (okfp I5 n5) st5 halt) fun r s6 ⟨er, I6⟩ => ?_
      cases er
      have I7 : Inv X pins σ H5 s6 := Ic.call' (ch := fp) I6.os I6.base I6.hok I6.bare fun b hb => let z := (fC b hb).1; ⟨z.2.2.2.1, z.2.1, z.2.2.2.2.1, z.2.2.2.2.2⟩
      have noC : H5 sc.heap.objs.size = none := I6.free
      obtain ⟨m, hn, _⟩ := I6.loc
      obtain ⟨f0, f1, f2, f3, f4, f5⟩ := Ic.fpOk (Nat.le_refl _) noC
      exact ⟨m, hn, fun h'' sb => ⟨.ref D, H5, I7.turned (t' := s6.toks) (fun b o hb e => (sb.2 b hb).trans e) f0 f1 f3 f4 f5, rfl, qq⟩⟩
    · refine thnF (T.item (inB X scope sc Hc sc.heap.objs.size cl fp) rfl rfl rfl G.calm i [] s5 _ H5 (fun _ _ => False) I5 (okfp I5 n5) st5 go) fun r s6 ⟨u, er, h6⟩ => ?_
      cases er
      refine thnF h6 fun _ s7 ⟨x, H7, I7, r7, y7, st7, n7⟩ => ?_
      refine thnF (Gg.run _ s7 _ H7 x u _ (I7.pinned (okfp I7 n7) (T.obj _ _ st7)) r7 (step x H7 y7)) fun _ s8 ⟨σ8, H8, I8, wip, q8⟩ => ?_
      refine thnF (Gt.run _ s8 σ8 H8 _ I8 q8) fun b s9 ⟨H9, I9, q9⟩ => ?_
      have ends : ∀ {s' : Shared} {H' : Hp}, Inv (inB X scope sc Hc sc.heap.objs.size cl fp) ([] ++ pinsAt fp s7.heap) σ8 H' s' → Nx H' → ∃ m, m < n ∧ ∃ i H', Inv (inB X scope sc Hc sc.heap.objs.size cl fp) [] (L2.wipe σ (own.map (·.2))) H' s' ∧ tn i s'.heap ∧ (∀ b ∈ fp, H' b = none) ∧ W i m H' := fun {s' H'} I' nx => by
        obtain ⟨m', lt, w'⟩ := hNx H' nx
        have pinned : ∀ b ∈ fp, ∀ o, s7.heap.get? b = some o → s'.heap.get? b = some o ∧ H' b = none := fun b hb o e => by
          have z := I'.pin (b, o) (List.mem_append_right _ (List.mem_append_right _ (mem_pinsAt hb e)))
          exact ⟨z.1, z.2.1⟩
        refine ⟨m', lt, i + 1, H', (I'.unpinned (pins := [])).weak (by rw [← wip, L2.wipe_length]) (fun j v e => ?_), T.keep _ _ _ st7 fun b hb o e => (pinned b hb o e).1, fun b hb => ?_, w'⟩
        · rw [← wip] at e
          exact (wipe_some e).1
        · obtain ⟨o, e, _⟩ := T.obj _ _ st7 b hb
          exact (pinned b hb o e).2
      cases b with
      | false => exact ends I9 q9
      | true =>
        refine thnF (Gk.run _ s9 σ8 H9 _ I9 q9) fun z1 sA ⟨yk, HA, IA, rA, qA⟩ => ?_
        refine thnF (Gv.run _ sA σ8 HA _ IA qA) fun z2 sB ⟨yv, HB, IB, rB, qB⟩ => ?_
        exact dict_putS (X := inB X scope sc Hc sc.heap.objs.size cl fp) GB IB rA rB qB fun H' s' I' nx => ends I' nx
  exact codeAny_compStart_dict loop (T.self X.A 0 _ _ _ ste loop)
theorem ObR.beside {H H' : Hp} {mu mu' : List Addr} {S : Store} {D : Addr} {o : Ob} (ob : ObR g H mu D o) (hD : D ∉ mu) (e : Ext H mu H' mu') (r : R g H mu S) : ObR g H' mu' D o :=
  ob.mono (fun u hu => e.keep _ _ hu hD) (e.tups r) e.pre
theorem R.besideO {H : Hp} {mu : List Addr} {S : Store} (r : R g H mu S) {a : Addr} {o : Ob} {u : HO} (ha : a ∉ mu) (h : ObR g H mu a o) : R g (upd H a u) mu S := by
  obtain ⟨w, hw, nt, nf⟩ := h.told
  have tk : ∀ b ws, H b = some (.tup ws) → upd H a u b = some (.tup ws) := fun b ws hb => by
    rw [upd_ne (by rintro rfl; rw [hb] at hw; exact nt ws (Option.some.inj hw).symm)]; exact hb
  refine ⟨r.len, r.nd, fun i b o h1 h2 => (r.obs i b o h1 h2).mono (fun u hu => ?_) tk List.prefix_rfl, ?_⟩
  · rw [upd_ne (by rintro rfl; exact ha (List.mem_of_getElem? h1))]; exact hu
  · rcases r.scr with ⟨o, ho⟩ | ho
    · refine .inl ⟨o, ?_⟩
      rw [upd_ne (by rintro rfl; rw [ho] at hw; exact nf _ _ (Option.some.inj hw).symm)]; exact ho
    · exact .inr ho
theorem loopD_drop {chk : Store → Prop} {step : D → Store → (D → D → Store → Prop) → Prop} {l : List D} {i : Nat} {S : Store} {acc : List (D × D)} {Q : List (D × D) → Store → Prop} (h : loopD chk step (l.drop i) S acc Q) (hi : i ≤ l.length) :
    chk S ∧ ((i = l.length ∧ Q acc S) ∨ ∃ d, l[i]? = some d ∧ i < l.length ∧ step d S fun k v S' => keyFor acc k = true ∧ loopD chk step (l.drop (i + 1)) S' (put acc k v) Q) := by
  by_cases hl : i < l.length
  · rw [List.drop_eq_getElem_cons hl] at h
    exact ⟨h.1, .inr ⟨l[i], List.getElem?_eq_getElem hl, hl, h.2⟩⟩
  · have e : i = l.length := by omega
    subst e
    rw [List.drop_length] at h
    exact ⟨h.1, .inl ⟨rfl, h.2⟩⟩
theorem put_len (l : List (D × D)) (k v : D) : (put l k v).length ≤ l.length + 1 := by
  unfold put
  split
  · rw [List.length_map]; omega
  · simp
def dcStep (own : List Nat) (ρ : Env) (fg : FG) (fk fv : Env → Store → K1 → Prop) : D → Store → (D → D → Store → Prop) → Prop :=
  fun d S k => fg d (Lf.wipe ρ own) S fun ρ' S1 => fk ρ' S1 fun x S2 => fv ρ' S2 fun y S3 => k x y S3
def fDc (own : List Nat) (fi : FI) (fg : FG) (fk fv : Env → Store → K1 → Prop) : Env → Store → K1 → Prop := fun ρ S Q =>
  fi ρ S fun chk l S1 => l.length ≤ 100000 ∧ loopD chk (dcStep own ρ fg fk fv) l S1 [] fun l' S' => alloc S' (.dic l') Q
theorem dm_lift {own : List Nat} {σ : L2.St} {H : Hp} {Q : VK} (h : tD g (fDc own fi fg fk fv) σ H Q) :
    tDm g (tDI g fi) (tDG g own fg) (tDC g fun _ S Q => Q true S) (tD g fk) (tD g fv) own σ H Q := by
  obtain ⟨ρ, S, mu, Qd, re, r, h, k⟩ := h
  refine ⟨ρ, S, mu, _, re, r, h, fun chk l S1 J H1 mu1 e1 r1 wk ⟨hz, q⟩ D hD => ?_⟩
  have k1 := k.ext e1
  have re1 := re.ext e1 r
  obtain ⟨r2, e2⟩ := r1.laid (u := .dK []) hD
  refine ⟨fun i m H' => m = l.length - i ∧ i ≤ l.length ∧ ∃ S' mu' acc, Ext H1 mu1 H' mu' ∧ R g H' mu' S' ∧ D ∉ mu' ∧ ObR g H' mu' D (.dic acc) ∧ acc.length ≤ i ∧ loopD chk (dcStep own ρ fg fk fv) (l.drop i) S' acc fun l' S' => alloc S' (.dic l') Qd,
    ⟨l.length, by simp, Nat.zero_le _, S1, mu1, [], e2, r2, r1.none_out hD, .dicA upd_same .nil, Nat.le_refl _, q⟩, ?_⟩
  rintro i m H' ⟨rfl, hi, S', mu', acc, e', r', hDm, hDl, hacc, hq⟩
  obtain ⟨hc, hq2⟩ := loopD_drop hq hi
  obtain ⟨w1, w2⟩ := wk H' mu' S' e' r' hc i
  rcases hq2 with ⟨ei, hq2⟩ | ⟨d, hd, hlt, hq2⟩
  · exact .inl ⟨w1 ei, k1.take e' r' hDm hD (hDl.mono (fun _ h => h) (fun _ _ h => h) (List.prefix_append _ _)) hq2⟩
  · obtain ⟨go, w3⟩ := w2 d hd
    refine .inr ⟨go, fun H2 => ∃ S2 mu2 acc2, Ext H1 mu1 H2 mu2 ∧ R g H2 mu2 S2 ∧ D ∉ mu2 ∧ ObR g H2 mu2 D (.dic acc2) ∧ acc2.length ≤ i + 1 ∧ loopD chk (dcStep own ρ fg fk fv) (l.drop (i + 1)) S2 acc2 fun l' S' => alloc S' (.dic l') Qd,
      fun H2 z => ⟨l.length - (i + 1), by omega, rfl, by omega, z⟩, fun xv H'' y => ?_⟩
    obtain ⟨e3, r3, rv3⟩ := w3 xv H'' y
    have hD3 : ObR g H'' mu' D (.dic acc) := hDl.beside hDm e3 r'
    have e13 := e'.trans e3
    refine ⟨d, Lf.wipe ρ own, S', mu', _, rv3, (re1.ext e13 r1).wiped own, r3, hq2, fun ρ2 S2 σ2 H2 mu2 e4 r4 re4 hl4 ho4 q4 => ⟨?_, ?_⟩⟩
    · refine (wipe_eq hl4 ho4).trans (wipe_eq (L2.wipe_length _ _) fun j hj => wipe_get hj)
    have out : ∀ {Ha Hb : Hp} {ma mb : List Addr} {o : Ob}, Ext Ha ma Hb mb → ObR g Ha ma D o → D ∉ ma → D ∉ mb := fun ee ob hn hm => by
      obtain ⟨u, hu, _⟩ := ob.told
      rw [ee.new D hm hn] at hu
      cases hu
    have n4 := out e4 hD3 hDm
    have hD4 := hD3.beside hDm e4 r3
    refine ⟨ρ2, S2, mu2, fun b S3 => b = true ∧ S3 = S2, re4, r4, ⟨rfl, rfl⟩, fun b S3 H3 mu3 e5 r5 ⟨eb, eS⟩ => ?_⟩
    subst eb eS
    have n5 := out e5 hD4 n4
    have hD5 := hD4.beside n4 e5 r4
    refine (show tD g fk σ2 H3 _ from ⟨ρ2, S3, mu3, _, re4.ext e5 r4, r5, q4, fun kk S6 kv H6 mu6 e6 r6 rv6 q6 => ?_⟩)
    have n6 := out e6 hD5 n5
    have hD6 := hD5.beside n5 e6 r5
    refine (show tD g fv σ2 H6 _ from ⟨ρ2, S6, mu6, _, (re4.ext e5 r4).ext e6 r5, r6, q6, fun vd S7 vv H7 mu7 e7 r7 rv7 ⟨hkf, q7⟩ => ?_⟩)
    have n7 := out e7 hD6 n6
    have hD7 := hD6.beside n6 e7 r6
    refine ⟨mu7, S7, acc, kk, vd, r7, n7, hD7, rv6.ext e7 r6, rv7, hkf, by omega, fun u hu ob => ⟨S7, mu7, _, ?_, ?_, n7, ob, ?_, q7⟩⟩
    · have e17 := ((e13.trans e4).trans e5).trans (e6.trans e7)
      exact ⟨e17.pre, e17.new, fun a o ha hn => by
        rw [upd_ne (by rintro rfl; rw [hD] at ha; cases ha)]
        exact e17.keep a o ha hn⟩
    · exact r7.besideO n7 hD7
    · have := put_len acc kk vd
      omega
theorem se_dc (G : Good g X) (hi : PI X tg iter (tDI g fi)) (ok : BlkOk X.N X.env.scope scope own) (hs : isSet iter = false)
    (hg : AllB X scope fun Y => PG Y tg (tDG g (own.map (·.2)) fg)) (hk : AllB X scope fun Y => PE Y kx (tD g fk)) (hv : AllB X scope fun Y => PE Y vx (tD g fv)) :
    PE X (.DictComp kx vx [⟨tg, iter, [], 0⟩] scope pos) (tD g (fDc (own.map (·.2)) fi fg fk fv)) :=
  PE.imp (pe_dm G hi ok hs hg (fun _ _ _ _ _ => sc_no) hk hv) fun _ _ _ w => dm_lift w
end
end Lf

set_option Elab.async false
set_option linter.all false
set_option maxRecDepth 100000
set_option maxHeartbeats 4000000
/-! Lf13: dict(list of pairs), keys tuples. -/
namespace Lf
open PySem L2
section
variable {g : Wd} {pr : Prog} {X : Cx} {fa : Env → Store → K1 → Prop} {pos p : Pos} {e : Expr} {H : Hp} {mu : List Addr} {S : Store}
/-- one entry behind the other -/
theorem KvT.storedAll {sa : Addr} : ∀ {kvs : List (D × D)} {ps : List (NestedKey × Addr × V)} {us : List (NestedKey × Addr × Value)}, KvT H sa mu kvs ps → PairX ps us → ∀ {l : List (D × D)} {xs : List (NestedKey × Addr × V)} {ys : List (NestedKey × Addr × Value)}, KvT H sa mu l xs → PairX xs ys →
    ∃ zs, KvT H sa mu (kvs.foldl (fun m p => put m p.1 p.2) l) zs ∧ PairX zs (storedAllH ys us)
  | _, _, _, .nil, .nil, _, xs, _, h, q => ⟨xs, h, q⟩
  | _, _, _, .cons (n := n) (a := b) (v := v) (k := k) (d := d) (l := kvs) (r := ps) kn hd rk rd rest, .cons (b := y) pq pp, l, xs, ys, h, q => by
    obtain ⟨m, c, u⟩ := y
    obtain ⟨e1, e2, e3⟩ := pq
    simp only at e1 e2 e3
    subst e1 e2
    have pk : PairX (putX xs n b v) (storedH ys n b u) ∧ KvT H sa mu (Lf.put l k d) (putX xs n b v) := by
      rcases h.look kn q with ⟨a1, a2, a3⟩ | ⟨d', v', u', b', a1, a2, a3, _, _⟩
      · unfold putX Lf.put storedH
        rw [a1, a2, a3]
        exact ⟨q.snoc e3, h.snoc kn hd rk rd⟩
      · unfold putX Lf.put storedH
        rw [a1, a3, if_pos a2]
        exact ⟨q.map_put e3, h.map_put kn rd⟩
    exact KvT.storedAll rest pp pk.2 pk.1
/-- the pairs of a list of the store, in the heap -/
theorem pairs_in {pins : List (Addr × Obj)} {σ : L2.St} {s : Shared} (I : Inv X pins σ H s) {sa : Addr} : ∀ {kvs : List (D × D)} {vs : List V} {us : List Value}, Rvs H sa mu (kvs.map fun p => .tup [p.1, p.2]) vs → Vals vs us → kvs.all (·.1.keyT) = true →
    ∃ (ts : List Addr) (xs : List (NestedKey × Addr × V)) (ys : List (NestedKey × Addr × Value)), us = ts.map Value.ref ∧ ts.length = kvs.length ∧ KvT H sa mu kvs xs ∧ PairX xs ys ∧ ∀ (j : Nat) k v b, ys[j]? = some (k, b, v) → ∃ t, ts[j]? = some t ∧ s.heap.IsTuple t #[.ref b, v]
  | [], _, _, h, rs, _ => by
    cases h
    cases rs
    exact ⟨[], [], [], rfl, rfl, .nil, .nil, fun j k v b e => by simp at e⟩
  | (k, d) :: kvs, _, _, h, rs, hk => by
    rw [List.all_cons, Bool.and_eq_true] at hk
    cases h with
    | cons h1 h2 =>
      cases rs with
      | cons r1 r2 =>
        cases h1 with
        | tup ha hp =>
          cases r1
          rename_i a ws
          cases hp with
          | cons hp1 hp2 =>
            obtain ⟨vd, rfl, rd⟩ := one_of hp2
            obtain ⟨n, hn, hd⟩ := keyT_key hk.1
            obtain ⟨b, rfl⟩ := key_ref hk.1 hp1
            obtain ⟨its, ri, ht, _⟩ := I.tuple (.of ha)
            cases ri with
            | cons i1 i2 =>
              cases i2 with
              | cons i3 i4 =>
                cases i4
                cases i1
                rename_i u
                obtain ⟨ts, xs, ys, e1, e2, e3, e4, e5⟩ := pairs_in I h2 r2 hk.2
                subst e1
                refine ⟨a :: ts, (n, b, vd) :: xs, (n, b, u) :: ys, rfl, by simp [e2], .cons hn hd hp1 rd e3, .cons ⟨rfl, rfl, i3⟩ e4, fun j k' v' b' e => ?_⟩
                cases j with
                | zero =>
                  simp at e
                  obtain ⟨q1, q2, q3⟩ := e
                  subst q1 q2 q3
                  exact ⟨a, rfl, ht⟩
                | succ j =>
                  simp at e
                  obtain ⟨t, q1, q2⟩ := e5 j k' v' b' e
                  exact ⟨t, by simpa using q1, q2⟩
theorem kvT_keys {pins : List (Addr × Obj)} {σ : L2.St} {s : Shared} (I : Inv X pins σ H s) {sa : Addr} : ∀ {kvs : List (D × D)} {xs : List (NestedKey × Addr × V)} {ys : List (NestedKey × Addr × Value)}, KvT H sa mu kvs xs → PairX xs ys → ∀ x ∈ ys, (nestedKind X.prog X.w).is s.heap x.1 x.2.1
  | _, _, _, .nil, .nil, x, hx => by cases hx
  | _, _, _, .cons kn hd rk rd rest, .cons (b := y) pq pp, x, hx => by
    rcases List.mem_cons.mp hx with rfl | hx
    · obtain ⟨e1, e2, _⟩ := pq
      rw [← e1, ← e2]
      exact keyT_is I kn hd rk
    · exact kvT_keys I rest pp x hx
theorem kvT_len {sa : Addr} {l : List (D × D)} {xs : List (NestedKey × Addr × V)} (h : KvT H sa mu l xs) : l.length = xs.length := by
  induction h with
  | nil => rfl
  | cons _ _ _ _ _ ih => simp [ih]
theorem call_dict_any (G : Good g X) : CallR X (.type "dict") (LRs g (wBi .dict)) := by
  intro pins s σ H vs us Q I rs h
  obtain ⟨ds, S, mu, Qd, vx, r, h, k⟩ := h
  match ds, h, vx with
  | [x], ⟨i, kvs, e, hi, hk, hz, q⟩, vx =>
    subst e
    obtain ⟨v, rfl, rv⟩ := one_of vx
    obtain ⟨u, rfl, ru⟩ := vals1 rs
    obtain ⟨a, ws, rfl, ha, hl, hws⟩ := r.at_lst rv hi
    cases ru
    obtain ⟨its, ri, ⟨o, n, ho, hcl, hdc, hdt⟩, hzl⟩ := I.list (.of hl)
    obtain ⟨ts, xs, ys, e1, e2, kv, px, ht⟩ := pairs_in I hws ri hk
    subst e1
    have lx := kvT_len kv
    have lp := Paired.length px
    have kis := kvT_keys I kv px
    let ps : List (Value × Value) := ys.map fun y => (Value.ref y.2.1, y.2.2)
    have hps : ∀ j k v, ps[j]? = some (k, v) → ∃ (n : NestedKey) (b : Addr), ys[j]? = some (n, b, v) ∧ k = Value.ref b := fun j k v e => by
      rw [List.getElem?_map] at e
      obtain ⟨⟨n, b, v'⟩, e3, e4⟩ := Option.map_eq_some_iff.mp e
      cases e4
      exact ⟨n, b, e3, rfl⟩
    have ok : PlainSeq "list" s.heap a (ts.map Value.ref).toArray ∧ PairItems s.heap (ts.map Value.ref).toArray (fun j => ts.getD j 0) ps := by
      refine ⟨⟨o, n, ho, hcl, hdc, hdt⟩, by simp [ps]; omega, fun j k v e => ?_⟩
      obtain ⟨n2, b, e3, rfl⟩ := hps j k v e
      obtain ⟨t, q1, q2⟩ := ht j n2 v b e3
      have e4 : ts.getD j 0 = t := by rw [List.getD_eq_getElem?_getD, q1]; rfl
      refine ⟨?_, .inl (show s.heap.IsTuple (ts.getD j 0) _ from by rw [e4]; exact q2)⟩
      show (ts.map Value.ref).toArray[j]? = some (Value.ref (ts.getD j 0))
      rw [e4]
      have q3 : (ts.map Value.ref)[j]? = some (Value.ref t) := by rw [List.getElem?_map, q1]; rfl
      simpa using q3
    have stays := nestedKind_stays (prog := X.prog) (w := X.w)
    have room2 : (nestedKind X.prog X.w).room X.A.in1.in1 := by
      show X.A.units + 1 + 1 + 8 < cLine
      have := G.hu
      omega
    refine call_dict_pairsH (knd := nestedKind X.prog X.w) (ps := ys) (PairArg.list a (ts.map Value.ref).toArray (fun j => ts.getD j 0) ps) G.hh room2 ok ⟨by simp [ps], fun j kx vx' e => ?_⟩ (fun h' hk2 x hx => ?_) (by
      have e5 : ps.length = kvs.length := by simp [ps]; omega
      rw [e5, sizeLine_eq]; omega) fun h' tk dd hold => ?_
    · obtain ⟨n2, b, e3, rfl⟩ := hps j kx vx' e
      exact ⟨n2, b, e3, rfl⟩
    · exact stays.all (h := s.heap) h' (fun b o' _ e => hk2 b o' (Nat.ne_of_lt (Heap.lt_size e)) (by simp) e) _ _ (kis x hx)
    · obtain ⟨zs, z1, z2⟩ := kv.storedAll px (l := []) (xs := []) (ys := []) .nil .nil
      have old : ∀ b o', s.heap.get? b = some o' → h'.get? b = some o' := fun b o' e => hold b o' (by simp) e
      obtain ⟨ob, es, ep, h1, h2, h3, h4, _, h6⟩ := dd
      have hn : H s.heap.objs.size = none := I.hok.fresh (Nat.le_refl _)
      have fin : ∀ {u : HO}, ObjOk X.prog X.w (upd H s.heap.objs.size u) h' s.heap.objs.size u → (∀ vs, u ≠ .tup vs) → ObR g (upd H s.heap.objs.size u) (mu ++ [s.heap.objs.size]) s.heap.objs.size (.dic (kvs.foldl (fun m p => put m p.1 p.2) [])) → EP X pins σ Q (.ref s.heap.objs.size) { s with heap := h', toks := tk } := by
        intro u hu _ hob
        obtain ⟨r1, e1⟩ := r.alloc hn hob
        refine ⟨.ref _, _, I.laid old (Nat.le_refl _) hu, rfl, k _ _ _ _ _ e1 r1 (.obj ?_) q⟩
        rw [← r.len, List.getElem?_append_right (Nat.le_refl _), Nat.sub_self]
        rfl
      have sys : (s.heap.objs.size == sysModules) = false := by
        have := I.big
        simp only [beq_eq_false_iff_ne, ne_eq]
        exact Nat.ne_of_gt this
      by_cases hne : kvs.foldl (fun m p => put m p.1 p.2) [] = []
      · -- no entry: the empty dict
        rw [hne] at z1
        cases z1
        have z3 : storedAllH [] ys = [] := by
          cases hq : storedAllH [] ys with
          | nil => rfl
          | cons y r => rw [hq] at z2; cases z2
        rw [z3] at h4
        rw [hne] at fin
        have h5 : es.toList = [] := by
          cases hp : es.toList with
          | nil => rfl
          | cons e r => rw [hp] at h4; cases h4
        refine fin (u := .dK []) ⟨Nat.zero_le _, sys, [], .nil, ob, es, ep, h1, h2, h3, fun e he => ?_, ?_, List.nodup_nil⟩ (fun _ => nofun) (.dicA upd_same .nil)
        · have := Array.mem_def.mp he
          rw [h5] at this
          cases this
        · rw [h5]
          exact .nil
      · refine fin (u := .ext (dictObj g s.heap.objs.size zs)) ⟨?_, ⟨ob, h1⟩, ?_⟩ (fun _ => nofun) (.dicT upd_same (z1.mono g.sa (fun b ws hb => by
          rw [upd_ne (by rintro rfl; rw [hn] at hb; cases hb)]; exact hb) (List.prefix_append _ _)) hne sys)
        · exact ⟨_, z2, ob, es, ep, h1, h2, h3, by rw [← G.eP, ← G.eW]; exact h4, h6⟩
        · rintro a1 a2 ⟨zs', q1, o1, es1, ep1, w1, w2⟩ st
          exact ⟨zs', q1, o1, es1, ep1, st _ w1, w2⟩
theorem se_dict (C : Calls g pr X) (hb : ("dict" : Str) ∈ pr.bn) (hg : Gl X "dict") (hs : isStar e = false) (ha : PE X e (tD g fa)) :
    PE X (.Call (.Name "dict" p) [e] [] pos) (tD g fun ρ S Q => fCons fa fNil ρ S fun l S' => wBi .dict l S' Q) :=
  PE.imp (pe_callTy (call_dict_any C.good) hg (C.blt _ hb) (by decide +kernel) (sa_cons hs ha sa_nil) (by decide) (by decide) (star_cons hs) rfl) fun _ _ _ w => tCB_lift w
end
end Lf

set_option Elab.async false
set_option linter.all false
set_option maxRecDepth 100000
set_option maxHeartbeats 4000000
/-! Lf14: statements, told of data. -/
namespace Lf
open PySem L2
section
variable {g : Wd} {pr : Prog} {X : Cx} {fa fb fe : Env → Store → K1 → Prop} {pos p : Pos} {x : Str} {es : List Expr} {e o tg iter : Expr} {fr : FA} {fg : FG} {fi : FI}
/-- what follows a statement, told of data -/
structure Kont (g : Wd) (H : Hp) (mu : List Addr) (E : Lf.Ends) (D : L2.Ends) : Prop where
  ex : E.ex = never
  nx : KS g H mu E.nx D.nx
  rt : KV g H mu E.rt D.rt
  bk : KS g H mu E.bk D.bk
  ct : KS g H mu E.ct D.ct
theorem Kont.ext {H H' : Hp} {mu mu' : List Addr} {E : Lf.Ends} {D : L2.Ends} (k : Kont g H mu E D) (e : Ext H mu H' mu') : Kont g H' mu' E D := ⟨k.ex, k.nx.ext e, k.rt.ext e, k.bk.ext e, k.ct.ext e⟩
abbrev FS := Env → Store → Lf.Ends → Prop
/-- a statement's reading -/
def tF (g : Wd) (f : FS) : TS := fun D σ H => ∃ ρ S mu E, Re g H mu ρ σ ∧ R g H mu S ∧ f ρ S E ∧ Kont g H mu E D
theorem KS.so {own : List Nat} {σ0 : L2.St} {H : Hp} {mu : List Addr} {Qd : Env → Store → Prop} {Q : L2.St → Hp → Prop} (k : KS g H mu Qd Q) : KSo g own σ0 H mu Qd Q := fun ρ S' σ H' mu' e r re _ _ q => k ρ S' σ H' mu' e r re q
theorem KS.now {H : Hp} {mu : List Addr} {S : Store} {ρ : Env} {σ : L2.St} {Qd : Env → Store → Prop} {Q : L2.St → Hp → Prop} (k : KS g H mu Qd Q) (r : R g H mu S) (re : Re g H mu ρ σ) (q : Qd ρ S) : Q σ H := k _ _ _ _ _ (.refl _ _) r re q
theorem ss_nil : PSs X [] (tF g fun ρ S E => E.nx ρ S) := PSs.imp pss_nil fun D σ H ⟨ρ, S, mu, E, re, r, h, k⟩ => k.nx.now r re h
theorem ss_cons {st : Stmt} {rest : List Stmt} {f fr : FS} (h1 : PS X st (tF g f)) (h2 : PSs X rest (tF g fr)) : PSs X (st :: rest) (tF g fun ρ S E => f ρ S { E with nx := fun ρ' S' => fr ρ' S' E }) :=
  PSs.imp (pss_cons h1 h2) fun D σ H ⟨ρ, S, mu, E, re, r, h, k⟩ => ⟨ρ, S, mu, _, re, r, h, k.ex, fun ρ' S' σ' H' mu' e r' re' q => ⟨ρ', S', mu', E, re', r', q, k.ext e⟩, k.rt, k.bk, k.ct⟩
theorem ss_pass : PS X (.Pass pos) (tF g fun ρ S E => E.nx ρ S) := PS.imp ps_pass fun D σ H ⟨ρ, S, mu, E, re, r, h, k⟩ => k.nx.now r re h
theorem ss_break : PS X (.Break pos) (tF g fun ρ S E => E.bk ρ S) := PS.imp ps_break fun D σ H ⟨ρ, S, mu, E, re, r, h, k⟩ => k.bk.now r re h
theorem ss_cont : PS X (.Continue pos) (tF g fun ρ S E => E.ct ρ S) := PS.imp ps_continue fun D σ H ⟨ρ, S, mu, E, re, r, h, k⟩ => k.ct.now r re h
theorem ss_ex (he : PE X e (tD g fa)) (hc : isComp e = false) : PS X (.Expr e pos) (tF g fun ρ S E => fa ρ S fun _ S1 => E.nx ρ S1) :=
  PS.imp (ps_expr he (no_comp hc)) fun D σ H ⟨ρ, S, mu, E, re, r, h, k⟩ => ⟨ρ, S, mu, _, re, r, h, fun d S' v H' mu' e r' rv q => k.nx _ _ _ _ _ e r' (re.ext e r) q⟩
theorem ss_ret (he : PE X e (tD g fa)) : PS X (.Return (some e) pos) (tF g fun ρ S E => fa ρ S E.rt) :=
  PS.imp (ps_ret he) fun D σ H ⟨ρ, S, mu, E, re, r, h, k⟩ => ⟨ρ, S, mu, _, re, r, h, k.rt⟩
theorem ss_retN : PS X (.Return none pos) (tF g fun _ S E => E.rt .non S) :=
  PS.imp ps_retN fun D σ H ⟨ρ, S, mu, E, re, r, h, k⟩ => k.rt.now r .non h
theorem ss_if {a b : List Stmt} {ta tb : FS} (hc : PT X e (tDT g fe)) (ha : PSs X a (tF g ta)) (hb : PSs X b (tF g tb)) : PS X (.If e a b pos) (tF g fun ρ S E => fe ρ S fun x S1 => (x = .bl true ∧ ta ρ S1 E) ∨ (x = .bl false ∧ tb ρ S1 E)) :=
  PS.imp (ps_if hc ha hb) fun D σ H ⟨ρ, S, mu, E, re, r, h, k⟩ => ⟨ρ, S, mu, _, re, r, h, fun d S' H' mu' e r' q => by
    rcases q with ⟨rfl, q⟩ | ⟨rfl, q⟩
    · exact ⟨true, rfl, show tF g ta D σ H' from ⟨ρ, S', mu', E, re.ext e r, r', q, k.ext e⟩⟩
    · exact ⟨false, rfl, show tF g tb D σ H' from ⟨ρ, S', mu', E, re.ext e r, r', q, k.ext e⟩⟩⟩
theorem asg_lift {t : TG} {own : List Nat} {D : L2.Ends} {σ : L2.St} {H : Hp} (hg : ∀ v σ H Q, tDG g own fg v σ H Q → t v σ H Q) (h : tF g (fun ρ S E => fa ρ S fun x S1 => fg x ρ S1 E.nx) D σ H) : tAsg (tD g fa) t D σ H := by
  obtain ⟨ρ, S, mu, E, re, r, h, k⟩ := h
  exact ⟨ρ, S, mu, _, re, r, h, fun d S' v H' mu' e r' rv q => hg _ _ _ _ ⟨d, ρ, S', mu', _, rv, re.ext e r, r', q, (k.nx.ext e).so⟩⟩
theorem ss_asg {own : List Nat} (he : PE X e (tD g fa)) (hg : PG X tg (tDG g own fg)) (hc : swapsWithSole [tg] e pos.line X.env = pure false) (hw : swappedStores [tg] e X.env = pure none) (h1 : (assignEach [tg] X.env).map (·.2) = [assign tg X.env]) :
    PS X (.Assign [tg] e pos) (tF g fun ρ S E => fa ρ S fun x S1 => fg x ρ S1 E.nx) :=
  PS.imp (ps_asg he hg hc hw h1) fun D σ H w => asg_lift (fun _ _ _ _ z => z) w
theorem ss_set {i : Nat} {p' : Pos} (G : Good g X) (hi : X.N[i]? = some x) (hx : Loc X.env.scope x) (hf : X.fn x = true ∨ X.env.scope.names.lookup x = some .local) (he : PE X e (tD g fa)) (hs : swapsWith e (some (.Name x p')) pos.line X.env = pure false) :
    PS X (.Assign [.Name x p'] e pos) (tF g fun ρ S E => fa ρ S fun x S1 => gNm i x ρ S1 E.nx) :=
  PS.imp (ps_set G.nd hi hx he hs hf) fun D σ H w => asg_lift (own := [i]) (fun v σ H Q ⟨d, ρ, S, mu, N, rv, re, r, h, k⟩ => k _ _ _ _ _ (.refl _ _) r (re.set rv) (by simp) (fun j hj => List.getElem?_set_ne (by rintro rfl; exact hj List.mem_cons_self)) h) w
/-- a, b = x, y with plain local names -/
theorem ss_par2 {i j : Nat} {x y : Str} {a b : Expr} {px py pt pt2 : Pos} {kt k2 : Nat} (G : Good g X) (hi : X.N[i]? = some x) (hj : X.N[j]? = some y) (hij : i ≠ j)
    (hx : X.env.scope.names.lookup x = some .local) (hy : X.env.scope.names.lookup y = some .local) (ha : PA X [a, b] (tDA g fr))
    (hw : swappedStores [.Tuple [.Name x px, .Name y py] kt pt] (.Tuple [a, b] k2 pt2) X.env = pure (some [x, y])) :
    PS X (.Assign [.Tuple [.Name x px, .Name y py] kt pt] (.Tuple [a, b] k2 pt2) pos) (tF g fun ρ S E => fr ρ S fun l S1 => l.length = 2 ∧ E.nx (sets ρ [i, j] l) S1) :=
  PS.imp (ps_par G.calm G.nd hi hj hij hx hy ha hw) fun D σ H ⟨ρ, S, mu, E, re, r, h, k⟩ => ⟨ρ, S, mu, _, re, r, h, fun l S' vs H' mu' e r' rvs q => by
    match l, q, rvs with
    | [d1, d2], q, rvs =>
      cases rvs with
      | cons r1 r2 =>
        obtain ⟨v2, rfl, rz⟩ := one_of r2
        exact ⟨_, _, rfl, k.nx _ _ _ _ _ e r' (((re.ext e r).set r1).set rz) q.2⟩⟩
theorem ss_par3 {i j l : Nat} {x y z : Str} {a b c : Expr} {px py pz pt pt2 : Pos} {kt k2 : Nat} (G : Good g X) (hi : X.N[i]? = some x) (hj : X.N[j]? = some y) (hl : X.N[l]? = some z) (hij : i ≠ j) (hil : i ≠ l) (hjl : j ≠ l)
    (hx : X.env.scope.names.lookup x = some .local) (hy : X.env.scope.names.lookup y = some .local) (hz : X.env.scope.names.lookup z = some .local) (ha : PA X [a, b, c] (tDA g fr))
    (hw : swappedStores [.Tuple [.Name x px, .Name y py, .Name z pz] kt pt] (.Tuple [a, b, c] k2 pt2) X.env = pure (some [x, y, z])) :
    PS X (.Assign [.Tuple [.Name x px, .Name y py, .Name z pz] kt pt] (.Tuple [a, b, c] k2 pt2) pos) (tF g fun ρ S E => fr ρ S fun m S1 => m.length = 3 ∧ E.nx (sets ρ [i, j, l] m) S1) :=
  PS.imp (ps_par3 G.calm G.nd hi hj hl hij hil hjl hx hy hz ha hw) fun D σ H ⟨ρ, S, mu, E, re, r, h, k⟩ => ⟨ρ, S, mu, _, re, r, h, fun m S' vs H' mu' e r' rvs q => by
    match m, q, rvs with
    | [d1, d2, d3], q, rvs =>
      cases rvs with
      | cons r1 r2 =>
        cases r2 with
        | cons r2 r3 =>
          obtain ⟨v3, rfl, rz⟩ := one_of r3
          exact ⟨_, _, _, rfl, k.nx _ _ _ _ _ e r' ((((re.ext e r).set r1).set r2).set rz) q.2⟩⟩

/-! ### loops -/
def fWhl (fc : Env → Store → K1 → Prop) (fb : FS) : FS := fun ρ S E => ∃ n, loopW fc (fun ρ S N => fb ρ S { E with nx := N, ct := N, bk := E.nx }) n ρ S E.nx
theorem ss_while {body : List Stmt} {fs : FS} (hp : PassesOwn (model X.prog X.w) X.A X.env X.xe) (hc : PT X e (tDT g fe)) (hb : PSs X body (tF g fs)) : PS X (.While e body [] pos) (tF g (fWhl fe fs)) :=
  PS.imp (ps_while hp hc hb) fun D σ H ⟨ρ, S, mu, E, re, r, ⟨n, h⟩, k⟩ => by
    refine ⟨fun m σ1 H1 => ∃ ρ1 S1 mu1, Ext H mu H1 mu1 ∧ R g H1 mu1 S1 ∧ Re g H1 mu1 ρ1 σ1 ∧ loopW fe (fun ρ S N => fs ρ S { E with nx := N, ct := N, bk := E.nx }) m ρ1 S1 E.nx, ⟨n, ρ, S, mu, .refl _ _, r, re, h⟩, ?_⟩
    rintro m σ1 H1 ⟨ρ1, S1, mu1, e1, r1, re1, h1⟩
    cases m with
    | zero => exact False.elim h1
    | succ m =>
      refine ⟨ρ1, S1, mu1, _, re1, r1, h1, fun d S2 H2 mu2 e2 r2 q => ?_⟩
      rcases q with ⟨rfl, q⟩ | ⟨rfl, q⟩
      · refine ⟨true, rfl, ?_⟩
        show ∃ N : L2.St → Hp → Prop, _
        exact ⟨fun σ3 H3 => ∃ ρ3 S3 mu3, Ext H mu H3 mu3 ∧ R g H3 mu3 S3 ∧ Re g H3 mu3 ρ3 σ3 ∧ loopW fe (fun ρ S N => fs ρ S { E with nx := N, ct := N, bk := E.nx }) m ρ3 S3 E.nx,
          fun σ3 H3 z => ⟨m, Nat.lt_succ_self m, z⟩, ρ1, S2, mu2, _, re1.ext e2 r1, r2, q, k.ex, fun ρ4 S4 σ4 H4 mu4 e4 r4 re4 q4 => ⟨ρ4, S4, mu4, (e1.trans e2).trans e4, r4, re4, q4⟩, k.rt.ext (e1.trans e2), k.nx.ext (e1.trans e2), fun ρ4 S4 σ4 H4 mu4 e4 r4 re4 q4 => ⟨ρ4, S4, mu4, (e1.trans e2).trans e4, r4, re4, q4⟩⟩
      · exact ⟨false, rfl, show D.nx σ1 H2 from k.nx _ _ _ _ _ (e1.trans e2) r2 (re1.ext e2 r1) q⟩
def fFor (fi : FI) (fg : FG) (fb : FS) : FS := fun ρ S E => fi ρ S fun chk l S1 => loopL chk (fun d ρ S N => fg d ρ S fun ρ' S' => fb ρ' S' { E with nx := N, ct := N, bk := E.nx }) l ρ S1 E.nx
theorem loopL_drop {chk : Store → Prop} {body : D → Env → Store → (Env → Store → Prop) → Prop} {l : List D} {i : Nat} {ρ : Env} {S : Store} {N : Env → Store → Prop} (h : loopL chk body (l.drop i) ρ S N) (hi : i ≤ l.length) :
    chk S ∧ ((i = l.length ∧ N ρ S) ∨ ∃ d, l[i]? = some d ∧ i < l.length ∧ body d ρ S fun ρ' S' => loopL chk body (l.drop (i + 1)) ρ' S' N) := by
  by_cases hl : i < l.length
  · rw [List.drop_eq_getElem_cons hl] at h
    exact ⟨h.1, .inr ⟨l[i], List.getElem?_eq_getElem hl, hl, h.2⟩⟩
  · have e : i = l.length := by omega
    subst e
    rw [List.drop_length] at h
    exact ⟨h.1, .inl ⟨rfl, h.2⟩⟩
theorem ss_for {own : List Nat} {body : List Stmt} {fs : FS} (G : Good g X) (hp : PassesOwn (model X.prog X.w) X.A X.env X.xe) (hs : isSet iter = false) (hi : PI X tg iter (tDI g fi)) (hg : PG X tg (tDG g own fg)) (hb : PSs X body (tF g fs)) :
    PS X (.For tg iter body [] pos) (tF g (fFor fi fg fs)) :=
  PS.imp (ps_for hp G.calm hi hg hb (no_set hs)) fun D σ H ⟨ρ, S, mu, E, re, r, h, k⟩ => by
    refine ⟨ρ, S, mu, _, re, r, h, fun chk l S1 J H1 mu1 e1 r1 wk q => ?_⟩
    refine ⟨fun i m σ2 H2 => m = l.length - i ∧ i ≤ l.length ∧ ∃ ρ2 S2 mu2, Ext H1 mu1 H2 mu2 ∧ R g H2 mu2 S2 ∧ Re g H2 mu2 ρ2 σ2 ∧ loopL chk (fun d ρ S N => fg d ρ S fun ρ' S' => fs ρ' S' { E with nx := N, ct := N, bk := E.nx }) (l.drop i) ρ2 S2 E.nx,
      ⟨l.length, by simp, Nat.zero_le _, ρ, S1, mu1, .refl _ _, r1, re.ext e1 r, q⟩, ?_⟩
    rintro i m σ2 H2 ⟨rfl, hi, ρ2, S2, mu2, e2, r2, re2, h2⟩
    obtain ⟨hc, h2⟩ := loopL_drop h2 hi
    obtain ⟨w1, w2⟩ := wk H2 mu2 S2 e2 r2 hc i
    rcases h2 with ⟨ei, h2⟩ | ⟨d, hd, hlt, h2⟩
    · exact .inl ⟨w1 ei, k.nx _ _ _ _ _ (e1.trans e2) r2 re2 h2⟩
    · obtain ⟨go, w3⟩ := w2 d hd
      refine .inr ⟨go, fun σ3 H3 => ∃ ρ3 S3 mu3, Ext H1 mu1 H3 mu3 ∧ R g H3 mu3 S3 ∧ Re g H3 mu3 ρ3 σ3 ∧ loopL chk (fun d ρ S N => fg d ρ S fun ρ' S' => fs ρ' S' { E with nx := N, ct := N, bk := E.nx }) (l.drop (i + 1)) ρ3 S3 E.nx,
        fun σ3 H3 z => ⟨l.length - (i + 1), by omega, rfl, by omega, z⟩, fun xv H'' y => ?_⟩
      obtain ⟨e3, r3, rv3⟩ := w3 xv H'' y
      have e23 := e2.trans e3
      refine ⟨d, ρ2, S2, mu2, _, rv3, re2.ext e3 r2, r3, h2, fun ρ4 S4 σ4 H4 mu4 e4 r4 re4 _ _ q4 => ?_⟩
      have e14 := e1.trans (e23.trans e4)
      exact ⟨ρ4, S4, mu4, _, re4, r4, q4, k.ex, fun ρ5 S5 σ5 H5 mu5 e5 r5 re5 q5 => ⟨ρ5, S5, mu5, (e23.trans e4).trans e5, r5, re5, q5⟩, k.rt.ext e14, k.nx.ext e14, fun ρ5 S5 σ5 H5 mu5 e5 r5 re5 q5 => ⟨ρ5, S5, mu5, (e23.trans e4).trans e5, r5, re5, q5⟩⟩
end
end Lf

set_option Elab.async false
set_option linter.all false
set_option maxRecDepth 100000
set_option maxHeartbeats 4000000
/-! Lf15: what is asked grows with what follows. -/
namespace Lf
open PySem
abbrev Le1 (Q Q' : K1) : Prop := ∀ d s, Q d s → Q' d s
section
variable {Q Q' X X' : K1}
theorem wBin_le {o : Operator} {x y : D} {S : Store} (h : wBin o x y S Q) (k : Le1 Q Q') : wBin o x y S Q' := by
  unfold wBin at h ⊢
  split at h <;> first
    | exact k _ _ h
    | exact ⟨h.1, k _ _ h.2⟩
    | (obtain ⟨a, b, h1, h2, h3, h4⟩ := h; exact ⟨a, b, h1, h2, h3, k _ _ h4⟩)
    | exact False.elim h
theorem wBi_le {n : Bi} {l : List D} {S : Store} (h : wBi n l S Q) (k : Le1 Q Q') : wBi n l S Q' := by
  unfold wBi at h ⊢
  split at h
  · rcases h with ⟨s, h1, h2, h3⟩ | ⟨l, h1, h2⟩
    · exact .inl ⟨s, h1, h2, k _ _ h3⟩
    · exact .inr ⟨l, h1, k _ _ h2⟩
  · obtain ⟨l, h1, h2⟩ := h; exact ⟨l, h1, k _ _ h2⟩
  · obtain ⟨l, h1, h2⟩ := h; exact ⟨l, h1, k _ _ h2⟩
  · rcases h with ⟨s, h1, h3⟩ | ⟨l, h1, h2, h3⟩
    · exact .inl ⟨s, h1, k _ _ h3⟩
    · exact .inr ⟨l, h1, h2, k _ _ h3⟩
  · obtain ⟨l, h1, h2⟩ := h; exact ⟨l, h1, k _ _ h2⟩
  · obtain ⟨i, ss, h1, h2, h3, h4⟩ := h; exact ⟨i, ss, h1, h2, h3, fun ys a b => k _ _ (h4 ys a b)⟩
  · obtain ⟨p, h1, h2, h3, h4, h5⟩ := h; exact ⟨p, h1, h2, h3, h4, k _ _ h5⟩
  · obtain ⟨i, kvs, h1, h2, h3, h4, h5⟩ := h; exact ⟨i, kvs, h1, h2, h3, h4, k _ _ h5⟩
  · exact h
theorem wMe_le {n : Me} {o : D} {l : List D} {S : Store} (h : wMe n o l S Q) (k : Le1 Q Q') : wMe n o l S Q' := by
  unfold wMe at h ⊢
  split at h
  · obtain ⟨i, l, h1, h2, h3, h4⟩ := h; exact ⟨i, l, h1, h2, h3, k _ _ h4⟩
  · obtain ⟨i, l, x, h1, h2, h3⟩ := h; exact ⟨i, l, x, h1, h2, k _ _ h3⟩
  · obtain ⟨i, l, j, x, h1, h2, h3, h4, h5, h6⟩ := h; exact ⟨i, l, j, x, h1, h2, h3, h4, h5, k _ _ h6⟩
  · obtain ⟨s, t, h1, h2, h3, h4, h5⟩ := h; exact ⟨s, t, h1, h2, h3, h4, k _ _ h5⟩
  · exact h
theorem wIx_le {x y : D} {S : Store} (h : wIx x y S Q) (k : Le1 Q Q') : wIx x y S Q' := by
  rcases h with ⟨l, i, v, h1, h2, h3, h4⟩ | ⟨j, l, v, h1, h2, h3, h4, h5⟩
  · exact .inl ⟨l, i, v, h1, h2, h3, k _ _ h4⟩
  · exact .inr ⟨j, l, v, h1, h2, h3, h4, k _ _ h5⟩
theorem wSl_le {x : D} {lo hi : Option Int} {S : Store} {ns : List Int} (h : wSl x lo hi S ns Q) (k : Le1 Q Q') : wSl x lo hi S ns Q' := by
  unfold wSl at h ⊢
  split at h
  · exact k _ _ h
  · obtain ⟨l, h1, h2⟩ := h; exact ⟨l, h1, k _ _ h2⟩
  · exact k _ _ h
  · exact h
theorem wRev_le {x : D} {S : Store} (h : wRev x S Q) (k : Le1 Q Q') : wRev x S Q' := by
  unfold wRev at h ⊢
  split at h
  · exact k _ _ h
  · obtain ⟨l, h1, h2⟩ := h; exact ⟨l, h1, k _ _ h2⟩
  · exact h
theorem wSet_le {o k v : D} {S : Store} {N N' : Store → Prop} (h : wSet o k v S N) (n : ∀ s, N s → N' s) : wSet o k v S N' := by
  rcases h with ⟨j, l, i, m, h1, h2, h3, h4, h5⟩ | ⟨j, l, h1, h2, h3, h4, h5⟩
  · exact .inl ⟨j, l, i, m, h1, h2, h3, h4, n _ h5⟩
  · exact .inr ⟨j, l, h1, h2, h3, h4, n _ h5⟩
theorem loopL_le {chk : Store → Prop} {b b' : D → Env → Store → (Env → Store → Prop) → Prop} {N N' : Env → Store → Prop} (hb : ∀ d ρ S (M M' : Env → Store → Prop), b d ρ S M → (∀ ρ S, M ρ S → M' ρ S) → b' d ρ S M') (n : ∀ ρ S, N ρ S → N' ρ S) : ∀ {l : List D} {ρ : Env} {S : Store}, loopL chk b l ρ S N → loopL chk b' l ρ S N'
  | [], _, _, h => ⟨h.1, n _ _ h.2⟩
  | d :: l, _, _, h => ⟨h.1, hb _ _ _ _ _ h.2 fun _ _ q => loopL_le hb n q⟩
theorem loopC_le {chk : Store → Prop} {b b' : D → Store → (List D → Store → Prop) → Prop} {N N' : List D → Store → Prop} (hb : ∀ d S (M M' : List D → Store → Prop), b d S M → (∀ ρ S, M ρ S → M' ρ S) → b' d S M') (n : ∀ ρ S, N ρ S → N' ρ S) : ∀ {l : List D} {S : Store} {acc : List D}, loopC chk b l S acc N → loopC chk b' l S acc N'
  | [], _, _, h => ⟨h.1, n _ _ h.2⟩
  | d :: l, _, _, h => ⟨h.1, hb _ _ _ _ h.2 fun _ _ q => loopC_le hb n q⟩
theorem loopD_le {chk : Store → Prop} {b b' : D → Store → (D → D → Store → Prop) → Prop} {N N' : List (D × D) → Store → Prop} (hb : ∀ d S (M M' : D → D → Store → Prop), b d S M → (∀ x y S, M x y S → M' x y S) → b' d S M') (n : ∀ ρ S, N ρ S → N' ρ S) : ∀ {l : List D} {S : Store} {acc : List (D × D)}, loopD chk b l S acc N → loopD chk b' l S acc N'
  | [], _, _, h => ⟨h.1, n _ _ h.2⟩
  | d :: l, _, _, h => ⟨h.1, hb _ _ _ _ h.2 fun _ _ _ q => ⟨q.1, loopD_le hb n q.2⟩⟩
theorem loopW_le {c c' : Env → Store → K1 → Prop} {b b' : Env → Store → (Env → Store → Prop) → Prop} {N N' : Env → Store → Prop} (hc : ∀ ρ S (Q Q' : K1), c ρ S Q → Le1 Q Q' → c' ρ S Q') (hb : ∀ ρ S (M M' : Env → Store → Prop), b ρ S M → (∀ ρ S, M ρ S → M' ρ S) → b' ρ S M') (n : ∀ ρ S, N ρ S → N' ρ S) : ∀ {k : Nat} {ρ : Env} {S : Store}, loopW c b k ρ S N → loopW c' b' k ρ S N'
  | 0, _, _, h => h
  | k + 1, _, _, h => hc _ _ _ _ h fun d s q => by
    rcases q with ⟨e, q⟩ | ⟨e, q⟩
    · exact .inl ⟨e, hb _ _ _ _ q fun _ _ z => loopW_le hc hb n z⟩
    · exact .inr ⟨e, n _ _ q⟩
end
section
variable {G : Nat → Sp} {ns : List Int}
mutual
theorem wE_le : ∀ (e : E) {ρ : Env} {S : Store} {Q Q' X X' : K1}, wE G ns e ρ S Q X → Le1 Q Q' → Le1 X X' → wE G ns e ρ S Q' X'
  | .var i, _, _, _, _, _, _, h, k, _ => by rw [wE] at h ⊢; obtain ⟨d, h1, h2⟩ := h; exact ⟨d, h1, k _ _ h2⟩
  | .con d, _, _, _, _, _, _, h, k, _ => by rw [wE] at h ⊢; exact k _ _ h
  | .tup a, _, _, _, _, _, _, h, k, j => by rw [wE] at h ⊢; exact wEs_le a h (fun _ _ q => ⟨q.1, k _ _ q.2⟩) j
  | .lst a, _, _, _, _, _, _, h, k, j => by rw [wE] at h ⊢; exact wEs_le a h (fun _ _ q => ⟨q.1, k _ _ q.2⟩) j
  | .dnew, _, _, _, _, _, _, h, k, _ => by rw [wE] at h ⊢; exact k _ _ h
  | .bin o a b, _, _, _, _, _, _, h, k, j => by rw [wE] at h ⊢; exact wE_le a h (fun _ _ q => wE_le b q (fun _ _ q => wBin_le q k) j) j
  | .neg a, _, _, _, _, _, _, h, k, j => by rw [wE] at h ⊢; exact wE_le a h (fun _ _ q => let ⟨i, e, q⟩ := q; ⟨i, e, k _ _ q⟩) j
  | .cmp o a b, _, _, _, _, _, _, h, k, j => by rw [wE] at h ⊢; exact wE_le a h (fun _ _ q => wE_le b q (fun _ _ q => wCmp_imp q fun _ q => k _ _ q) j) j
  | .cmp2 o o' a b c, _, _, _, _, _, _, h, k, j => by
    rw [wE] at h ⊢
    exact wE_le a h (fun _ _ q => wE_le b q (fun _ _ q => wCmp_imp q fun t q => by
      cases t
      · exact k _ _ q
      · exact wE_le c q (fun _ _ q => wCmp_imp q fun _ q => k _ _ q) j) j) j
  | .and a b, _, _, _, _, _, _, h, k, j => by
    rw [wE] at h ⊢
    exact wE_le a h (fun _ _ q => q.imp (fun q => ⟨q.1, wE_le b q.2 (fun _ _ q => ⟨q.1, k _ _ q.2⟩) j⟩) fun q => ⟨q.1, k _ _ q.2⟩) j
  | .or a b, _, _, _, _, _, _, h, k, j => by
    rw [wE] at h ⊢
    exact wE_le a h (fun _ _ q => q.imp (fun q => ⟨q.1, wE_le b q.2 (fun _ _ q => ⟨q.1, k _ _ q.2⟩) j⟩) fun q => ⟨q.1, k _ _ q.2⟩) j
  | .not a, _, _, _, _, _, _, h, k, j => by rw [wE] at h ⊢; exact wE_le a h (fun _ _ q => let ⟨i, e, q⟩ := q; ⟨i, e, k _ _ q⟩) j
  | .ife c a b, _, _, _, _, _, _, h, k, j => by
    rw [wE] at h ⊢
    exact wE_le c h (fun _ _ q => q.imp (fun q => ⟨q.1, wE_le a q.2 k j⟩) fun q => ⟨q.1, wE_le b q.2 k j⟩) j
  | .call f a, _, _, _, _, _, _, h, k, j => by rw [wE] at h ⊢; exact wEs_le a h (fun _ _ q => (G f).mono q k j) j
  | .bi n a, _, _, _, _, _, _, h, k, j => by rw [wE] at h ⊢; exact wEs_le a h (fun _ _ q => wBi_le q k) j
  | .me n o a, _, _, _, _, _, _, h, k, j => by rw [wE] at h ⊢; exact wE_le o h (fun _ _ q => ⟨q.1, wEs_le a q.2 (fun _ _ q => wMe_le q k) j⟩) j
  | .ix a i, _, _, _, _, _, _, h, k, j => by rw [wE] at h ⊢; exact wE_le a h (fun _ _ q => wE_le i q (fun _ _ q => wIx_le q k) j) j
  | .sl a lo hi, _, _, _, _, _, _, h, k, j => by
    rw [wE] at h ⊢; exact wE_le a h (fun _ _ q => wO_le lo q (fun _ _ q => wO_le hi q (fun _ _ q => wSl_le q k) j) j) j
  | .rev a, _, _, _, _, _, _, h, k, j => by rw [wE] at h ⊢; exact wE_le a h (fun _ _ q => wRev_le q k) j
  | .lc own it g c e, _, _, _, _, _, _, h, k, j => by
    rw [wE] at h ⊢
    refine wIt_le it h (fun chk l _ q => ⟨q.1, loopC_le (fun d S M M' hb hm => ?_) (fun _ _ q => k _ _ q) q.2⟩) j
    refine wTg_le g hb (fun _ _ q => wC_le c q (fun t _ q => ?_) j) j
    cases t
    · exact hm _ _ q
    · exact wE_le e q (fun _ _ q => hm _ _ q) j
  | .dc own it g c a b, _, _, _, _, _, _, h, k, j => by
    rw [wE] at h ⊢
    refine wIt_le it h (fun chk l _ q => ⟨q.1, loopD_le (fun d S M M' hb hm => ?_) (fun _ _ q => k _ _ q) q.2⟩) j
    exact wTg_le g hb (fun _ _ q => wE_le a q (fun _ _ q => wE_le b q (fun _ _ q => hm _ _ _ q) j) j) j
theorem wEs_le : ∀ (e : Es) {ρ : Env} {S : Store} {Q Q' : List D → Store → Prop} {X X' : K1}, wEs G ns e ρ S Q X → (∀ l s, Q l s → Q' l s) → Le1 X X' → wEs G ns e ρ S Q' X'
  | .nil, _, _, _, _, _, _, h, k, _ => by rw [wEs] at h ⊢; exact k _ _ h
  | .cons e r, _, _, _, _, _, _, h, k, j => by rw [wEs] at h ⊢; exact wE_le e h (fun _ _ q => wEs_le r q (fun _ _ q => k _ _ q) j) j
  | .star e r, _, _, _, _, _, _, h, k, j => by rw [wEs] at h ⊢; exact wE_le e h (fun _ _ q => let ⟨a, h1, q⟩ := q; ⟨a, h1, wEs_le r q (fun _ _ q => k _ _ q) j⟩) j
theorem wO_le : ∀ (e : Oe) {ρ : Env} {S : Store} {Q Q' : Option Int → Store → Prop} {X X' : K1}, wO G ns e ρ S Q X → (∀ l s, Q l s → Q' l s) → Le1 X X' → wO G ns e ρ S Q' X'
  | .no, _, _, _, _, _, _, h, k, _ => by rw [wO] at h ⊢; exact k _ _ h
  | .yes e, _, _, _, _, _, _, h, k, j => by rw [wO] at h ⊢; exact wE_le e h (fun _ _ q => let ⟨i, e, q⟩ := q; ⟨i, e, k _ _ q⟩) j
theorem wC_le : ∀ (e : Oe) {ρ : Env} {S : Store} {Q Q' : Bool → Store → Prop} {X X' : K1}, wC G ns e ρ S Q X → (∀ l s, Q l s → Q' l s) → Le1 X X' → wC G ns e ρ S Q' X'
  | .no, _, _, _, _, _, _, h, k, _ => by rw [wC] at h ⊢; exact k _ _ h
  | .yes e, _, _, _, _, _, _, h, k, j => by rw [wC] at h ⊢; exact wE_le e h (fun _ _ q => let ⟨i, e, q⟩ := q; ⟨i, e, k _ _ q⟩) j
theorem wIt_le : ∀ (e : It) {ρ : Env} {S : Store} {Q Q' : (Store → Prop) → List D → Store → Prop} {X X' : K1}, wIt G ns e ρ S Q X → (∀ c l s, Q c l s → Q' c l s) → Le1 X X' → wIt G ns e ρ S Q' X'
  | .seq e, _, _, _, _, _, _, h, k, j => by rw [wIt] at h ⊢; exact wE_le e h (fun _ _ q => let ⟨i, e, q⟩ := q; ⟨i, e, k _ _ _ q⟩) j
  | .rng e, _, _, _, _, _, _, h, k, j => by rw [wIt] at h ⊢; exact wE_le e h (fun _ _ q => let ⟨i, e, b, q⟩ := q; ⟨i, e, b, k _ _ _ q⟩) j
  | .rng2 a b, _, _, _, _, _, _, h, k, j => by rw [wIt] at h ⊢; exact wE_le a h (fun _ _ q => wE_le b q (fun _ _ q => let ⟨i, e, b, c, d, q⟩ := q; ⟨i, e, b, c, d, k _ _ _ q⟩) j) j
  | .enum e, _, _, _, _, _, _, h, _, _ => by rw [wIt] at h; exact h.elim
  | .zip a b, _, _, _, _, _, _, h, _, _ => by rw [wIt] at h; exact h.elim
theorem wTg_le : ∀ (t : Tg) {d : D} {ρ : Env} {S : Store} {N N' : Env → Store → Prop} {X X' : K1}, wTg G ns t d ρ S N X → (∀ ρ s, N ρ s → N' ρ s) → Le1 X X' → wTg G ns t d ρ S N' X'
  | .nm i, _, _, _, _, _, _, _, h, k, _ => by rw [wTg] at h ⊢; exact k _ _ h
  | .tp t, _, _, _, _, _, _, _, h, k, j => by rw [wTg] at h ⊢; obtain ⟨l, e, h⟩ := h; exact ⟨l, e, wTgs_le t h k j⟩
  | .sub o i, _, _, _, _, _, _, _, h, k, j => by rw [wTg] at h ⊢; exact wE_le o h (fun _ _ q => wE_le i q (fun _ _ q => wSet_le q fun _ q => k _ _ q) j) j
theorem wTgs_le : ∀ (t : Tgs) {d : List D} {ρ : Env} {S : Store} {N N' : Env → Store → Prop} {X X' : K1}, wTgs G ns t d ρ S N X → (∀ ρ s, N ρ s → N' ρ s) → Le1 X X' → wTgs G ns t d ρ S N' X'
  | .nil, _, _, _, _, _, _, _, h, k, _ => by rw [wTgs] at h ⊢; exact ⟨h.1, k _ _ h.2⟩
  | .cons t r, _, _, _, _, _, _, _, h, k, j => by rw [wTgs] at h ⊢; obtain ⟨d, m, e, h⟩ := h; exact ⟨d, m, e, wTg_le t h (fun _ _ q => wTgs_le r q k j) j⟩
end
/-- what follows a statement grows -/
structure EndsLe (D D' : Ends) : Prop where
  nx : ∀ ρ s, D.nx ρ s → D'.nx ρ s
  rt : Le1 D.rt D'.rt
  bk : ∀ ρ s, D.bk ρ s → D'.bk ρ s
  ct : ∀ ρ s, D.ct ρ s → D'.ct ρ s
  ex : Le1 D.ex D'.ex
mutual
theorem wT_le : ∀ (t : T) {ρ : Env} {S : Store} {D D' : Ends}, wT G ns t ρ S D → EndsLe D D' → wT G ns t ρ S D'
  | .asg t e, _, _, _, _, h, k => by rw [wT] at h ⊢; exact wE_le e h (fun _ _ q => wTg_le t q k.nx k.ex) k.ex
  | .par l a, _, _, _, _, h, k => by rw [wT] at h ⊢; exact wEs_le a h (fun _ _ q => ⟨q.1, k.nx _ _ q.2⟩) k.ex
  | .aug i o e, _, _, _, _, h, k => by rw [wT] at h ⊢; obtain ⟨x, h1, h⟩ := h; exact ⟨x, h1, wE_le e h (fun _ _ q => wBin_le q fun _ _ q => k.nx _ _ q) k.ex⟩
  | .ex e, _, _, _, _, h, k => by rw [wT] at h ⊢; exact wE_le e h (fun _ _ q => k.nx _ _ q) k.ex
  | .ret e, _, _, _, _, h, k => by rw [wT] at h ⊢; exact wE_le e h k.rt k.ex
  | .retN, _, _, _, _, h, k => by rw [wT] at h ⊢; exact k.rt _ _ h
  | .ife c a b, _, _, _, _, h, k => by
    rw [wT] at h ⊢; exact wE_le c h (fun _ _ q => q.imp (fun q => ⟨q.1, wTs_le a q.2 k⟩) fun q => ⟨q.1, wTs_le b q.2 k⟩) k.ex
  | .whl c b, _, _, D, D', h, k => by
    rw [wT] at h ⊢
    obtain ⟨n, h⟩ := h
    refine ⟨n, loopW_le ?_ ?_ k.nx h⟩
    · intro ρ S Q Q' h q
      exact wE_le c h q k.ex
    · intro ρ S M M' h q
      exact wTs_le b h ⟨q, k.rt, k.nx, q, k.ex⟩
  | .for_ it t b, _, _, D, D', h, k => by
    rw [wT] at h ⊢
    refine wIt_le it h (fun chk l S q => ?_) k.ex
    refine loopL_le ?_ k.nx q
    intro d ρ S M M' h q
    refine wTg_le t h ?_ k.ex
    intro ρ S h
    exact wTs_le b h ⟨q, k.rt, k.nx, q, k.ex⟩
  | .pass, _, _, _, _, h, k => by rw [wT] at h ⊢; exact k.nx _ _ h
  | .brk, _, _, _, _, h, k => by rw [wT] at h ⊢; exact k.bk _ _ h
  | .cont, _, _, _, _, h, k => by rw [wT] at h ⊢; exact k.ct _ _ h
theorem wTs_le : ∀ (t : Ts) {ρ : Env} {S : Store} {D D' : Ends}, wTs G ns t ρ S D → EndsLe D D' → wTs G ns t ρ S D'
  | .nil, _, _, _, _, h, k => by rw [wTs] at h ⊢; exact k.nx _ _ h
  | .cons t r, _, _, _, _, h, k => by rw [wTs] at h ⊢; exact wT_le t h ⟨fun _ _ q => wTs_le r q k, k.rt, k.bk, k.ct, k.ex⟩
end
/-- how many arguments come -/
def Es.len : Es → Option Nat
  | .nil => some 0
  | .cons _ r => r.len.map (· + 1)
  | .star _ _ => none
theorem wEs_len : ∀ (e : Es) {n : Nat} {ρ : Env} {S : Store} {Q : List D → Store → Prop} {X : K1}, e.len = some n → wEs G ns e ρ S Q X → wEs G ns e ρ S (fun l s => l.length = n ∧ Q l s) X
  | .nil, _, _, _, _, _, e, h => by
    cases e
    rw [wEs] at h ⊢
    exact ⟨rfl, h⟩
  | .cons e r, n, _, _, _, _, hl, h => by
    rw [Es.len] at hl
    obtain ⟨m, h1, h2⟩ := Option.map_eq_some_iff.mp hl
    subst h2
    rw [wEs] at h ⊢
    exact wE_le e h (fun _ _ q => wEs_le r (wEs_len r h1 q) (fun _ _ q => ⟨by rw [List.length_cons, q.1], q.2⟩) fun _ _ z => z) fun _ _ z => z
  | .star _ _, _, _, _, _, _, e, _ => by cases e
mutual
/-- targets that are names and tuples of names -/
def Tg.plain : Tg → Bool
  | .nm _ => true
  | .tp l => Tgs.plain l
  | .sub _ _ => false
def Tgs.plain : Tgs → Bool
  | .nil => true
  | .cons t r => Tg.plain t && Tgs.plain r
end
mutual
/-- the slots that are stored -/
def Tg.slots : Tg → List Nat
  | .nm i => [i]
  | .tp l => Tgs.slots l
  | .sub _ _ => []
def Tgs.slots : Tgs → List Nat
  | .nil => []
  | .cons t r => Tg.slots t ++ Tgs.slots r
end
mutual
theorem Tg.strict : ∀ (t : Tg) {d : D} {ρ : Env} {S : Store} {N : Env → Store → Prop} {X : K1}, t.plain = true → wTg G ns t d ρ S N X → ∃ ρ' S', N ρ' S'
  | .nm i, _, _, _, _, _, _, h => by rw [wTg] at h; exact ⟨_, _, h⟩
  | .tp l, _, _, _, _, _, p, h => by
    rw [wTg] at h
    obtain ⟨m, _, h⟩ := h
    exact Tgs.strict l (by rw [Tg.plain] at p; exact p) h
  | .sub _ _, _, _, _, _, _, p, _ => by rw [Tg.plain] at p; cases p
theorem Tgs.strict : ∀ (t : Tgs) {d : List D} {ρ : Env} {S : Store} {N : Env → Store → Prop} {X : K1}, t.plain = true → wTgs G ns t d ρ S N X → ∃ ρ' S', N ρ' S'
  | .nil, _, _, _, _, _, _, h => by rw [wTgs] at h; exact ⟨_, _, h.2⟩
  | .cons t r, _, _, _, _, _, p, h => by
    rw [wTgs] at h
    rw [Tgs.plain, Bool.and_eq_true] at p
    obtain ⟨d, m, _, h⟩ := h
    obtain ⟨_, _, h⟩ := Tg.strict t p.1 h
    exact Tgs.strict r p.2 h
end
def Tgs.num : Tgs → Nat
  | .nil => 0
  | .cons _ r => r.num + 1
theorem Tgs.count : ∀ (t : Tgs) {d : List D} {ρ : Env} {S : Store} {N : Env → Store → Prop} {X : K1}, t.plain = true → wTgs G ns t d ρ S N X → d.length = t.num
  | .nil, _, _, _, _, _, _, h => by rw [wTgs] at h; rw [h.1]; rfl
  | .cons t r, _, _, _, _, _, p, h => by
    rw [wTgs] at h
    rw [Tgs.plain, Bool.and_eq_true] at p
    obtain ⟨d, m, e, h⟩ := h
    obtain ⟨_, _, h⟩ := Tg.strict t p.1 h
    rw [e, List.length_cons, Tgs.count r p.2 h]
    rfl
end
end Lf

set_option Elab.async false
set_option linter.all false
set_option maxRecDepth 100000
set_option maxHeartbeats 4000000
/-! Lf16: from the text to the small language: expressions. -/
namespace Lf
open PySem L2
/-- what the text's names are: their slots, the scope, which cells may be stored -/
structure Cc where
  N : List Str
  sc : Scope
  fnb : Str → Bool
def Cc.ix (c : Cc) (x : Str) : Option Nat := c.N.findIdx? fun y => decide (y = x)
def Cc.vis (c : Cc) (x : Str) : Bool := match c.sc.names.lookup x with
  | some .local => true
  | some .cell => true
  | some .free => true
  | _ => false
def Cc.sto (c : Cc) (x : Str) : Bool := match c.sc.names.lookup x with
  | some .local => true
  | some .cell => c.fnb x
  | _ => false
def Cc.glob (c : Cc) (x : Str) : Bool := (match c.sc.names.lookup x with
  | some .globalImplicit => true
  | _ => false) && !(x == ("__debug__" : Str))
def Cc.blk (c : Cc) (sc : Scope) : Cc := ⟨c.N, relS sc c.sc, fun x => sc.names.lookup x == some .cell⟩
def Cc.own (c : Cc) (sc : Scope) : List (Str × Nat) := sc.names.filterMap fun y => match y.2 with
  | .local => (c.ix y.1).map fun i => (y.1, i)
  | .cell => (c.ix y.1).map fun i => (y.1, i)
  | _ => none
structure Fit (c : Cc) (X : Cx) : Prop where
  eN : X.N = c.N
  eS : X.env.scope = c.sc
  eF : ∀ x, c.fnb x = true → X.fn x = true
theorem Fit.blk {c : Cc} {X : Cx} (F : Fit c X) (sc : Scope) : AllB X sc fun Y => Fit (c.blk sc) Y := fun s H C cl fp => ⟨F.eN, by
  show relS sc X.env.scope = relS sc c.sc
  rw [F.eS], fun x h => h⟩
theorem Fit.ix {c : Cc} {X : Cx} (F : Fit c X) {x : Str} {i : Nat} (h : c.ix x = some i) : X.N[i]? = some x := by
  rw [F.eN]
  unfold Cc.ix at h
  obtain ⟨h1, h2, _⟩ := List.findIdx?_eq_some_iff_getElem.mp h
  rw [List.getElem?_eq_getElem h1]
  rw [of_decide_eq_true h2]
theorem Fit.vis {c : Cc} {X : Cx} (F : Fit c X) {x : Str} (h : c.vis x = true) : Vis X.env.scope x := by
  unfold Cc.vis at h
  unfold Vis
  rw [F.eS]
  split at h <;> simp_all
theorem Fit.sto {c : Cc} {X : Cx} (F : Fit c X) {x : Str} (h : c.sto x = true) : L2.Loc X.env.scope x ∧ (X.fn x = true ∨ X.env.scope.names.lookup x = some .local) := by
  unfold Cc.sto at h
  unfold L2.Loc
  rw [F.eS]
  split at h
  · rename_i e; exact ⟨.inl e, .inr e⟩
  · rename_i e; exact ⟨.inr e, .inl (F.eF x h)⟩
  · cases h
theorem Fit.glob {c : Cc} {X : Cx} (F : Fit c X) {x : Str} (h : c.glob x = true) : Gl X x ∧ (x == ("__debug__" : Str)) = false := by
  unfold Cc.glob at h
  rw [Bool.and_eq_true, Bool.not_eq_true'] at h
  refine ⟨?_, h.2⟩
  show X.env.scope.names.lookup x = some .globalImplicit
  rw [F.eS]
  obtain ⟨h, _⟩ := h
  split at h
  · assumption
  · cases h
/-- an expression whose test is not told -/
def isIf : Expr → Bool
  | .IfExp _ _ _ _ => true
  | _ => false
abbrev FE := Cc → Expr → Option E
/-- arguments, the parts of a display -/
def cEs (f : FE) (c : Cc) : List Expr → Option Es
  | [] => some .nil
  | .Starred e _ :: r => match f c e, cEs f c r with
    | some a, some b => some (.star a b)
    | _, _ => none
  | e :: r => if isStar e then none else match f c e, cEs f c r with
    | some a, some b => some (.cons a b)
    | _, _ => none
def cO (f : FE) (c : Cc) : Option Expr → Option Oe
  | none => some .no
  | some e => (f c e).map .yes
/-- the values of keywords -/
def cKs (f : FE) (c : Cc) : List Keyword → Option Es
  | [] => some .nil
  | ⟨_, e, _⟩ :: r => match f c e, cKs f c r with
    | some a, some b => some (.cons a b)
    | _, _ => none
/-- what a loop walks -/
def cIt (pr : Prog) (f : FE) (c : Cc) : Expr → Option It
  | .Call (.Name x _) [a] [] _ => if x == ("range" : Str) then (if decide (("range" : Str) ∈ pr.bn) && c.glob x && !isStar a then (f c a).map .rng else none) else none
  | .Call (.Name x _) [a, b] [] _ => if x == ("range" : Str) && decide (("range" : Str) ∈ pr.bn) && c.glob x && !isStar a && !isStar b then (match f c a, f c b with
      | some p, some q => some (.rng2 p q)
      | _, _ => none) else none
  | e => if isCall e || isSet e then none else (f c e).map .seq
/-- .. or a call of a def -/
def cItC (pr : Prog) (f : FE) (c : Cc) (e : Expr) : Option It := match cIt pr f c e with
  | some i => some i
  | none => if isSet e then none else (f c e).map .seq
mutual
/-- what is stored into -/
def cG (f : FE) (c : Cc) : Expr → Option Tg
  | .Name x _ => if c.sto x then (c.ix x).map .nm else none
  | .Tuple es _ _ => (match cGs f c es with
    | some l => if l.plain then some (.tp l) else none
    | none => none)
  | .Subscript o i _ => if isSlice i then none else match f c o, f c i with
    | some a, some b => some (.sub a b)
    | _, _ => none
  | _ => none
def cGs (f : FE) (c : Cc) : List Expr → Option Tgs
  | [] => some .nil
  | t :: r => match cG f c t, cGs f c r with
    | some a, some b => some (.cons a b)
    | _, _ => none
end
/-- one test or none -/
def cC (f : FE) (c : Cc) : List Expr → Option Oe
  | [] => some .no
  | [e] => if isIf e then none else (f c e).map .yes
  | _ => none
/-- the built-in functions told by name -/
def biOf (x : Str) : Option Bi :=
  if x == ("len" : Str) then some .len else if x == ("sorted" : Str) then some .sorted else if x == ("repr" : Str) then some .repr else if x == ("list" : Str) then some .lst else
  if x == ("tuple" : Str) then some .tup else if x == ("str" : Str) then some .toStr else if x == ("int" : Str) then some .toInt else if x == ("dict" : Str) then some .dict else none
/-- calls of names -/
def cCall (pr : Prog) (f : FE) (c : Cc) (x : Str) (as : List Expr) (ks : List Keyword) : Option E :=
  if c.glob x then match pr.fn.findIdx? (fun y => decide (y = x)) with
    | some i => match ks with
      | [] => (match as with
        | [] => some (.call i .nil)
        | [.Starred e _] => (f c e).map fun a => .call i (.star a .nil)
        | e :: r => if isStar e then none else (cEs f c (e :: r)).map (.call i))
      | k :: r => (match as with
        | [] => (match kwNames (k :: r) with
          | some ns => if decide ((0, ns) ∈ pr.pat i) then (cKs f c (k :: r)).map (.call i) else none
          | none => none)
        | _ => none)
    | none => match ks, as with
      | [], [a] => if decide (x ∈ pr.bn) && !isStar a then (match biOf x with
        | some b => (f c a).map fun p => .bi b (.cons p .nil)
        | none => none) else none
      | _, _ => none
  else none
/-- calls of methods of built-in types -/
def cMeth (f : FE) (c : Cc) (o : Expr) (m : Str) (apos : Pos) (as : List Expr) (pos : Pos) : Option E :=
  if isCall o || !(apos.endLine == pos.line) then none else match f c o, as with
  | some a, [] => if m == ("pop" : Str) then some (.me .pop a .nil) else none
  | some a, [e] => if isStar e then none else (match f c e with
    | some b => if m == ("append" : Str) then some (.me .append a (.cons b .nil)) else if m == ("pop" : Str) then some (.me .popAt a (.cons b .nil)) else if m == ("split" : Str) then some (.me .split a (.cons b .nil)) else none
    | none => none)
  | _, _ => none
def cSub (f : FE) (c : Cc) (a : Expr) : Expr → Option E
  | .Slice lo hi none _ => match f c a, cO f c lo, cO f c hi with
    | some x, some l, some h => some (.sl x l h)
    | _, _, _ => none
  | .Slice none none (some (.UnaryOp .USub (.Constant (.int i) _ _) _)) _ => if i = 1 then (f c a).map .rev else none
  | i => if isSlice i then none else match f c a, f c i with
    | some x, some y => some (.ix x y)
    | _, _ => none
/-- one clause of a comprehension -/
structure Cl where
  own : List (Str × Nat)
  it : It
  tg : Tg
  c : Oe
def cCl (pr : Prog) (f : FE) (c : Cc) (sc : Scope) : List Comprehension → Option Cl
  | [⟨tg, iter, ifs, a⟩] => if a = 0 then (if blkC c.N c.sc sc (c.own sc) && !isSet iter then (match cItC pr f c iter, cG f (c.blk sc) tg, cC f (c.blk sc) ifs with
    | some i, some t, some o => if t.slots.all fun j => ((c.own sc).map (·.2)).contains j then some ⟨c.own sc, i, t, o⟩ else none
    | _, _, _ => none) else none) else none
  | _ => none
def stepE (pr : Prog) (f : FE) (c : Cc) : Expr → Option E
  | .Name x _ => if c.vis x && !(x == ("__debug__" : Str)) && !(x == ("__classdict__" : Str)) then (c.ix x).map .var else none
  | .Constant k _ _ => (match k with
    | .none => some (.con .non)
    | .bool b => some (.con (.bl b))
    | .int i => some (.con (.int i))
    | .str s => some (.con (.str s))
    | _ => none)
  | .Tuple es _ _ => (cEs f c es).map .tup
  | .List es _ => (cEs f c es).map .lst
  | .Dict ks vs _ => (match ks, vs with
    | [], [] => some .dnew
    | _, _ => none)
  | .BinOp a o b _ => if okBin o then (match f c a, f c b with
    | some x, some y => some (.bin o x y)
    | _, _ => none) else none
  | .UnaryOp o a _ => (match o with
    | .USub => (f c a).map .neg
    | .Not => if isIf a then none else (f c a).map .not
    | _ => none)
  | .Compare a os bs _ => (match os, bs with
    | [o], [b] => if behindInMarks o b then none else (match f c a, f c b with
      | some x, some y => some (.cmp o x y)
      | _, _ => none)
    | [o, o'], [b, d] => if behindInMarks o' d then none else (match f c a, f c b, f c d with
      | some x, some y, some z => some (.cmp2 o o' x y z)
      | _, _, _ => none)
    | _, _ => none)
  | .BoolOp o vs p => (match vs with
    | [a] => if isIf a then none else f c a
    | a :: b :: r => if isIf a then none else (match f c a, f c (.BoolOp o (b :: r) p) with
      | some x, some y => some (match o with
        | .And => .and x y
        | .Or => .or x y)
      | _, _ => none)
    | [] => none)
  | .IfExp t a b _ => if isIf t then none else (match f c t, f c a, f c b with
    | some x, some y, some z => some (.ife x y z)
    | _, _, _ => none)
  | .Call g as ks pos => (match g with
    | .Name x _ => cCall pr f c x as ks
    | .Attribute o m apos => (match ks with
      | [] => cMeth f c o m apos as pos
      | _ => none)
    | _ => none)
  | .Subscript a i _ => cSub f c a i
  | .ListComp e gs sc _ => (match cCl pr f c sc gs, f (c.blk sc) e with
    | some l, some a => some (.lc (l.own.map (·.2)) l.it l.tg l.c a)
    | _, _ => none)
  | .DictComp k v gs sc _ => (match cCl pr f c sc gs, f (c.blk sc) k, f (c.blk sc) v with
    | some l, some a, some b => (match l.c with
      | .no => some (.dc (l.own.map (·.2)) l.it l.tg .no a b)
      | .yes _ => none)
    | _, _, _ => none)
  | _ => none
def cE (pr : Prog) : Nat → FE
  | 0 => fun _ _ => none
  | n + 1 => stepE pr (cE pr n)
end Lf

set_option Elab.async false
set_option linter.all false
set_option maxRecDepth 100000
set_option maxHeartbeats 4000000
/-! Lf17: the small language tells what the text does: expressions. -/
namespace Lf
open PySem L2
section
variable {g : Wd} {pr : Prog} {X : Cx} {f : FE} {c : Cc}
abbrev rdE (pr : Prog) (g : Wd) (e : E) : Env → Store → K1 → Prop := fun ρ S Q => wE pr.G g.ns e ρ S Q never
abbrev rdA (pr : Prog) (g : Wd) (e : Es) : FA := fun ρ S Q => wEs pr.G g.ns e ρ S Q never
abbrev rdO (pr : Prog) (g : Wd) (e : Oe) : FO := fun ρ S Q => wO pr.G g.ns e ρ S Q never
abbrev rdC (pr : Prog) (g : Wd) (e : Oe) : FC := fun ρ S Q => wC pr.G g.ns e ρ S Q never
abbrev rdI (pr : Prog) (g : Wd) (e : It) : FI := fun ρ S Q => wIt pr.G g.ns e ρ S Q never
abbrev rdG (pr : Prog) (g : Wd) (t : Tg) : FG := fun d ρ S N => wTg pr.G g.ns t d ρ S N never
abbrev rdGs (pr : Prog) (g : Wd) (t : Tgs) : FGs := fun d ρ S N => wTgs pr.G g.ns t d ρ S N never
/-- what f makes tells what the text does -/
def Ok (g : Wd) (pr : Prog) (f : FE) : Prop := ∀ (c : Cc) (e : Expr) (i : E) (X : Cx), f c e = some i → Fit c X → Calls g pr X → PE X e (tD g (rdE pr g i)) ∧ (isIf e = false → PT X e (tDT g (rdE pr g i)))
theorem _root_.L2.PE.of {e : Expr} {p q : Env → Store → K1 → Prop} (h : PE X e (tD g p)) (k : ∀ ρ S Q, q ρ S Q → p ρ S Q) : PE X e (tD g q) := PE.imp h fun σ H Q ⟨ρ, S, mu, Qd, re, r, h, kk⟩ => ⟨ρ, S, mu, Qd, re, r, k _ _ _ h, kk⟩
theorem _root_.L2.PT.of {e : Expr} {p q : Env → Store → K1 → Prop} (h : PT X e (tDT g p)) (k : ∀ ρ S Q, q ρ S Q → p ρ S Q) : PT X e (tDT g q) := PT.imp h fun σ H Q ⟨ρ, S, mu, Qd, re, r, h, kk⟩ => ⟨ρ, S, mu, Qd, re, r, k _ _ _ h, kk⟩
theorem _root_.L2.PA.of {e : List Expr} {p q : FA} (h : PA X e (tDA g p)) (k : ∀ ρ S Q, q ρ S Q → p ρ S Q) : PA X e (tDA g q) := PA.imp h fun σ H Q ⟨ρ, S, mu, Qd, re, r, h, kk⟩ => ⟨ρ, S, mu, Qd, re, r, k _ _ _ h, kk⟩
theorem _root_.L2.PK.of {e : List Keyword} {p q : FA} (h : PK X e (tDA g p)) (k : ∀ ρ S Q, q ρ S Q → p ρ S Q) : PK X e (tDA g q) := ⟨fun pos pins s σ H Q I ⟨ρ, S, mu, Qd, re, r, h', kk⟩ => h.run pos pins s σ H Q I ⟨ρ, S, mu, Qd, re, r, k _ _ _ h', kk⟩⟩
theorem _root_.L2.PO.of {e : Option Expr} {p q : FO} (h : PO X e (tDO g p)) (k : ∀ ρ S Q, q ρ S Q → p ρ S Q) : PO X e (tDO g q) := PO.imp h fun σ H Q ⟨ρ, S, mu, Qd, re, r, h, kk⟩ => ⟨ρ, S, mu, Qd, re, r, k _ _ _ h, kk⟩
theorem _root_.L2.PTs.of {e : List Expr} {p q : FC} (h : PTs X e (tDC g p)) (k : ∀ ρ S Q, q ρ S Q → p ρ S Q) : PTs X e (tDC g q) := PTs.imp h fun σ H Q ⟨ρ, S, mu, Qd, re, r, h, kk⟩ => ⟨ρ, S, mu, Qd, re, r, k _ _ _ h, kk⟩
theorem _root_.L2.PI.of {t e : Expr} {p q : FI} (h : PI X t e (tDI g p)) (k : ∀ ρ S Q, q ρ S Q → p ρ S Q) : PI X t e (tDI g q) := PI.imp h fun σ H Q ⟨ρ, S, mu, Qd, re, r, h, kk⟩ => ⟨ρ, S, mu, Qd, re, r, k _ _ _ h, kk⟩
theorem _root_.L2.PG.of {own : List Nat} {e : Expr} {p q : FG} (h : PG X e (tDG g own p)) (k : ∀ d ρ S Q, q d ρ S Q → p d ρ S Q) : PG X e (tDG g own q) := PG.imp h fun v σ H Q ⟨d, ρ, S, mu, Qd, rv, re, r, h, kk⟩ => ⟨d, ρ, S, mu, Qd, rv, re, r, k _ _ _ _ h, kk⟩
theorem _root_.L2.PGs.of {own : List Nat} {e : List Expr} {p q : FGs} (h : PGs X e (tDGs g own p)) (k : ∀ d ρ S Q, q d ρ S Q → p d ρ S Q) : PGs X e (tDGs g own q) := PGs.imp h fun v σ H Q ⟨d, ρ, S, mu, Qd, rv, re, r, h, kk⟩ => ⟨d, ρ, S, mu, Qd, rv, re, r, k _ _ _ _ h, kk⟩
theorem _root_.L2.PT.pw {o : BoolOp} {vs : List Expr} {pos : Pos} {t : TT} (h : PT X (.BoolOp o vs pos) t) : PW X (.BoolOp o vs pos) t := ⟨fun wh pins s σ H Q I w => by
  have z := h.run pins s σ H Q I w
  have e : ∀ a b, isTrue (.BoolOp o vs pos) X.env a = isTrue (.BoolOp o vs pos) X.env b := fun a b => rfl
  rw [e wh]
  exact z⟩
/-- both readings of an expression whose test is the truth of its value -/
theorem both {e : Expr} {p : Env → Store → K1 → Prop} (h : PE X e (tD g p)) (ht : plainTest e = true) : PE X e (tD g p) ∧ (isIf e = false → PT X e (tDT g p)) := ⟨h, fun _ => st_val h (plain_test ht)⟩
section
variable (K : Ok g pr f) (F : Fit c X) (C : Calls g pr X)
include K F C
theorem ok_es : ∀ (es : List Expr) (a : Es), cEs f c es = some a → PA X es (tDA g (rdA pr g a))
  | [], a, h => by
    cases h
    exact sa_nil.of fun ρ S Q h => by have h : wEs pr.G g.ns _ ρ S Q never := h; rw [wEs] at h; exact h
  | e :: r, a, h => by
    by_cases hs : isStar e = true
    · cases e <;> first | (simp [isStar] at hs; done) | skip
      rename_i e p
      rw [cEs] at h
      split at h
      · rename_i x y h1 h2
        cases h
        exact (sa_star C.good (K c e x X h1 F C).1 (ok_es r y h2)).of fun ρ S Q h => by have h : wEs pr.G g.ns _ ρ S Q never := h; rw [wEs] at h; exact h
      · cases h
    · have hs' : isStar e = false := by simpa using hs
      rw [cEs.eq_3 f c e r (by rintro e' p rfl; simp [isStar] at hs')] at h
      rw [hs'] at h
      simp only [Bool.false_eq_true, if_false] at h
      split at h
      · rename_i x y h1 h2
        cases h
        exact (sa_cons hs' (K c e x X h1 F C).1 (ok_es r y h2)).of fun ρ S Q h => by have h : wEs pr.G g.ns _ ρ S Q never := h; rw [wEs] at h; exact h
      · cases h
theorem ok_ks : ∀ (ks : List Keyword) (a : Es), cKs f c ks = some a → PK X ks (tDA g (rdA pr g a)) ∧ a.len = some ks.length
  | [], a, h => by
    cases h
    exact ⟨sk_nil.of fun ρ S Q h => by have h : wEs pr.G g.ns _ ρ S Q never := h; rw [wEs] at h; exact h, rfl⟩
  | ⟨nm, e, p⟩ :: r, a, h => by
    rw [cKs] at h
    split at h
    · rename_i x y h1 h2
      cases h
      obtain ⟨q1, q2⟩ := ok_ks r y h2
      exact ⟨(sk_cons (K c e x X h1 F C).1 q1).of fun ρ S Q h => by have h : wEs pr.G g.ns _ ρ S Q never := h; rw [wEs] at h; exact h, by rw [Es.len, q2]; rfl⟩
    · cases h
theorem ok_o : ∀ (e : Option Expr) (a : Oe), cO f c e = some a → PO X e (tDO g (rdO pr g a))
  | none, a, h => by
    cases h
    exact so_no.of fun ρ S Q h => by have h : wO pr.G g.ns _ ρ S Q never := h; rw [wO] at h; exact h
  | some e, a, h => by
    rw [cO] at h
    obtain ⟨x, h1, h2⟩ := Option.map_eq_some_iff.mp h
    subst h2
    exact (so_yes (K c e x X h1 F C).1).of fun ρ S Q h => by have h : wO pr.G g.ns _ ρ S Q never := h; rw [wO] at h; exact h
theorem ok_c : ∀ (e : List Expr) (a : Oe), cC f c e = some a → PTs X e (tDC g (rdC pr g a))
  | [], a, h => by
    cases h
    exact sc_no.of fun ρ S Q h => by have h : wC pr.G g.ns _ ρ S Q never := h; rw [wC] at h; exact h
  | [e], a, h => by
    rw [cC] at h
    split at h
    · cases h
    · rename_i hi
      obtain ⟨x, h1, h2⟩ := Option.map_eq_some_iff.mp h
      subst h2
      exact (sc_yes ((K c e x X h1 F C).2 (by simpa using hi))).of fun ρ S Q h => by have h : wC pr.G g.ns _ ρ S Q never := h; rw [wC] at h; exact h
  | _ :: _ :: _, a, h => by simp [cC] at h
theorem ok_seq {t e : Expr} {i : It} (h : (f c e).map It.seq = some i) : PI X t e (tDI g (rdI pr g i)) := by
  obtain ⟨x, h1, h2⟩ := Option.map_eq_some_iff.mp h
  subst h2
  exact (si_seq C.good (K c e x X h1 F C).1).of fun ρ S Q h => by have h : wIt pr.G g.ns _ ρ S Q never := h; rw [wIt] at h; exact h
theorem ok_it {t e : Expr} {i : It} (h : cIt pr f c e = some i) : PI X t e (tDI g (rdI pr g i)) := by
  unfold cIt at h
  split at h
  · split at h
    · rename_i hx
      split at h
      · rename_i hc
        simp only [Bool.and_eq_true, Bool.not_eq_true', decide_eq_true_eq] at hc
        obtain ⟨x', h1, h2⟩ := Option.map_eq_some_iff.mp h
        subst h2
        have hx' := eq_of_beq hx
        subst hx'
        exact (si_rng C hc.1.1 (F.glob hc.1.2).1 hc.2 (K c _ x' X h1 F C).1).of fun ρ S Q h => by have h : wIt pr.G g.ns _ ρ S Q never := h; rw [wIt] at h; exact h
      · cases h
    · cases h
  · split at h
    · rename_i hc
      simp only [Bool.and_eq_true, Bool.not_eq_true', decide_eq_true_eq] at hc
      split at h
      · rename_i p q h1 h2
        cases h
        have hx' := eq_of_beq hc.1.1.1.1
        subst hx'
        exact (si_rng2 C hc.1.1.1.2 (F.glob hc.1.1.2).1 hc.1.2 hc.2 (K c _ p X h1 F C).1 (K c _ q X h2 F C).1).of fun ρ S Q h => by have h : wIt pr.G g.ns _ ρ S Q never := h; rw [wIt] at h; exact h
      · cases h
    · cases h
  · split at h
    · cases h
    · exact ok_seq K F C h
theorem ok_itC {t e : Expr} {i : It} (h : cItC pr f c e = some i) : PI X t e (tDI g (rdI pr g i)) := by
  unfold cItC at h
  split at h
  · rename_i j hj
    cases h
    exact ok_it K F C hj
  · split at h
    · cases h
    · exact ok_seq K F C h
end
end
end Lf

set_option Elab.async false
set_option linter.all false
set_option maxRecDepth 100000
set_option maxHeartbeats 4000000
/-! Lf18: the small language tells what the text does: targets, calls, all expressions. -/
namespace Lf
open PySem L2
section
variable {g : Wd} {pr : Prog} {X : Cx} {f : FE} {c : Cc}
theorem cG_star {e : Expr} {t : Tg} (h : cG f c e = some t) : isStar e = false := by
  cases e <;> first | rfl | (simp [cG] at h; done)
theorem cGs_star : ∀ {es : List Expr} {l : Tgs}, cGs f c es = some l → es.any isStar = false ∧ l.num = es.length
  | [], l, h => by rw [cGs] at h; cases h; exact ⟨rfl, rfl⟩
  | e :: r, l, h => by
    rw [cGs] at h
    split at h
    · rename_i a b h1 h2
      cases h
      obtain ⟨q1, q2⟩ := cGs_star h2
      exact ⟨by rw [List.any_cons, cG_star h1, q1]; rfl, by rw [Tgs.num, q2]; rfl⟩
    · cases h
section
variable (K : Ok g pr f) (F : Fit c X) (C : Calls g pr X)
include K F C
mutual
theorem ok_g {own : List Nat} : ∀ (e : Expr) (t : Tg), cG f c e = some t → (∀ i ∈ t.slots, i ∈ own) → PG X e (tDG g own (rdG pr g t))
  | .Name x p, t, h, ho => by
    rw [cG] at h
    split at h
    · rename_i hs
      obtain ⟨i, h1, h2⟩ := Option.map_eq_some_iff.mp h
      subst h2
      obtain ⟨s1, s2⟩ := F.sto hs
      exact (sg_nm (g := g) (ho i (by rw [Tg.slots]; simp)) C.good.nd (F.ix h1) s1 s2).of fun d ρ S Q h => by have h : wTg pr.G g.ns _ d ρ S Q never := h; rw [wTg] at h; exact h
    · cases h
  | .Tuple es kk p, t, h, ho => by
    rw [cG] at h
    split at h
    · rename_i l hl
      split at h
      · rename_i hp
        cases h
        obtain ⟨q1, q2⟩ := cGs_star hl
        have ih := ok_gs es l hl (fun i hi => ho i (by rw [Tg.slots]; exact hi))
        exact (sg_tp C.good q1 (fun m ρ S N hm => by rw [Tgs.count l hp hm, q2]) ih).of fun d ρ S Q h => by have h : wTg pr.G g.ns _ d ρ S Q never := h; rw [wTg] at h; exact h
      · cases h
    · cases h
  | .Subscript o i p, t, h, ho => by
    rw [cG] at h
    split at h
    · cases h
    · rename_i hs
      split at h
      · rename_i a b h1 h2
        cases h
        exact (sg_sb C.good (K c o a X h1 F C).1 (K c i b X h2 F C).1 (by simpa using hs)).of fun d ρ S Q h => by have h : wTg pr.G g.ns _ d ρ S Q never := h; rw [wTg] at h; exact h
      · cases h
  | .BoolOp .., t, h, _ | .NamedExpr .., t, h, _ | .BinOp .., t, h, _ | .UnaryOp .., t, h, _ | .Lambda .., t, h, _ | .IfExp .., t, h, _ | .Dict .., t, h, _ | .Set .., t, h, _ | .ListComp .., t, h, _ | .SetComp .., t, h, _ | .DictComp .., t, h, _
  | .GeneratorExp .., t, h, _ | .Await .., t, h, _ | .Yield .., t, h, _ | .YieldFrom .., t, h, _ | .Compare .., t, h, _ | .Call .., t, h, _ | .FormattedValue .., t, h, _ | .JoinedStr .., t, h, _ | .Constant .., t, h, _ | .Attribute .., t, h, _
  | .Starred .., t, h, _ | .List .., t, h, _ | .Slice .., t, h, _ => by simp [cG] at h
theorem ok_gs {own : List Nat} : ∀ (es : List Expr) (t : Tgs), cGs f c es = some t → (∀ i ∈ t.slots, i ∈ own) → PGs X es (tDGs g own (rdGs pr g t))
  | [], t, h, ho => by
    rw [cGs] at h
    cases h
    exact (sg_nil (g := g)).of fun d ρ S Q h => by have h : wTgs pr.G g.ns _ d ρ S Q never := h; rw [wTgs] at h; exact h
  | e :: r, t, h, ho => by
    rw [cGs] at h
    split at h
    · rename_i a b h1 h2
      cases h
      rw [Tgs.slots] at ho
      exact (sg_cons (cG_star h1) (ok_g e a h1 fun i hi => ho i (List.mem_append_left _ hi)) (ok_gs r b h2 fun i hi => ho i (List.mem_append_right _ hi))).of fun d ρ S Q h => by have h : wTgs pr.G g.ns _ d ρ S Q never := h; rw [wTgs] at h; exact h
    · cases h
end
theorem ok_call {x : Str} {as : List Expr} {ks : List Keyword} {p pos : Pos} {i : E} (h : cCall pr f c x as ks = some i) : PE X (.Call (.Name x p) as ks pos) (tD g (rdE pr g i)) := by
  unfold cCall at h
  split at h
  · rename_i hgl
    obtain ⟨hG, hdb⟩ := F.glob hgl
    split at h
    · rename_i j hj
      have hf : pr.fn[j]? = some x := by
        obtain ⟨h1, h2, _⟩ := List.findIdx?_eq_some_iff_getElem.mp hj
        rw [List.getElem?_eq_getElem h1, of_decide_eq_true h2]
      split at h
      · split at h
        · cases h
          exact (se_call0 C hf hG hdb).of fun ρ S Q h => by have h : wE pr.G g.ns _ ρ S Q never := h; rw [wE, wEs] at h; exact h
        · obtain ⟨a, h1, h2⟩ := Option.map_eq_some_iff.mp h
          subst h2
          exact (se_call1 C hf hG hdb (K c _ a X h1 F C).1).of fun ρ S Q h => by
            have h : wE pr.G g.ns _ ρ S Q never := h
            rw [wE, wEs] at h
            refine wE_le a h (fun d s q => ?_) fun _ _ z => z
            obtain ⟨l, h1, h2⟩ := q
            rw [wEs] at h2
            exact ⟨l, h1, h2⟩
        · rename_i e r _
          split at h
          · cases h
          · rename_i hs
            obtain ⟨a, h1, h2⟩ := Option.map_eq_some_iff.mp h
            subst h2
            exact (se_call C hf hG hdb (by simpa using hs) (ok_es K F C _ a h1)).of fun ρ S Q h => by have h : wE pr.G g.ns _ ρ S Q never := h; rw [wE] at h; exact h
      · rename_i k r
        split at h
        · split at h
          · rename_i ns hn
            split at h
            · rename_i hp
              obtain ⟨a, h1, h2⟩ := Option.map_eq_some_iff.mp h
              subst h2
              obtain ⟨q1, q2⟩ := ok_ks K F C _ a h1
              have hl : (k :: r).length = ns.length := kw_len (env := X.env) (pos := pos) hn
              exact (se_callk0 (fk := rdA pr g a) C hf hG hdb hn (of_decide_eq_true hp) (fun ρ S Q h => wEs_len a (q2.trans (congrArg some hl)) h) q1).of fun ρ S Q h => by have h : wE pr.G g.ns _ ρ S Q never := h; rw [wE] at h; exact h
            · cases h
          · cases h
        · cases h
    · split at h
      · split at h
        · rename_i hc
          rw [Bool.and_eq_true, Bool.not_eq_true'] at hc
          obtain ⟨hb, hs⟩ := hc
          have hb := of_decide_eq_true hb
          split at h
          · rename_i b hbi
            obtain ⟨a, h1, h2⟩ := Option.map_eq_some_iff.mp h
            subst h2
            have ka := (K c _ a X h1 F C).1
            have done : ∀ {n : Bi} {e : Expr}, PE X e (tD g fun ρ S Q => fCons (rdE pr g a) fNil ρ S fun l S' => wBi n l S' Q) → PE X e (tD g (rdE pr g (.bi n (.cons a .nil)))) := fun hh => hh.of fun ρ S Q h => by
              have h : wE pr.G g.ns _ ρ S Q never := h
              rw [wE, wEs] at h
              refine wE_le a h (fun d s q => ?_) fun _ _ z => z
              rw [wEs] at q
              exact q
            unfold biOf at hbi
            split at hbi
            · rename_i e; cases hbi; have e := eq_of_beq e; subst e; exact done (se_bi1 C .len (by simp) hb hG hs ka)
            split at hbi
            · rename_i e; cases hbi; have e := eq_of_beq e; subst e; exact done (se_bi1 C .sorted (by simp) hb hG hs ka)
            split at hbi
            · rename_i e; cases hbi; have e := eq_of_beq e; subst e; exact done (se_bi1 C .repr (by simp) hb hG hs ka)
            split at hbi
            · rename_i e; cases hbi; have e := eq_of_beq e; subst e; exact done (se_bi1 C .lst (by simp) hb hG hs ka)
            split at hbi
            · rename_i e; cases hbi; have e := eq_of_beq e; subst e; exact done (se_bi1 C .tup (by simp) hb hG hs ka)
            split at hbi
            · rename_i e; cases hbi; have e := eq_of_beq e; subst e; exact done (se_bi1 C .toStr (by simp) hb hG hs ka)
            split at hbi
            · rename_i e; cases hbi; have e := eq_of_beq e; subst e; exact done (se_bi1 C .toInt (by simp) hb hG hs ka)
            split at hbi
            · rename_i e; cases hbi; have e := eq_of_beq e; subst e; exact done (se_dict C hb hG hs ka)
            · cases hbi
          · cases h
        · cases h
      · cases h
  · cases h
theorem ok_meth {o : Expr} {m : Str} {as : List Expr} {apos pos : Pos} {i : E} (h : cMeth f c o m apos as pos = some i) : PE X (.Call (.Attribute o m apos) as [] pos) (tD g (rdE pr g i)) := by
  unfold cMeth at h
  split at h
  · cases h
  · rename_i hc
    simp only [Bool.or_eq_true, Bool.not_eq_true', not_or, Bool.not_eq_true, Bool.not_eq_false] at hc
    obtain ⟨hc1, hc2⟩ := hc
    split at h
    · rename_i a h1
      split at h
      · rename_i e
        cases h
        have e := eq_of_beq e; subst e
        exact (se_pop (K c _ a X h1 F C).1 hc1 hc2).of fun ρ S Q h => by
          have h : wE pr.G g.ns _ ρ S Q never := h
          rw [wE] at h
          refine wE_le a h (fun d s q => ⟨q.1, ?_⟩) fun _ _ z => z
          have q := q.2
          rw [wEs] at q
          exact q
      · cases h
    · rename_i a e h1
      split at h
      · cases h
      · rename_i hs
        have hs : isStar e = false := by simpa using hs
        split at h
        · rename_i b h2
          have ka := (K c _ a X h1 F C).1
          have kb := (K c _ b X h2 F C).1
          have done : ∀ {n : Me} {e : Expr}, PE X e (tD g (fMe n (rdE pr g a) (fCons (rdE pr g b) fNil))) → PE X e (tD g (rdE pr g (.me n a (.cons b .nil)))) := fun hh => hh.of fun ρ S Q h => by
            have h : wE pr.G g.ns _ ρ S Q never := h
            rw [wE] at h
            refine wE_le a h (fun d s q => ⟨q.1, ?_⟩) fun _ _ z => z
            have q := q.2
            rw [wEs] at q
            refine wE_le b q (fun d s q => ?_) fun _ _ z => z
            rw [wEs] at q
            exact q
          split at h
          · rename_i e; cases h; have e := eq_of_beq e; subst e; exact done (se_append ka hc1 hs kb hc2)
          split at h
          · rename_i e; cases h; have e := eq_of_beq e; subst e; exact done (se_popAt ka hc1 hs kb hc2)
          split at h
          · rename_i e; cases h; have e := eq_of_beq e; subst e; exact done (se_split ka hc1 hs kb hc2)
          · cases h
        · cases h
    · cases h
theorem ok_sub {a s : Expr} {pos : Pos} {i : E} (h : cSub f c a s = some i) : PE X (.Subscript a s pos) (tD g (rdE pr g i)) := by
  unfold cSub at h
  split at h
  · split at h
    · rename_i x l u h1 h2 h3
      cases h
      exact (se_sl C.good (K c _ x X h1 F C).1 (ok_o K F C _ l h2) (ok_o K F C _ u h3)).of fun ρ S Q h => by have h : wE pr.G g.ns _ ρ S Q never := h; rw [wE] at h; exact h
    · cases h
  · split at h
    · rename_i e
      subst e
      obtain ⟨x, h1, h2⟩ := Option.map_eq_some_iff.mp h
      subst h2
      exact (se_rev C.good (K c _ x X h1 F C).1).of fun ρ S Q h => by have h : wE pr.G g.ns _ ρ S Q never := h; rw [wE] at h; exact h
    · cases h
  · split at h
    · cases h
    · rename_i hs
      split at h
      · rename_i x y h1 h2
        cases h
        exact (se_ix C.good (K c _ x X h1 F C).1 (K c _ y X h2 F C).1 (by simpa using hs)).of fun ρ S Q h => by have h : wE pr.G g.ns _ ρ S Q never := h; rw [wE] at h; exact h
      · cases h
end
end
end Lf

set_option Elab.async false
set_option linter.all false
set_option maxRecDepth 100000
set_option maxHeartbeats 4000000
/-! Lf19: the small language tells what the text does: all expressions. -/
namespace Lf
open PySem L2
section
variable {g : Wd} {pr : Prog} {X : Cx} {f : FE} {c : Cc}
section
variable (K : Ok g pr f) (F : Fit c X) (C : Calls g pr X)
include K F C
theorem ok_cl {sc : Scope} {gs : List Comprehension} {l : Cl} (h : cCl pr f c sc gs = some l) :
    ∃ tg iter ifs, gs = [⟨tg, iter, ifs, 0⟩] ∧ BlkOk X.N X.env.scope sc l.own ∧ isSet iter = false ∧ PI X tg iter (tDI g (rdI pr g l.it)) ∧
      (AllB X sc fun Y => PG Y tg (tDG g (l.own.map (·.2)) (rdG pr g l.tg))) ∧ (AllB X sc fun Y => PTs Y ifs (tDC g (rdC pr g l.c))) ∧ (ifs = [] ∨ ∃ e, l.c = .yes e) := by
  unfold cCl at h
  split at h
  · rename_i tg iter ifs a
    split at h
    · rename_i ea
      subst ea
      split at h
      · rename_i hb
        rw [Bool.and_eq_true, Bool.not_eq_true'] at hb
        split at h
        · rename_i i t o h1 h2 h3
          split at h
          · rename_i hs
            cases h
            refine ⟨tg, iter, ifs, rfl, by rw [F.eN, F.eS]; exact blkOk_by hb.1, hb.2, ok_itC K F C h1, fun s H C' cl fp => ?_, fun s H C' cl fp => ?_, ?_⟩
            · refine ok_g K (F.blk sc s H C' cl fp) (C.blk sc s H C' cl fp) tg t h2 fun j hj => ?_
              have := List.all_eq_true.mp hs j hj
              exact List.contains_iff_mem.mp this
            · exact ok_c K (F.blk sc s H C' cl fp) (C.blk sc s H C' cl fp) ifs o h3
            · cases ifs with
              | nil => exact .inl rfl
              | cons e r =>
                cases r with
                | nil =>
                  rw [cC] at h3
                  split at h3
                  · cases h3
                  · obtain ⟨x, _, q⟩ := Option.map_eq_some_iff.mp h3
                    exact .inr ⟨x, q.symm⟩
                | cons e2 r => simp [cC] at h3
          · cases h
        · cases h
      · cases h
    · cases h
  · cases h
theorem ok_step : ∀ (e : Expr) (i : E), stepE pr f c e = some i → PE X e (tD g (rdE pr g i)) ∧ (isIf e = false → PT X e (tDT g (rdE pr g i)))
  | .Name x p, i, h => by
    unfold stepE at h; dsimp only at h
    split at h
    · rename_i hc
      simp only [Bool.and_eq_true, Bool.not_eq_true'] at hc
      obtain ⟨j, h1, h2⟩ := Option.map_eq_some_iff.mp h
      subst h2
      exact both ((se_var (F.ix h1) (F.vis hc.1.1) hc.1.2 hc.2).of fun ρ S Q h => by have h : wE pr.G g.ns _ ρ S Q never := h; rw [wE] at h; exact h) rfl
    · cases h
  | .Constant k j p, i, h => by
    unfold stepE at h; dsimp only at h
    have con : ∀ {d : D} {e : Expr}, PE X e (tD g fun _ S Q => Q d S) → PE X e (tD g (rdE pr g (.con d))) := fun hh => hh.of fun ρ S Q h => by have h : wE pr.G g.ns _ ρ S Q never := h; rw [wE] at h; exact h
    split at h
    · cases h; exact both (con (se_con pe_non fun _ _ => .non)) rfl
    · cases h; exact both (con (se_con pe_bl fun _ _ => .bl _)) rfl
    · cases h; exact both (con (se_con pe_int fun _ _ => .int _)) rfl
    · cases h; exact both (con (se_con pe_str fun _ _ => .str _)) rfl
    · cases h
  | .Tuple es kk p, i, h => by
    unfold stepE at h; dsimp only at h
    obtain ⟨a, h1, h2⟩ := Option.map_eq_some_iff.mp h
    subst h2
    exact both ((se_tup (ok_es K F C es a h1)).of fun ρ S Q h => by have h : wE pr.G g.ns _ ρ S Q never := h; rw [wE] at h; exact h) rfl
  | .List es p, i, h => by
    unfold stepE at h; dsimp only at h
    obtain ⟨a, h1, h2⟩ := Option.map_eq_some_iff.mp h
    subst h2
    exact both ((se_lst (ok_es K F C es a h1)).of fun ρ S Q h => by have h : wE pr.G g.ns _ ρ S Q never := h; rw [wE] at h; exact h) rfl
  | .Dict ks vs p, i, h => by
    unfold stepE at h; dsimp only at h
    split at h
    · cases h
      exact both (se_dnew.of fun ρ S Q h => by have h : wE pr.G g.ns _ ρ S Q never := h; rw [wE] at h; exact h) rfl
    · cases h
  | .BinOp a o b p, i, h => by
    unfold stepE at h; dsimp only at h
    split at h
    · rename_i ho
      split at h
      · rename_i x y h1 h2
        cases h
        exact both ((se_bin C.good o ho (K c a x X h1 F C).1 (K c b y X h2 F C).1).of fun ρ S Q h => by have h : wE pr.G g.ns _ ρ S Q never := h; rw [wE] at h; exact h) rfl
      · cases h
    · cases h
  | .UnaryOp o a p, i, h => by
    unfold stepE at h; dsimp only at h
    split at h
    · obtain ⟨x, h1, h2⟩ := Option.map_eq_some_iff.mp h
      subst h2
      exact both ((se_neg (K c a x X h1 F C).1).of fun ρ S Q h => by have h : wE pr.G g.ns _ ρ S Q never := h; rw [wE] at h; exact h) rfl
    · split at h
      · cases h
      · rename_i hi
        obtain ⟨x, h1, h2⟩ := Option.map_eq_some_iff.mp h
        subst h2
        obtain ⟨k1, k2⟩ := K c a x X h1 F C
        exact ⟨(se_not k1).of fun ρ S Q h => by have h : wE pr.G g.ns _ ρ S Q never := h; rw [wE] at h; exact h,
          fun _ => (st_not (k2 (by simpa using hi))).of fun ρ S Q h => by have h : wE pr.G g.ns _ ρ S Q never := h; rw [wE] at h; exact h⟩
    · cases h
  | .Compare a os bs p, i, h => by
    unfold stepE at h; dsimp only at h
    split at h
    · split at h
      · cases h
      · rename_i hm
        split at h
        · rename_i x y h1 h2
          cases h
          have hm := Bool.not_eq_true _ ▸ hm
          have k1 := (K c a x X h1 F C).1
          have k2 := (K c _ y X h2 F C).1
          exact ⟨(se_cmp C.good _ k1 k2 hm).of fun ρ S Q h => by have h : wE pr.G g.ns _ ρ S Q never := h; rw [wE] at h; exact h,
            fun _ => (st_cmp C.good _ k1 k2 hm).of fun ρ S Q h => by have h : wE pr.G g.ns _ ρ S Q never := h; rw [wE] at h; exact h⟩
        · cases h
    · split at h
      · cases h
      · rename_i hm
        split at h
        · rename_i x y z h1 h2 h3
          cases h
          have hm := Bool.not_eq_true _ ▸ hm
          have k1 := (K c a x X h1 F C).1
          have k2 := (K c _ y X h2 F C).1
          have k3 := (K c _ z X h3 F C).1
          exact ⟨(se_chain C.good _ _ k1 k2 k3 hm).of fun ρ S Q h => by have h : wE pr.G g.ns _ ρ S Q never := h; rw [wE] at h; exact h,
            fun _ => (st_chain C.good _ _ k1 k2 k3 hm).of fun ρ S Q h => by have h : wE pr.G g.ns _ ρ S Q never := h; rw [wE] at h; exact h⟩
        · cases h
    · cases h
  | .BoolOp o [] p, i, h => by
    unfold stepE at h; dsimp only at h
    cases h
  | .BoolOp o [a] p, i, h => by
    unfold stepE at h; dsimp only at h
    split at h
    · cases h
    · rename_i hi
      obtain ⟨k1, k2⟩ := K c a i X h F C
      refine ⟨pe_one k1, fun _ => ?_⟩
      have k3 := k2 (by simpa using hi)
      cases o
      · exact (pw_and1 k3).pt
      · exact (pw_or1 k3).pt
  | .BoolOp o (a :: b :: r) p, i, h => by
    unfold stepE at h; dsimp only at h
    split at h
    · cases h
    · rename_i hi
      split at h
      · rename_i x y h1 h2
        cases h
        obtain ⟨k1, k2⟩ := K c a x X h1 F C
        obtain ⟨k3, k4⟩ := K c _ y X h2 F C
        have k2 := k2 (by simpa using hi)
        have k4 := (k4 rfl).pw
        cases o
        · exact ⟨(se_and k1 k3).of fun ρ S Q h => by have h : wE pr.G g.ns _ ρ S Q never := h; rw [wE] at h; exact h,
            fun _ => (sw_and k2 k4).pt.of fun ρ S Q h => by have h : wE pr.G g.ns _ ρ S Q never := h; rw [wE] at h; exact h⟩
        · exact ⟨(se_or k1 k3).of fun ρ S Q h => by have h : wE pr.G g.ns _ ρ S Q never := h; rw [wE] at h; exact h,
            fun _ => (sw_or k2 k4).pt.of fun ρ S Q h => by have h : wE pr.G g.ns _ ρ S Q never := h; rw [wE] at h; exact h⟩
      · cases h
  | .IfExp t a b p, i, h => by
    unfold stepE at h; dsimp only at h
    split at h
    · cases h
    · rename_i hi
      split at h
      · rename_i x y z h1 h2 h3
        cases h
        exact ⟨(se_if ((K c t x X h1 F C).2 (by simpa using hi)) (K c a y X h2 F C).1 (K c b z X h3 F C).1).of fun ρ S Q h => by have h : wE pr.G g.ns _ ρ S Q never := h; rw [wE] at h; exact h,
          fun z => by simp [isIf] at z⟩
      · cases h
  | .Call g' as ks p, i, h => by
    unfold stepE at h; dsimp only at h
    cases g' <;> first
      | exact both (ok_call K F C h) rfl
      | (cases ks <;> first
          | exact both (ok_meth K F C h) rfl
          | (simp at h; done))
      | (simp at h; done)
  | .Subscript a s p, i, h => by
    unfold stepE at h; dsimp only at h
    exact both (ok_sub K F C h) rfl
  | .ListComp e gs sc p, i, h => by
    unfold stepE at h; dsimp only at h
    split at h
    · rename_i l a h1 h2
      cases h
      obtain ⟨tg, iter, ifs, eg, ok, hs, pi, pg, pt, _⟩ := ok_cl K F C h1
      subst eg
      refine both ((se_lc C.good pi ok hs pg pt fun s H C' cl fp => (K _ e a _ h2 (F.blk sc s H C' cl fp) (C.blk sc s H C' cl fp)).1).of fun ρ S Q h => ?_) rfl
      have h : wE pr.G g.ns _ ρ S Q never := h
      rw [wE] at h
      exact h
    · cases h
  | .DictComp k v gs sc p, i, h => by
    unfold stepE at h; dsimp only at h
    split at h
    · rename_i l a b h1 h2 h3
      obtain ⟨tg, iter, ifs, eg, ok, hs, pi, pg, pt, hn⟩ := ok_cl K F C h1
      split at h
      · rename_i hno
        cases h
        rw [hno] at hn
        have hn : ifs = [] := hn.elim id fun ⟨e, z⟩ => by cases z
        subst eg hn
        refine both ((se_dc C.good pi ok hs pg (fun s H C' cl fp => (K _ k a _ h2 (F.blk sc s H C' cl fp) (C.blk sc s H C' cl fp)).1) fun s H C' cl fp => (K _ v b _ h3 (F.blk sc s H C' cl fp) (C.blk sc s H C' cl fp)).1).of fun ρ S Q h => ?_) rfl
        have h : wE pr.G g.ns _ ρ S Q never := h
        rw [wE] at h
        exact h
      · cases h
    · cases h
  | .NamedExpr .., _, h | .Lambda .., _, h | .Set .., _, h | .SetComp .., _, h | .GeneratorExp .., _, h | .Await .., _, h | .Yield .., _, h | .YieldFrom .., _, h | .FormattedValue .., _, h | .JoinedStr .., _, h | .Attribute .., _, h | .Starred .., _, h | .Slice .., _, h => by
    simp [stepE] at h
end
theorem ok_cE : ∀ n, Ok g pr (cE pr n)
  | 0 => fun c e i X h F C => by cases h
  | n + 1 => fun c e i X h F C => ok_step (ok_cE n) F C e i h
end
end Lf

set_option Elab.async false
set_option linter.all false
set_option maxRecDepth 100000
set_option maxHeartbeats 4000000
/-! Lf20: statements. -/
namespace Lf
open PySem L2
def semPure {α : Type} : Sem α → Option α
  | .pure a => some a
  | _ => none
theorem semPure_is {α : Type} {m : Sem α} {a : α} (h : semPure m = some a) : m = pure a := by
  cases m <;> first | (cases h; rfl) | cases h
/-- an environment with the scope sc -/
def envOf (sc : Scope) : PySem.Env := ⟨sc, 0, 0, [], Str.empty, none, .none, none, 0⟩
theorem stores_env {ts : List Expr} {v : Expr} {env env' : PySem.Env} (h : env.scope = env'.scope) : swappedStores ts v env = swappedStores ts v env' := by
  obtain ⟨_, _, _, _, _, _, _, _, _⟩ := env
  obtain ⟨_, _, _, _, _, _, _, _, _⟩ := env'
  simp only at h
  subst h
  rfl
theorem with_env {t : Option Expr} {v : Expr} {l : Nat} {env env' : PySem.Env} (h : env.scope = env'.scope) : swapsWith v t l env = swapsWith v t l env' := by
  obtain ⟨_, _, _, _, _, _, _, _, _⟩ := env
  obtain ⟨_, _, _, _, _, _, _, _, _⟩ := env'
  simp only at h
  subst h
  rfl
def noSwap (c : Cc) (tg e : Expr) : Bool := match semPure (swappedStores [tg] e (envOf c.sc)) with
  | some none => true
  | _ => false
def isLocal (c : Cc) (x : Str) : Bool := match c.sc.names.lookup x with
  | some .local => true
  | _ => false
/-- a comprehension exchanges its store -/
def swC (c : Cc) (tg e : Expr) (line : Nat) : Option Bool := semPure (swapsWith e (some tg) line (envOf c.sc))
def plainAsg (f : FE) (c : Cc) (tg e : Expr) : Option T := if isComp e || !noSwap c tg e then none else match cG f c tg, f c e with
  | some t, some x => some (.asg t x)
  | _, _ => none
def parAsg (f : FE) (c : Cc) (ts vs : List Expr) (tg e : Expr) : Option T := match ts, vs with
  | [.Name x _, .Name y _], [a, b] => (match semPure (swappedStores [tg] e (envOf c.sc)) with
    | some (some [x', y']) => if decide (x' = x) && decide (y' = y) && isLocal c x && isLocal c y then (match c.ix x, c.ix y, cEs f c [a, b] with
      | some i, some j, some l => if i = j then none else some (.par [i, j] l)
      | _, _, _ => none) else none
    | _ => none)
  | [.Name x _, .Name y _, .Name z _], [a, b, d] => (match semPure (swappedStores [tg] e (envOf c.sc)) with
    | some (some [x', y', z']) => if decide (x' = x) && decide (y' = y) && decide (z' = z) && isLocal c x && isLocal c y && isLocal c z then (match c.ix x, c.ix y, c.ix z, cEs f c [a, b, d] with
      | some i, some j, some k, some l => if i = j ∨ i = k ∨ j = k then none else some (.par [i, j, k] l)
      | _, _, _, _ => none) else none
    | _ => none)
  | _, _ => none
/-- name = value -/
def nameAsg (pr : Prog) (f : FE) (c : Cc) (x : Str) (p : Pos) (e : Expr) (line : Nat) : Option T :=
  if c.sto x then match c.ix x with
    | some i => if isComp e then (match swC c (.Name x p) e line with
        | some true => (match e with
          | .ListComp a gs sc _ => if isLocal c x then (match cCl pr f c sc gs, f (c.blk sc) a with
            | some l, some b => some (.asg (.nm i) (.lc (l.own.map (·.2)) l.it l.tg l.c b))
            | _, _ => none) else none
          | _ => none)
        | some false => (f c e).map fun a => .asg (.nm i) a
        | none => none) else (f c e).map fun a => .asg (.nm i) a
    | none => none
  else none
def cAsg (pr : Prog) (f : FE) (c : Cc) (line : Nat) (tg e : Expr) : Option T := match tg with
  | .Name x p => nameAsg pr f c x p e line
  | .Tuple ts kt pt => (match e with
    | .Tuple vs k2 p2 => if noSwap c (.Tuple ts kt pt) (.Tuple vs k2 p2) then plainAsg f c (.Tuple ts kt pt) (.Tuple vs k2 p2) else parAsg f c ts vs (.Tuple ts kt pt) (.Tuple vs k2 p2)
    | e => plainAsg f c (.Tuple ts kt pt) e)
  | tg => plainAsg f c tg e
abbrev FB := Cc → List Stmt → Option Ts
def stepT (pr : Prog) (f : FE) (b : FB) (c : Cc) : Stmt → Option T
  | .Assign ts e p => (match ts with
    | [tg] => cAsg pr f c p.line tg e
    | _ => none)
  | .Expr e _ => if isComp e then none else (f c e).map .ex
  | .Return v _ => (match v with
    | some e => (f c e).map .ret
    | none => some .retN)
  | .If t x y _ => if isIf t then none else (match f c t, b c x, b c y with
    | some a, some u, some v => some (.ife a u v)
    | _, _, _ => none)
  | .While t x y _ => (match y with
    | [] => if isIf t then none else (match f c t, b c x with
      | some a, some u => some (.whl a u)
      | _, _ => none)
    | _ => none)
  | .For tg it x y _ => (match y with
    | [] => if isSet it then none else (match cItC pr f c it, cG f c tg, b c x with
      | some i, some t, some u => some (.for_ i t u)
      | _, _, _ => none)
    | _ => none)
  | .Pass _ => some .pass
  | .Break _ => some .brk
  | .Continue _ => some .cont
  | _ => none
def cTs (pr : Prog) (f : FE) (b : FB) (c : Cc) : List Stmt → Option Ts
  | [] => some .nil
  | s :: r => match stepT pr f b c s, cTs pr f b c r with
    | some x, some y => some (.cons x y)
    | _, _ => none
/-- a body, n deep -/
def cB (pr : Prog) (m : Nat) : Nat → FB
  | 0 => fun _ _ => none
  | n + 1 => cTs pr (cE pr m) (cB pr m n)
section
variable {g : Wd} {pr : Prog} {X : Cx} {f : FE} {b : FB} {c : Cc}
abbrev rdT (pr : Prog) (g : Wd) (t : T) : FS := fun ρ S E => wT pr.G g.ns t ρ S E
abbrev rdTs (pr : Prog) (g : Wd) (t : Ts) : FS := fun ρ S E => wTs pr.G g.ns t ρ S E
def OkB (g : Wd) (pr : Prog) (b : FB) : Prop := ∀ (c : Cc) (l : List Stmt) (i : Ts) (X : Cx), b c l = some i → c.sc.kind = .function → Fit c X → Calls g pr X → X.xe = (fun _ _ => False) → PSs X l (tF g (rdTs pr g i))
theorem _root_.L2.PS.of {e : Stmt} {p q : FS} (h : PS X e (tF g p)) (k : ∀ ρ S E, E.ex = never → q ρ S E → p ρ S E) : PS X e (tF g q) := PS.imp h fun D σ H ⟨ρ, S, mu, E, re, r, h, kk⟩ => ⟨ρ, S, mu, E, re, r, k _ _ _ kk.ex h, kk⟩
theorem _root_.L2.PSs.of {e : List Stmt} {p q : FS} (h : PSs X e (tF g p)) (k : ∀ ρ S E, E.ex = never → q ρ S E → p ρ S E) : PSs X e (tF g q) := PSs.imp h fun D σ H ⟨ρ, S, mu, E, re, r, h, kk⟩ => ⟨ρ, S, mu, E, re, r, k _ _ _ kk.ex h, kk⟩
section
variable (K : Ok g pr f) (B : OkB g pr b) (hk : c.sc.kind = .function) (F : Fit c X) (C : Calls g pr X) (hx : X.xe = fun _ _ => False)
include F in
theorem noSwap_is {tg e : Expr} (h : noSwap c tg e = true) : swappedStores [tg] e X.env = pure none := by
  unfold noSwap at h
  split at h
  · rename_i e1
    rw [stores_env (env' := envOf c.sc) F.eS]
    exact semPure_is e1
  · cases h
include F in
theorem isLocal_is {x : Str} (h : isLocal c x = true) : X.env.scope.names.lookup x = some .local := by
  unfold isLocal at h
  rw [F.eS]
  split at h
  · assumption
  · cases h
include K F C in
theorem ok_plain {tg e : Expr} {pos : Pos} {i : T} (h : plainAsg f c tg e = some i) : PS X (.Assign [tg] e pos) (tF g (rdT pr g i)) := by
  unfold plainAsg at h
  split at h
  · cases h
  · rename_i hc
    simp only [Bool.or_eq_true, Bool.not_eq_true', not_or, Bool.not_eq_true, Bool.not_eq_false] at hc
    split at h
    · rename_i t x h1 h2
      cases h
      refine (ss_asg (K c e x X h2 F C).1 (ok_g (own := t.slots) K F C tg t h1 fun _ z => z) (show swapsWith e (some tg) pos.line X.env = pure false from no_comp hc.1) (noSwap_is F hc.2) (by rw [asg_cons (cG_star h1)]; rfl)).of fun ρ S E ex h => ?_
      have h : wT pr.G g.ns (.asg t x) ρ S E := h
      rw [wT, ex] at h
      exact h
    · cases h
include K F C in
theorem ok_par {ts vs : List Expr} {kt k2 : Nat} {pt p2 pos : Pos} {i : T} (h : parAsg f c ts vs (.Tuple ts kt pt) (.Tuple vs k2 p2) = some i) : PS X (.Assign [.Tuple ts kt pt] (.Tuple vs k2 p2) pos) (tF g (rdT pr g i)) := by
  unfold parAsg at h
  split at h
  · split at h
    · rename_i e1
      split at h
      · rename_i hc
        simp only [Bool.and_eq_true, decide_eq_true_eq] at hc
        obtain ⟨⟨⟨rfl, rfl⟩, l1⟩, l2⟩ := hc
        split at h
        · rename_i i j l q1 q2 q3
          split at h
          · cases h
          · rename_i hij
            cases h
            refine (ss_par2 C.good (F.ix q1) (F.ix q2) hij (isLocal_is F l1) (isLocal_is F l2) (ok_es K F C _ l q3) (by rw [stores_env (env' := envOf c.sc) F.eS]; exact semPure_is e1)).of fun ρ S E ex h => ?_
            have h : wT pr.G g.ns (.par [i, j] l) ρ S E := h
            rw [wT, ex] at h
            exact h
        · cases h
      · cases h
    · cases h
  · split at h
    · rename_i e1
      split at h
      · rename_i hc
        simp only [Bool.and_eq_true, decide_eq_true_eq] at hc
        obtain ⟨⟨⟨⟨⟨rfl, rfl⟩, rfl⟩, l1⟩, l2⟩, l3⟩ := hc
        split at h
        · rename_i i j k l q1 q2 q3 q4
          split at h
          · cases h
          · rename_i hij
            cases h
            simp only [not_or] at hij
            refine (ss_par3 C.good (F.ix q1) (F.ix q2) (F.ix q3) hij.1 hij.2.1 hij.2.2 (isLocal_is F l1) (isLocal_is F l2) (isLocal_is F l3) (ok_es K F C _ l q4) (by rw [stores_env (env' := envOf c.sc) F.eS]; exact semPure_is e1)).of fun ρ S E ex h => ?_
            have h : wT pr.G g.ns (.par [i, j, k] l) ρ S E := h
            rw [wT, ex] at h
            exact h
        · cases h
      · cases h
    · cases h
  · cases h
include K F C in
theorem ok_name {x : Str} {e : Expr} {p pos : Pos} {i : T} (h : nameAsg pr f c x p e pos.line = some i) : PS X (.Assign [.Name x p] e pos) (tF g (rdT pr g i)) := by
  unfold nameAsg at h
  split at h
  · rename_i hs
    obtain ⟨s1, s2⟩ := F.sto hs
    split at h
    · rename_i j hj
      have fin : ∀ {a : E}, f c e = some a → swapsWith e (some (.Name x p)) pos.line X.env = pure false → PS X (.Assign [.Name x p] e pos) (tF g (rdT pr g (.asg (.nm j) a))) := fun {a} ha hsw =>
        (ss_set C.good (F.ix hj) s1 s2 (K c e a X ha F C).1 hsw).of fun ρ S E ex h => by
          have h : wT pr.G g.ns (.asg (.nm j) a) ρ S E := h
          rw [wT, ex] at h
          refine wE_le a h (fun d s q => ?_) fun _ _ z => z
          rw [wTg] at q
          exact q
      split at h
      · rename_i hcmp
        split at h
        · rename_i hsw
          split at h
          · rename_i a gs sc p2
            split at h
            · rename_i hl
              split at h
              · rename_i l b' h1 h2
                cases h
                obtain ⟨tg, iter, ifs, eg, ok, hs, pi, pg, pt, _⟩ := ok_cl K F C h1
                subst eg
                have hsw' : swapsWith (.ListComp a [⟨tg, iter, ifs, 0⟩] sc p2) (some (.Name x p)) pos.line X.env = pure true := by
                  rw [with_env (env' := envOf c.sc) F.eS]
                  exact semPure_is hsw
                refine PS.imp (ss_setLc C.good (F.ix hj) (isLocal_is F hl) hsw' pi ok hs pg pt fun s H C' cl fp => (K _ a b' _ h2 (F.blk sc s H C' cl fp) (C.blk sc s H C' cl fp)).1) fun D σ H w => ?_
                refine asg_lift (own := [j]) (fg := gNm j) (fun v σ H Q ⟨d, ρ, S, mu, N, rv, re, r, h, k⟩ => k _ _ _ _ _ (.refl _ _) r (re.set rv) (by simp) (fun j' hj' => List.getElem?_set_ne (by rintro rfl; exact hj' List.mem_cons_self)) h) ?_
                obtain ⟨ρ, S, mu, E, re, r, h, k⟩ := w
                have h : wT pr.G g.ns (.asg (.nm j) (.lc (l.own.map (·.2)) l.it l.tg l.c b')) ρ S E := h
                rw [wT, k.ex] at h
                have h := wE_le _ h (fun d s q => by rw [wTg] at q; exact q) (X' := never) fun _ _ z => z
                rw [wE] at h
                exact ⟨ρ, S, mu, E, re, r, h, k⟩
              · cases h
            · cases h
          · cases h
        · rename_i hsw
          obtain ⟨a, h1, h2⟩ := Option.map_eq_some_iff.mp h
          subst h2
          exact fin h1 (by rw [with_env (env' := envOf c.sc) F.eS]; exact semPure_is hsw)
        · cases h
      · rename_i hcmp
        obtain ⟨a, h1, h2⟩ := Option.map_eq_some_iff.mp h
        subst h2
        exact fin h1 (no_comp (by simpa using hcmp))
    · cases h
  · cases h
include K F C in
theorem ok_asg {tg e : Expr} {pos : Pos} {i : T} (h : cAsg pr f c pos.line tg e = some i) : PS X (.Assign [tg] e pos) (tF g (rdT pr g i)) := by
  unfold cAsg at h
  split at h
  · exact ok_name K F C h
  · split at h
    · split at h
      · exact ok_plain K F C h
      · exact ok_par K F C h
    · exact ok_plain K F C h
  · exact ok_plain K F C h
include K B hk F C hx in
theorem ok_stepT : ∀ (s : Stmt) (i : T), stepT pr f b c s = some i → PS X s (tF g (rdT pr g i))
  | .Assign ts e p, i, h => by
    unfold stepT at h; dsimp only at h
    split at h
    · exact ok_asg K F C h
    · cases h
  | .Expr e p, i, h => by
    unfold stepT at h; dsimp only at h
    split at h
    · cases h
    · rename_i hc
      obtain ⟨a, h1, h2⟩ := Option.map_eq_some_iff.mp h
      subst h2
      refine (ss_ex (K c e a X h1 F C).1 (by simpa using hc)).of fun ρ S E ex h => ?_
      have h : wT pr.G g.ns (.ex a) ρ S E := h
      rw [wT, ex] at h
      exact h
  | .Return v p, i, h => by
    unfold stepT at h; dsimp only at h
    split at h
    · obtain ⟨a, h1, h2⟩ := Option.map_eq_some_iff.mp h
      subst h2
      refine (ss_ret (K c _ a X h1 F C).1).of fun ρ S E ex h => ?_
      have h : wT pr.G g.ns (.ret a) ρ S E := h
      rw [wT, ex] at h
      exact h
    · cases h
      refine ss_retN.of fun ρ S E ex h => ?_
      have h : wT pr.G g.ns .retN ρ S E := h
      rw [wT] at h
      exact h
  | .If t x y p, i, h => by
    unfold stepT at h; dsimp only at h
    split at h
    · cases h
    · rename_i hi
      split at h
      · rename_i a u v h1 h2 h3
        cases h
        refine (ss_if ((K c t a X h1 F C).2 (by simpa using hi)) (B c x u X h2 hk F C hx) (B c y v X h3 hk F C hx)).of fun ρ S E ex h => ?_
        have h : wT pr.G g.ns (.ife a u v) ρ S E := h
        rw [wT, ex] at h
        exact h
      · cases h
  | .While t x y p, i, h => by
    unfold stepT at h; dsimp only at h
    split at h
    · split at h
      · cases h
      · rename_i hi
        split at h
        · rename_i a u h1 h2
          cases h
          refine (ss_while (by rw [hx]; exact .never) ((K c t a X h1 F C).2 (by simpa using hi)) (B c x u X h2 hk F C hx)).of fun ρ S E ex h => ?_
          have h : wT pr.G g.ns (.whl a u) ρ S E := h
          rw [wT, ex] at h
          obtain ⟨n, h⟩ := h
          exact ⟨n, by rw [ex] at *; exact h⟩
        · cases h
    · cases h
  | .For tg it x y p, i, h => by
    unfold stepT at h; dsimp only at h
    split at h
    · split at h
      · cases h
      · rename_i hs
        split at h
        · rename_i j t u h1 h2 h3
          cases h
          refine (ss_for C.good (by rw [hx]; exact .never) (by simpa using hs) (ok_itC K F C h1) (ok_g (own := t.slots) K F C tg t h2 fun _ z => z) (B c x u X h3 hk F C hx)).of fun ρ S E ex h => ?_
          have h : wT pr.G g.ns (.for_ j t u) ρ S E := h
          rw [wT, ex] at h
          unfold fFor
          rw [ex]
          exact h
        · cases h
    · cases h
  | .Pass p, i, h => by
    unfold stepT at h; dsimp only at h
    cases h
    refine ss_pass.of fun ρ S E ex h => ?_
    have h : wT pr.G g.ns .pass ρ S E := h
    rw [wT] at h
    exact h
  | .Break p, i, h => by
    unfold stepT at h; dsimp only at h
    cases h
    refine ss_break.of fun ρ S E ex h => ?_
    have h : wT pr.G g.ns .brk ρ S E := h
    rw [wT] at h
    exact h
  | .Continue p, i, h => by
    unfold stepT at h; dsimp only at h
    cases h
    refine ss_cont.of fun ρ S E ex h => ?_
    have h : wT pr.G g.ns .cont ρ S E := h
    rw [wT] at h
    exact h
  | .FunctionDef .., _, h | .AsyncFunctionDef .., _, h | .ClassDef .., _, h | .Delete .., _, h | .TypeAlias .., _, h | .AugAssign .., _, h | .AnnAssign .., _, h | .AsyncFor .., _, h | .With .., _, h | .AsyncWith .., _, h | .Match .., _, h | .Raise .., _, h
  | .Try .., _, h | .TryStar .., _, h | .Assert .., _, h | .Import .., _, h | .ImportFrom .., _, h | .Global .., _, h | .Nonlocal .., _, h => by simp [stepT] at h
include K B hk F C hx in
theorem ok_cTs : ∀ (l : List Stmt) (i : Ts), cTs pr f b c l = some i → PSs X l (tF g (rdTs pr g i))
  | [], i, h => by
    cases h
    refine ss_nil.of fun ρ S E ex h => ?_
    have h : wTs pr.G g.ns .nil ρ S E := h
    rw [wTs] at h
    exact h
  | s :: r, i, h => by
    rw [cTs] at h
    split at h
    · rename_i x y h1 h2
      cases h
      refine (ss_cons (ok_stepT K B hk F C hx s x h1) (ok_cTs r y h2)).of fun ρ S E ex h => ?_
      have h : wTs pr.G g.ns (.cons x y) ρ S E := h
      rw [wTs] at h
      exact h
    · cases h
end
theorem ok_cB (m : Nat) : ∀ n, OkB g pr (cB pr m n)
  | 0 => fun c l i X h _ _ _ _ => by cases h
  | n + 1 => fun c l i X h hk F C hx => ok_cTs (ok_cE m) (ok_cB m n) hk F C hx l i h
end
end Lf

set_option Elab.async false
set_option linter.all false
set_option maxRecDepth 100000
set_option maxHeartbeats 4000000
/-! Lf21: a def keeps its promise, by its body. -/
namespace Lf
open PySem L2 PySem.Spec PyProof.Rows
def dArgs : Stmt → Arguments
  | .FunctionDef _ a _ _ _ _ _ _ _ _ => a
  | _ => ⟨[], [], none, [], [], none, []⟩
def dBody : Stmt → List Stmt
  | .FunctionDef _ _ b _ _ _ _ _ _ _ => b
  | _ => []
def dScope : Stmt → Scope
  | .FunctionDef _ _ _ _ _ _ s _ _ _ => s
  | _ => { kind := .function, names := [], isGenerator := false, isCoroutine := false }
/-- the written part has the def st at f -/
structure At (K : PySem.W.Frag) (x : Str) (st : Stmt) (f : Addr) (fd : FuncData) : Prop where
  ex : ∃ (oc : Value) (od : Option Addr) (kV doc pm : Value) (an : Option Addr) (cdv ct : Value) (osl : Array (Option Value)),
    fd = PySem.W.fnOf x x (dArgs st) (dBody st) (dScope st) .none kV doc pm an cdv ct ∧ K.lookup f = some ⟨oc, od, .func fd, osl⟩ ∧ PySem.W.codeIn K cdv x = true
  kp : PySem.W.keepIn K (.ref f) = true
/-- the defs that may be called, their promises kept -/
structure Defs (g : Wd) (mg : Str → Option Value) (base : Heap) (pr : Prog) (k : Nat) : Prop where
  fns : ∀ (f : Nat) (x : Str), pr.fn[f]? = some x → ∃ a, mg x = some (.ref a) ∧ PySem.W.keepIn g.K (.ref a) = true ∧ FnG g mg base (pr.pat f) k a (pr.G f)
  blt : ∀ x ∈ pr.bn, mg x = none
/-- the slots at the beginning -/
def ini (n : Nat) (ds : List D) : Env := ds.map some ++ List.replicate (n - ds.length) none
/-- the ends of a body -/
def retE (Q : K1) : Lf.Ends := ⟨fun _ S => Q .non S, Q, fun _ _ => False, fun _ _ => False, never⟩
section
variable {g : Wd} {mg : Str → Option Value} {base : Heap} {pr : Prog} {k : Nat} {H : Hp} {mu : List Addr}
theorem Rvs.at {sa : Addr} : ∀ {ds : List D} {vs : List V} {i : Nat} {d : D}, Rvs H sa mu ds vs → (ds.map some)[i]? = some (some d) → ∃ v, (vs.map some)[i]? = some (some v) ∧ Rv H sa mu d v := by
  intro ds vs i d h e
  rw [List.getElem?_map] at e
  obtain ⟨x, h1, h2⟩ := Option.map_eq_some_iff.mp e
  cases h2
  obtain ⟨v, h3, h4⟩ := h.get h1
  exact ⟨v, by rw [List.getElem?_map, h3]; rfl, h4⟩
theorem re_start {N : List Str} {ds : List D} {vs : List V} (h : Rvs H g.sa mu ds vs) : Re g H mu (ini N.length ds) (L2.start N vs) := by
  have hl := h.length
  unfold ini L2.start
  refine ⟨by simp [hl], fun i d e => ?_⟩
  by_cases hi : i < ds.length
  · rw [List.getElem?_append_left (by simpa using hi)] at e
    obtain ⟨v, h1, h2⟩ := h.at e
    exact ⟨v, by rw [List.getElem?_append_left (by simpa [← hl] using hi)]; exact h1, h2⟩
  · rw [List.getElem?_append_right (by simpa using hi), List.getElem?_replicate] at e
    split at e <;> cases e
theorem kont_ret {S : Store} {Qd : K1} {Q : VK} (k : KV g H mu Qd Q) : Kont g H mu (retE Qd) { nx := fun _ H' => Q .non H', rt := Q } :=
  ⟨rfl, fun ρ S' σ H' mu' e r _ q => k _ _ _ _ _ e r .non q, k, fun _ _ _ _ _ _ _ _ z => z.elim, fun _ _ _ _ _ _ _ _ z => z.elim⟩
theorem Defs.calls (Ds : Defs g mg base pr k) {N ps : List Str} {scope : Scope} {qual : Str} {f : Addr} {cdv : Value} {A : Around} {outer : List PySem.Env} {s : Shared} {E : XK} (S : FnScope N ps scope) (hr : Room k (A.deeper (envOfC qual scope s.heap.objs.size f cdv))) (hg : A.guards = some []) :
    Calls g pr (cxOf CX0 g.P g.w g.K mg base N qual scope f cdv A outer s H E).nox := by
  refine ⟨⟨rfl, rfl, rfl, rfl, S.nd, ?_, hr.hd, hg⟩, fun j x hj => ?_, Ds.blt⟩
  · have := hr.un
    show (A.deeper _).units + 200 < cLine
    omega
  · obtain ⟨a, h1, h2, h3⟩ := Ds.fns j x hj
    exact ⟨a, k, h1, h2, h3, hr⟩
theorem body_run (Ds : Defs g mg base pr k) {N ps : List Str} {scope : Scope} {qual : Str} {f : Addr} {cdv : Value} {A : Around} {outer : List PySem.Env} {s : Shared} {E : XK} {body : List Stmt} {m n : Nat} {ir : Ts} (S : FnScope N ps scope) (hr : Room k (A.deeper (envOfC qual scope s.heap.objs.size f cdv))) (hg : A.guards = some [])
    (hc : cB pr m n ⟨N, scope, fun _ => true⟩ body = some ir) {ds : List D} {vs : List V} {S0 : Store} {Qd : K1} {Q : VK} (rv : Rvs H g.sa mu ds vs) (r : R g H mu S0) (h : wTs pr.G g.ns ir (ini N.length ds) S0 (retE Qd)) (kq : KV g H mu Qd Q) :
    ∃ t, PSs (cxOf CX0 g.P g.w g.K mg base N qual scope f cdv A outer s H E) body t ∧ t { nx := fun _ H' => Q .non H', rt := Q } (L2.start N vs) H := by
  refine ⟨_, (ok_cB (g := g) m n _ body ir _ hc S.kind ⟨rfl, rfl, fun _ _ => rfl⟩ (Ds.calls S hr hg) rfl).nox, ini N.length ds, S0, mu, retE Qd, re_start rv, r, h, kont_ret (S := S0) kq⟩
/-- a def with plain parameters -/
theorem fnG_of (Ds : Defs g mg base pr k) {x : Str} {st : Stmt} {f : Addr} {fd : FuncData} {N ps : List Str} {pat : List (Nat × List Str)} {sp : Lf.Sp} {m n : Nat} {ir : Ts} (F : At g.K x st f fd) (S : FnScope N ps (dScope st)) (hc : cB pr m n ⟨N, dScope st, fun _ => true⟩ (dBody st) = some ir)
    (hb : ∀ args us, Acc pat args us → us.length = ps.length → bindArgs fd args = pure (ps.zip us)) (hl : ∀ ds S Q X, sp.wp ds S Q X → ds.length = ps.length)
    (hs : ∀ ds S Q, sp.wp ds S Q never → wTs pr.G g.ns ir (ini N.length ds) S (retE Q)) : FnG g mg base pat (k + 1) f sp := by
  intro A outer s H args us vs Q E hr hg e0 ha rv ⟨ds, S0, mu, Qd, rd, r, hw, kq⟩
  obtain ⟨oc, od, kV, doc, pm, an, cdv, ct, osl, rfl, lk, hcd⟩ := F.ex
  have hlen := hl _ _ _ _ hw
  have l1 := rd.length
  have l2 := Paired.length rv
  refine StX.run_bnd (N := N) (ps := ps) lk hcd S hr e0 (G := fun vs' H' => vs' = vs ∧ H' = H) (fun A' Ex Q' h => ?_) fun s2 H2 vs2 ⟨e1, e2⟩ hr' => ?_
  · rw [hb args us ha (by omega)]
    exact wpAny_pure (h s H vs us e0 .refl rfl (fun _ _ z => z) rv (by omega) ⟨rfl, rfl⟩)
  · subst e1 e2
    exact body_run Ds S hr' hg hc rd r (hs _ _ _ hw) kq
/-- a def with plain parameters and *pv -/
theorem fnG_star (Ds : Defs g mg base pr k) {x pv : Str} {st : Stmt} {f : Addr} {fd : FuncData} {N ps : List Str} {pat : List (Nat × List Str)} {sp : Lf.Sp} {m n : Nat} {ir : Ts} (F : At g.K x st f fd) (S : FnScope N (ps ++ [pv]) (dScope st)) (hc : cB pr m n ⟨N, dScope st, fun _ => true⟩ (dBody st) = some ir)
    (hb : ∀ args us u1 rest, Acc pat args us → us = u1 ++ rest → u1.length = ps.length → bindArgs fd args = (newTuple rest >>= fun t => pure (ps.zip u1 ++ [(pv, t)]))) (hl : ∀ ds S Q X, sp.wp ds S Q X → ps.length ≤ ds.length ∧ ds.length ≤ sizeLine)
    (hs : ∀ ds S Q, sp.wp ds S Q never → wTs pr.G g.ns ir (ini N.length (ds.take ps.length ++ [.tup (ds.drop ps.length)])) S (retE Q)) : FnG g mg base pat (k + 1) f sp := by
  intro A outer s H args us vs Q E hr hg e0 ha rv ⟨ds, S0, mu, Qd, rd, r, hw, kq⟩
  obtain ⟨oc, od, kV, doc, pm, an, cdv, ct, osl, rfl, lk, hcd⟩ := F.ex
  obtain ⟨hl1, hl2⟩ := hl _ _ _ _ hw
  have l1 := rd.length
  have l2 := Paired.length rv
  have hn : H s.heap.objs.size = none := e0.hok.fresh (Nat.le_refl _)
  have ev : vs = vs.take ps.length ++ vs.drop ps.length := (List.take_append_drop _ _).symm
  have rv' := rv
  rw [ev] at rv'
  obtain ⟨u1, u2, eu, r1, r2⟩ := StX.vals_split rv'
  have hu1 : u1.length = ps.length := by
    have := Paired.length r1
    rw [← this, List.length_take]; omega
  have hu2 : u2.length ≤ sizeLine := by
    have := Paired.length r2
    rw [← this, List.length_drop]; omega
  refine StX.run_bnd (N := N) (ps := ps ++ [pv]) lk hcd S hr e0 (G := fun vs' H' => ∃ p, H p = none ∧ vs' = vs.take ps.length ++ [V.ref p] ∧ H' = upd H p (.tup (vs.drop ps.length))) (fun A' Ex Q' h => ?_) fun s2 H2 vs2 ⟨p, hp, e1, e2⟩ hr' => ?_
  · rw [hb args us u1 u2 ha eu hu1]
    refine wpAny_bind (wpAny_newTuple (wpAny_pure ?_) hu2)
    have new : ObjOk g.P g.w (upd H s.heap.objs.size (.tup (vs.drop ps.length))) (s.heap.push ({ cls := .type "tuple", data := .seq u2.toArray } : Obj)) s.heap.objs.size (.tup (vs.drop ps.length)) :=
      ⟨by rw [List.length_drop]; omega, u2, r2, ⟨_, Heap.get?_push_size _ rfl, rfl, _, rfl⟩⟩
    have z := h _ _ (vs.take ps.length ++ [V.ref s.heap.objs.size]) (u1 ++ [Value.ref s.heap.objs.size]) (StX.env0_laid e0 new) (StX.un_laid hn) rfl (fun _ _ z => z) (r1.append (.cons rfl .nil))
      (by rw [List.length_append, List.length_append, List.length_take, List.length_singleton, List.length_singleton]; omega) ⟨_, hn, rfl, rfl⟩
    rw [List.zip_append hu1.symm] at z
    exact z
  · subst e1 e2
    obtain ⟨r3, e3⟩ := r.laid (u := .tup (vs.drop ps.length)) hp
    have rd3 := rd.ext e3 r
    exact body_run Ds S hr' hg hc ((rd3.take ps.length).append (.cons (.tup upd_same (rd3.drop ps.length)) .nil)) r3 (hs _ _ _ hw) (kq.ext e3)
end
end Lf

set_option Elab.async false
set_option linter.all false
set_option maxRecDepth 100000
set_option maxHeartbeats 4000000
/-! Lf22: the law's head: the law's def is called with the script. -/
namespace Lf
open PySem L2 PySem.Spec PyProof.Rows
/-- the abstract heap ahead: nothing, or the script alone -/
def hp0 (K : PySem.W.Frag) (a : Addr) (o : Obj) (ns : List Int) : Hp := fun b => if b = a ∧ K.lookup a = none then some (.frz o (.lst (ns.map V.int))) else none
section
variable {K : PySem.W.Frag} {a b : Addr} {o : Obj} {ns : List Int}
theorem hp0_some {u : HO} (h : hp0 K a o ns b = some u) : b = a ∧ K.lookup a = none ∧ u = .frz o (.lst (ns.map V.int)) := by
  unfold hp0 at h
  split at h
  · rename_i q
    cases h
    exact ⟨q.1, q.2, rfl⟩
  · cases h
theorem hp0_at (h : K.lookup a = none) : hp0 K a o ns a = some (.frz o (.lst (ns.map V.int))) := by
  unfold hp0
  rw [if_pos ⟨rfl, h⟩]
theorem hp0_not (h : b ≠ a) : hp0 K a o ns b = none := by
  unfold hp0
  rw [if_neg fun z => h z.1]
end
theorem call_head {P : Program} {w : World} {K : PySem.W.Frag} {mg mb : Str → Option Value} {k : Nat} {fa a : Addr} {s : Shared} {vs : List Value} {ns : List Int}
    (KX : K.In s.heap) (hmg : s.heap.Ns mainGlobals mg) (hmb : s.heap.Ns builtinsNs mb) (hbb : ∀ x : Str, x ≠ "__name__" → mb x = bootBuiltins x) (nl : s.heap.NoLimit) (ng : s.gens = #[])
    (ha : s.heap.get? a = some { cls := .type "list", data := .seq vs.toArray }) (hi : IntsAre vs ns) (hl : ns.length ≤ sizeLine) (hr : Room k callerA)
    (F : ∀ base : Heap, K.In base → base.Ns mainGlobals mg → ∃ sp : Lf.Sp, FnG ⟨P, w, K, a, ns⟩ mg base [] k fa sp ∧ sp.wp [.scr] [] (fun d _ => d = .bl true) never) :
    codeAny (model P w) callerA (.call (.ref fa) ⟨[.ref a], []⟩) (fun r s' => r = .ok (.ret (.bool true)) ∧ OldK s.heap s'.heap ∧ s'.os = s.os ∧ AllBare s'.gens) s := by
  have rv := vals_ints hi
  have hlen := hi.length
  obtain ⟨H, eH⟩ : ∃ H, H = hp0 K a { cls := .type "list", data := .seq vs.toArray } ns := ⟨_, rfl⟩
  have only : ∀ b u, H b = some u → b = a ∧ K.lookup a = none ∧ u = .frz { cls := .type "list", data := .seq vs.toArray } (.lst (ns.map V.int)) := fun b u e => hp0_some (eH ▸ e)
  have okH : HOk P w H s.heap := fun b u e => by
    obtain ⟨e1, _, e2⟩ := only b u e
    subst e1 e2
    exact ⟨ha, by rw [List.length_map]; exact hl, vs, _, rv, ha⟩
  -- what is no list's record stands in the base
  have keepsAt : ∀ {b : Addr} {q : Obj}, s.heap.get? b = some q → H b = none → (hidT s.heap H).get? b = some q := fun e n => hidT_get e n
  have dicts : ∀ {b : Addr} {m : Str → Option Value}, s.heap.Ns b m → (hidT s.heap H).Ns b m := fun {b m} ⟨q, es, ep, e, d, rest⟩ => ⟨q, es, ep, keepsAt e (by
    cases hb : H b with
    | none => rfl
    | some u =>
      obtain ⟨e1, _, _⟩ := only b u hb
      rw [e1, ha] at e
      cases e
      cases d), d, rest⟩
  have inBase : K.In (hidT s.heap H) := fun b q e => keepsAt (KX b q e) (by
    cases hb : H b with
    | none => rfl
    | some u =>
      obtain ⟨e1, e2, _⟩ := only b u hb
      rw [e1, e2] at e
      cases e)
  have md : L2.Mod K mg (hidT s.heap H) := by
    refine ⟨inBase, dicts hmg, ⟨mb, dicts hmb, hbb⟩, ?_⟩
    obtain ⟨m, n1, n2⟩ := nl
    exact ⟨m, dicts n1, n2⟩
  have e0 : Env0 P w K mg (hidT s.heap H) callerA [] s H := ⟨rfl, md, fun b q e => of_hidT e, Nat.le_of_eq (hidT_size _ _), True.intro, (fun b hb => by cases hb), okH, .of_eq ng⟩
  have scr : ScrR ⟨P, w, K, a, ns⟩ H := by
    cases hk : K.lookup a with
    | none => exact .inl ⟨_, by rw [eH]; exact hp0_at hk⟩
    | some q =>
      have e := KX a q hk
      rw [ha] at e
      cases e
      exact .inr ⟨_, vs.toArray, _, hk, rfl, rfl, rfl, by rw [List.size_toArray, hlen]; exact hl, by simpa using rv⟩
  obtain ⟨sp, FG, hsp⟩ := F _ inBase (dicts hmg)
  have lf : lift ⟨P, w, K, a, ns⟩ sp [.ref a] H (fun v _ => v = .bl true) fun _ _ _ => False :=
    ⟨[.scr], [], [], _, .cons .scr .nil, ⟨rfl, List.nodup_nil, fun i a o h => by simp at h, scr⟩, hsp, fun d S' v H' mu' _ _ rd q => by subst q; cases rd; rfl⟩
  refine codeAny_mono (FG callerA [] s H ⟨[.ref a], []⟩ [.ref a] [.ref a] _ _ hr rfl e0 (.inl rfl) (.cons rfl .nil) lf) fun r s' h => ?_
  cases r with
  | error e => exact h.elim
  | ok fl =>
    cases fl with
    | ret u =>
      obtain ⟨v, H', eo, bare, un, ok', ru, q⟩ := h
      have q' : v = .bl true := q
      subst q'
      cases (show u = Value.bool true from ru)
      refine ⟨rfl, OldK.of_keep fun b q e => ?_, eo, bare⟩
      cases hb : H b with
      | none => exact un.keep b q e hb (fun z => by cases z) (by simp)
      | some u =>
        obtain ⟨_, _, e2⟩ := only b u hb
        subst e2
        have e3 := un.frzs b _ _ hb
        have e4 := (okH b _ hb).1
        have e5 := (ok' b _ e3).1
        rw [e] at e4
        cases e4
        exact e5
    | next => exact h.elim
    | brk => exact h.elim
    | cont => exact h.elim
/-- the law, from its def's promise -/
theorem head_of {l : PySem.W.OpenLaw} {n k : Nat} {q : Program} {loose : List Str} {XP : (Str → Option Value) → Heap → Prop} {YP : World → Heap → Prop} {d : DefRec} {K : Params → PySem.W.Frag}
    (hn : l.most = some n) (hn2 : n ≤ sizeLine) (hdf : d.params.defaults = []) (hr : Room k callerA) (hY : ∀ (w : World) (h : Heap), YP w h → (K w.params).In h)
    (F : ∀ (w : World) (mg : Str → Option Value) (fa : Addr) (h : Heap), (K w.params).In h → h.Ns mainGlobals mg → mg d.name = some (.ref fa) → ∀ (a : Addr) (ns : List Int), ns.length ≤ n → (∀ z ∈ ns, Builtin.Int.intBits z ≤ 1048576) →
      ∀ base : Heap, (K w.params).In base → base.Ns mainGlobals mg → ∃ sp : Lf.Sp, FnG ⟨l.prog, w, K w.params, a, ns⟩ mg base [] k fa sp ∧ sp.wp [.scr] [] (fun d _ => d = .bl true) never) :
    PySem.W.WalkO q loose XP YP l.row.toRowW d [] (fun f vs => PySem.call f vs) := by
  refine Att.attach_callB hn hdf fun w s₀ s₁ mg mb fa o pm cd doc a vs ns G Y ho hd hcd hmg hobj hints hlen hbits hg => ?_
  have KX := hY w _ Y
  exact call_head KX G.T.g G.T.b G.T.builtins G.T.nolimit hg hobj hints (Nat.le_trans hlen hn2) hr fun base => F w mg fa _ KX G.T.g hmg a ns hlen hbits base
end Lf

set_option Elab.async false
set_option linter.all false
set_option maxRecDepth 100000
set_option maxHeartbeats 4000000
/-! Lf23: helps for proofs about the small language. -/
namespace Lf
open PySem
/-- a promise by cases c: what must hold ahead, what holds behind -/
def spec {γ : Type} (pre : γ → List D → Store → Prop) (post : γ → Store → D → Store → Prop) : Sp where
  wp := fun ds S Q _ => ∃ c, pre c ds S ∧ ∀ d S', post c S d S' → Q d S'
  mono := fun ⟨c, h, k⟩ q _ => ⟨c, h, fun d S' z => q _ _ (k d S' z)⟩
theorem spec_use {γ : Type} {pre : γ → List D → Store → Prop} {post : γ → Store → D → Store → Prop} {ds : List D} {S : Store} {Q X : K1} (c : γ) (h : pre c ds S) (k : ∀ d S', post c S d S' → Q d S') : (spec pre post).wp ds S Q X := ⟨c, h, k⟩
/-! loops -/
theorem loopL_inv {chk : Store → Prop} {body : D → Env → Store → (Env → Store → Prop) → Prop} {N : Env → Store → Prop} {l : List D} (I : List D → Env → Store → Prop) (hc : ∀ k ρ S, I k ρ S → chk S)
    (hb : ∀ k d m ρ S (M : Env → Store → Prop), l = k ++ d :: m → I k ρ S → (∀ ρ' S', I (k ++ [d]) ρ' S' → M ρ' S') → body d ρ S M) (hn : ∀ ρ S, I l ρ S → N ρ S) {ρ : Env} {S : Store} (h : I [] ρ S) : loopL chk body l ρ S N := by
  suffices ∀ m k, l = k ++ m → ∀ ρ S, I k ρ S → loopL chk body m ρ S N from this l [] rfl ρ S h
  intro m
  induction m with
  | nil =>
    intro k e ρ S h
    rw [List.append_nil] at e
    subst e
    exact ⟨hc _ _ _ h, hn _ _ h⟩
  | cons d m ih =>
    intro k e ρ S h
    exact ⟨hc _ _ _ h, hb k d m ρ S _ e h fun ρ' S' h' => ih (k ++ [d]) (by rw [e]; simp) ρ' S' h'⟩
/-- a loop that ends at the first item for which f tells something; the store stays -/
theorem loopL_first {α : Type} {chk : Store → Prop} {body : D → Env → Store → (Env → Store → Prop) → Prop} {N : Env → Store → Prop} {S : Store} (f : D → Option α) (I : Env → Prop) (out : α → Prop) (hc : chk S) : ∀ {l : List D},
    (∀ d ∈ l, ∀ ρ (M : Env → Store → Prop), I ρ → (f d = none → ∀ ρ', I ρ' → M ρ' S) → (∀ r, f d = some r → out r) → body d ρ S M) → (∀ r, l.findSome? f = some r → out r) → (l.findSome? f = none → ∀ ρ, I ρ → N ρ S) → ∀ {ρ : Env}, I ρ → loopL chk body l ρ S N
  | [], _, _, hn, ρ, h => ⟨hc, hn rfl ρ h⟩
  | d :: l, hb, ho, hn, ρ, h => by
    refine ⟨hc, hb d List.mem_cons_self ρ _ h (fun e ρ' h' => loopL_first f I out hc (fun d' hd => hb d' (List.mem_cons_of_mem _ hd)) (fun r hr => ho r ?_) (fun hr => hn ?_) h') fun r hr => ho r ?_⟩
    · rw [List.findSome?_cons, e]; exact hr
    · rw [List.findSome?_cons, e]; exact hr
    · rw [List.findSome?_cons, hr]
theorem loopC_inv {chk : Store → Prop} {step : D → Store → (List D → Store → Prop) → Prop} {N : List D → Store → Prop} {l : List D} (I : List D → List D → Store → Prop) (hc : ∀ k a S, I k a S → chk S)
    (hb : ∀ k d m a S (M : List D → Store → Prop), l = k ++ d :: m → I k a S → (∀ new S', I (k ++ [d]) (a ++ new) S' → M new S') → step d S M) (hn : ∀ a S, I l a S → N a S) {S : Store} (h : I [] [] S) : loopC chk step l S [] N := by
  suffices ∀ m k, l = k ++ m → ∀ a S, I k a S → loopC chk step m S a N from this l [] rfl [] S h
  intro m
  induction m with
  | nil =>
    intro k e a S h
    rw [List.append_nil] at e
    subst e
    exact ⟨hc _ _ _ h, hn _ _ h⟩
  | cons d m ih =>
    intro k e a S h
    exact ⟨hc _ _ _ h, hb k d m a S _ e h fun new S' h' => ih (k ++ [d]) (by rw [e]; simp) (a ++ new) S' h'⟩
theorem loopD_inv {chk : Store → Prop} {step : D → Store → (D → D → Store → Prop) → Prop} {N : List (D × D) → Store → Prop} {l : List D} (I : List D → List (D × D) → Store → Prop) (hc : ∀ k a S, I k a S → chk S)
    (hb : ∀ k d m a S (M : D → D → Store → Prop), l = k ++ d :: m → I k a S → (∀ x y S', keyFor a x = true → I (k ++ [d]) (put a x y) S' → M x y S') → step d S M) (hn : ∀ a S, I l a S → N a S) {S : Store} (h : I [] [] S) : loopD chk step l S [] N := by
  suffices ∀ m k, l = k ++ m → ∀ a S, I k a S → loopD chk step m S a N from this l [] rfl [] S h
  intro m
  induction m with
  | nil =>
    intro k e a S h
    rw [List.append_nil] at e
    subst e
    exact ⟨hc _ _ _ h, hn _ _ h⟩
  | cons d m ih =>
    intro k e a S h
    exact ⟨hc _ _ _ h, hb k d m a S _ e h fun x y S' hk h' => ⟨hk, ih (k ++ [d]) (by rw [e]; simp) (put a x y) S' h'⟩⟩
theorem loopW_inv {c : Env → Store → K1 → Prop} {b : Env → Store → (Env → Store → Prop) → Prop} {N : Env → Store → Prop} (I : Nat → Env → Store → Prop)
    (h : ∀ n ρ S, I n ρ S → c ρ S fun d S' => (d = .bl true ∧ ∀ M : Env → Store → Prop, (∀ m ρ' S'', m < n → I m ρ' S'' → M ρ' S'') → b ρ S' M) ∨ (d = .bl false ∧ N ρ S'))
    (hc : ∀ ρ S (Q Q' : K1), c ρ S Q → Le1 Q Q' → c ρ S Q') (hb : ∀ ρ S (M M' : Env → Store → Prop), b ρ S M → (∀ ρ S, M ρ S → M' ρ S) → b ρ S M') {n : Nat} {ρ : Env} {S : Store} (h0 : I n ρ S) : ∃ k, loopW c b k ρ S N := by
  suffices ∀ n ρ S, I n ρ S → loopW c b (n + 1) ρ S N from ⟨n + 1, this n ρ S h0⟩
  intro n
  induction n using Nat.strongRecOn with
  | ind n ih =>
    intro ρ S h0
    refine hc _ _ _ _ (h n ρ S h0) fun d S' q => ?_
    rcases q with ⟨e, q⟩ | q
    · refine .inl ⟨e, q _ fun m ρ' S'' lt hm => ?_⟩
      have up : ∀ {j k : Nat} {ρ : Env} {S : Store}, j ≤ k → loopW c b j ρ S N → loopW c b k ρ S N := by
        intro j
        induction j with
        | zero => intro k ρ S _ z; exact z.elim
        | succ j ihj =>
          intro k ρ S le z
          cases k with
          | zero => omega
          | succ k =>
            refine hc _ _ _ _ z fun d S' q => ?_
            rcases q with ⟨e, q⟩ | q
            · exact .inl ⟨e, hb _ _ _ _ q fun ρ S z => ihj (by omega) z⟩
            · exact .inr q
      exact up (by omega) (ih m lt ρ' S'' hm)
    · exact .inr q
/-- while, by an invariant with its measure -/
theorem whl_inv {G : Nat → Sp} {ns : List Int} {c : E} {b : Ts} {ρ : Env} {S : Store} {D : Ends} {n : Nat} (I : Nat → Env → Store → Prop) (h0 : I n ρ S)
    (h : ∀ n ρ S, I n ρ S → wE G ns c ρ S (fun d S' => (d = .bl true ∧ wTs G ns b ρ S' { D with nx := fun ρ' S'' => ∃ m, m < n ∧ I m ρ' S'', ct := fun ρ' S'' => ∃ m, m < n ∧ I m ρ' S'', bk := D.nx }) ∨ (d = .bl false ∧ D.nx ρ S')) D.ex) :
    wT G ns (.whl c b) ρ S D := by
  rw [wT]
  refine loopW_inv I ?_ ?_ ?_ h0
  · intro n ρ S hi
    refine wE_le c (h n ρ S hi) (fun d S' q => ?_) fun _ _ z => z
    rcases q with ⟨e, q⟩ | q
    · refine .inl ⟨e, fun M hm => ?_⟩
      have go : EndsLe { D with nx := fun ρ' S'' => ∃ m, m < n ∧ I m ρ' S'', ct := fun ρ' S'' => ∃ m, m < n ∧ I m ρ' S'', bk := D.nx } { D with nx := M, ct := M, bk := D.nx } :=
        ⟨fun ρ' s ⟨m, lt, z⟩ => hm m ρ' s lt z, fun _ _ z => z, fun _ _ z => z, fun ρ' s ⟨m, lt, z⟩ => hm m ρ' s lt z, fun _ _ z => z⟩
      exact wTs_le b q go
    · exact .inr q
  · intro ρ S Q Q' hq hl
    exact wE_le c hq hl fun _ _ z => z
  · intro ρ S M M' hm hl
    have go : EndsLe { D with nx := M, ct := M, bk := D.nx } { D with nx := M', ct := M', bk := D.nx } := ⟨hl, fun _ _ z => z, fun _ _ z => z, hl, fun _ _ z => z⟩
    exact wTs_le b hm go
/-- a statement, then the rest -/
theorem seq_cut {G : Nat → Sp} {ns : List Int} {t : T} {r : Ts} {ρ : Env} {S : Store} {D : Ends} (M : Env → Store → Prop) (h : wT G ns t ρ S { D with nx := M }) (k : ∀ ρ' S', M ρ' S' → wTs G ns r ρ' S' D) : wTs G ns (.cons t r) ρ S D := by
  rw [wTs]
  exact wT_le t h ⟨k, fun _ _ z => z, fun _ _ z => z, fun _ _ z => z, fun _ _ z => z⟩
/-- an expression, then what follows -/
theorem e_cut {G : Nat → Sp} {ns : List Int} {e : E} {ρ : Env} {S : Store} {Q X : K1} (M : K1) (h : wE G ns e ρ S M X) (k : ∀ d S', M d S' → Q d S') : wE G ns e ρ S Q X := wE_le e h k fun _ _ z => z
theorem wIx_lst {i : Nat} {l : List D} {k : Int} {v : D} {S : Store} {Q : K1} (hi : S[i]? = some (.lst l)) (h : L2.atI l k = some v) (q : Q v S) : wIx (.obj i) (.int k) S Q :=
  .inl ⟨l, k, v, by simp [itemsAt, hi], rfl, h, q⟩
theorem wIx_tup {l : List D} {k : Int} {v : D} {S : Store} {Q : K1} (h : L2.atI l k = some v) (q : Q v S) : wIx (.tup l) (.int k) S Q :=
  .inl ⟨l, k, v, rfl, rfl, h, q⟩
theorem wSet_lst {i : Nat} {l : List D} {k : Int} {m : Nat} {v : D} {S : Store} {N : Store → Prop} (hi : S[i]? = some (.lst l)) (h : L2.ixN l.length k = some m) (q : N (S.set i (.lst (l.set m v)))) : wSet (.obj i) (.int k) v S N :=
  .inl ⟨i, l, k, m, rfl, rfl, hi, h, q⟩
theorem at_lst {i : Nat} {l : List D} {S : Store} (hi : S[i]? = some (.lst l)) : itemsAt S (.obj i) = some l := by simp [itemsAt, hi]
theorem sz {n : Nat} (h : n ≤ 100000) : n ≤ sizeLine := by rw [sizeLine_eq]; omega
/-! data -/
mutual
/-- texts, ints, None and tuples of them -/
def D.flat : D → Bool
  | .non => true
  | .str x => PyData.strOk x
  | .int _ => true
  | .tup l => D.flats l
  | _ => false
def D.flats : List D → Bool
  | [] => true
  | d :: l => D.flat d && D.flats l
end
mutual
theorem D.flat_pure : ∀ d : D, d.flat = true → d.pure = true
  | .non, _ => by simp [D.pure]
  | .str _, _ => by simp [D.pure]
  | .int _, _ => by simp [D.pure]
  | .tup l, h => by rw [D.pure]; rw [D.flat] at h; exact D.flats_pure l h
  | .bl _, h => by simp [D.flat] at h
  | .obj _, h => by simp [D.flat] at h
  | .scr, h => by simp [D.flat] at h
theorem D.flats_pure : ∀ l : List D, D.flats l = true → D.pures l = true
  | [], _ => by simp [D.pures]
  | d :: l, h => by
    rw [D.flats, Bool.and_eq_true] at h
    rw [D.pures, D.flat_pure d h.1, D.flats_pure l h.2]
    rfl
end
mutual
theorem D.flat_eqv : ∀ a b : D, a.flat = true → b.flat = true → PyData.eqv a.py b.py = decide (a = b)
  | .non, b, _, h => by cases b <;> simp_all [D.flat, D.py, PyData.eqv]
  | .str x, b, _, h => by
    cases b <;> simp_all [D.flat, D.py, PyData.eqv]
    exact Bool.eq_iff_iff.mpr (by simp)
  | .int x, b, _, h => by
    cases b <;> simp_all [D.flat, D.py, PyData.eqv]
    exact Bool.eq_iff_iff.mpr (by simp)
  | .tup l, b, h', h => by
    cases b with
    | tup m =>
      rw [D.flat] at h h'
      rw [D.py, D.py, PyData.eqv, D.flats_eqv l m h' h]
      simp
    | _ => simp_all [D.flat, D.py, PyData.eqv]
  | .bl _, _, h, _ => by simp [D.flat] at h
  | .obj _, _, h, _ => by simp [D.flat] at h
  | .scr, _, h, _ => by simp [D.flat] at h
theorem D.flats_eqv : ∀ a b : List D, D.flats a = true → D.flats b = true → PyData.eqvAll (D.pys a) (D.pys b) = decide (a = b)
  | [], [], _, _ => by simp [D.pys, PyData.eqvAll]
  | [], b :: m, _, _ => by simp [D.pys, PyData.eqvAll]
  | a :: l, [], _, _ => by simp [D.pys, PyData.eqvAll]
  | a :: l, b :: m, h, h' => by
    rw [D.flats, Bool.and_eq_true] at h h'
    rw [D.pys, D.pys, PyData.eqvAll, D.flat_eqv a b h.1 h'.1, D.flats_eqv l m h.2 h'.2]
    simp
end
mutual
/-- how deep -/
def D.dep : D → Nat
  | .tup l => D.deps l + 1
  | _ => 0
def D.deps : List D → Nat
  | [] => 0
  | d :: l => max (D.dep d) (D.deps l)
end
mutual
theorem D.flat_lay : ∀ d : D, d.flat = true → d.py.canLay0 = true ∧ d.py.depth = d.dep
  | .non, _ => by simp [D.py, PyData.canLay0, PyData.depth, D.dep]
  | .str _, h => by rw [D.flat] at h; simp [D.py, PyData.canLay0, PyData.depth, D.dep, h]
  | .int _, _ => by simp [D.py, PyData.canLay0, PyData.depth, D.dep]
  | .tup l, h => by
    rw [D.flat] at h
    obtain ⟨h1, h2⟩ := D.flats_lay l h
    rw [D.py, PyData.canLay0, PyData.depth, D.dep, h1, h2]
    exact ⟨rfl, rfl⟩
  | .bl _, h => by simp [D.flat] at h
  | .obj _, h => by simp [D.flat] at h
  | .scr, h => by simp [D.flat] at h
theorem D.flats_lay : ∀ l : List D, D.flats l = true → PyData.canLayAll0 (D.pys l) = true ∧ PyData.depthAll (D.pys l) = D.deps l
  | [], _ => by simp [D.pys, PyData.canLayAll0, PyData.depthAll, D.deps]
  | d :: l, h => by
    rw [D.flats, Bool.and_eq_true] at h
    obtain ⟨h1, h2⟩ := D.flat_lay d h.1
    obtain ⟨h3, h4⟩ := D.flats_lay l h.2
    rw [D.pys, PyData.canLayAll0, PyData.depthAll, D.deps, h1, h2, h3, h4]
    exact ⟨rfl, rfl⟩
end
theorem flat_shaped {d : D} (h : d.flat = true) (hd : d.dep ≤ 64) : SeqAt.shaped d.py = true := by
  obtain ⟨h1, h2⟩ := D.flat_lay d h
  unfold SeqAt.shaped
  rw [h1, h2]
  simp [hd]
/-- == of flat data -/
theorem wEq_flat {a b : D} {S : Store} {Q : Bool → Prop} (ha : a.flat = true) (hb : b.flat = true) (da : a.dep ≤ 64) (db : b.dep ≤ 64) (q : Q (decide (a = b))) : wEq a b S Q :=
  .inl ⟨a.py, b.py, Rd.py a (D.flat_pure a ha), Rd.py b (D.flat_pure b hb), flat_shaped ha da, flat_shaped hb db, by rw [D.flat_eqv a b ha hb]; exact q⟩
theorem wCmp_eq {a b : D} {S : Store} {Q : Bool → Prop} (ha : a.flat = true) (hb : b.flat = true) (da : a.dep ≤ 64) (db : b.dep ≤ 64) (q : Q (decide (a = b))) : wCmp .Eq a b S Q := wEq_flat ha hb da db q
theorem wCmp_ne {a b : D} {S : Store} {Q : Bool → Prop} (ha : a.flat = true) (hb : b.flat = true) (da : a.dep ≤ 64) (db : b.dep ≤ 64) (q : Q (!decide (a = b))) : wCmp .NotEq a b S Q := wEq_flat (Q := fun t => Q (!t)) ha hb da db q
theorem wCmp_eq_str {a b : Str} {S : Store} {Q : Bool → Prop} (q : Q (decide (a = b))) : wCmp .Eq (.str a) (.str b) S Q := .inr ⟨a, b, rfl, rfl, q⟩
theorem wCmp_ne_str {a b : Str} {S : Store} {Q : Bool → Prop} (q : Q (!decide (a = b))) : wCmp .NotEq (.str a) (.str b) S Q := .inr ⟨a, b, rfl, rfl, q⟩
theorem flats_of {l : List D} (h : ∀ d ∈ l, d.flat = true) : D.flats l = true := by
  induction l with
  | nil => simp [D.flats]
  | cons d l ih =>
    rw [D.flats, h d List.mem_cons_self, ih fun x hx => h x (List.mem_cons_of_mem _ hx)]
    rfl
theorem deps_of {l : List D} {n : Nat} (h : ∀ d ∈ l, d.dep ≤ n) : D.deps l ≤ n := by
  induction l with
  | nil => simp [D.deps]
  | cons d l ih =>
    rw [D.deps]
    have := h d List.mem_cons_self
    have := ih fun x hx => h x (List.mem_cons_of_mem _ hx)
    omega
/-- a list of flat data -/
theorem lst_rd {S : Store} {i : Nat} {l : List D} (h : S[i]? = some (.lst l)) (hf : D.flats l = true) : Rd S (.obj i) (.list (D.pys l)) := .lst h (Rds.pys l (D.flats_pure l hf))
theorem lst_shaped {l : List D} (hf : D.flats l = true) (hd : D.deps l ≤ 63) : SeqAt.shaped (.list (D.pys l)) = true := by
  obtain ⟨h1, h2⟩ := D.flats_lay l hf
  unfold SeqAt.shaped
  rw [PyData.canLay0, PyData.depth, h1, h2]
  simp; omega
/-- != of two lists of flat data -/
theorem wCmp_ne_lst {i j : Nat} {l m : List D} {S : Store} {Q : Bool → Prop} (hi : S[i]? = some (.lst l)) (hj : S[j]? = some (.lst m)) (fl : D.flats l = true) (fm : D.flats m = true) (dl : D.deps l ≤ 63) (dm : D.deps m ≤ 63) (q : Q (!decide (l = m))) : wCmp .NotEq (.obj i) (.obj j) S Q :=
  .inl ⟨_, _, lst_rd hi fl, lst_rd hj fm, lst_shaped fl dl, lst_shaped fm dm, by rw [PyData.eqv, D.flats_eqv l m fl fm]; exact q⟩
theorem wCmp_eq_lst {i j : Nat} {l m : List D} {S : Store} {Q : Bool → Prop} (hi : S[i]? = some (.lst l)) (hj : S[j]? = some (.lst m)) (fl : D.flats l = true) (fm : D.flats m = true) (dl : D.deps l ≤ 63) (dm : D.deps m ≤ 63) (q : Q (decide (l = m))) : wCmp .Eq (.obj i) (.obj j) S Q :=
  .inl ⟨_, _, lst_rd hi fl, lst_rd hj fm, lst_shaped fl dl, lst_shaped fm dm, by rw [PyData.eqv, D.flats_eqv l m fl fm]; exact q⟩
theorem any_eqv {x : D} (hx : x.flat = true) : ∀ {l : List D}, D.flats l = true → (D.pys l).any (fun q => PyData.eqv q x.py) = decide (x ∈ l)
  | [], _ => by simp [D.pys]
  | d :: l, h => by
    rw [D.flats, Bool.and_eq_true] at h
    rw [D.pys, List.any_cons, D.flat_eqv d x h.1 hx, any_eqv hx h.2]
    rw [Bool.eq_iff_iff, Bool.or_eq_true, decide_eq_true_eq, decide_eq_true_eq, decide_eq_true_eq, List.mem_cons]
    exact ⟨fun h => h.imp (fun e => e.symm) id, fun h => h.imp (fun e => e.symm) id⟩
theorem shaped_all {l : List D} (hf : D.flats l = true) (hd : ∀ d ∈ l, d.dep ≤ 64) : (D.pys l).all SeqAt.shaped = true := by
  induction l with
  | nil => simp [D.pys]
  | cons d l ih =>
    rw [D.flats, Bool.and_eq_true] at hf
    rw [D.pys, List.all_cons, flat_shaped hf.1 (hd d List.mem_cons_self), ih hf.2 fun x hx => hd x (List.mem_cons_of_mem _ hx)]
    rfl
/-- x in a list or tuple of flat data -/
theorem wIn_seq {x y : D} {l : List D} {S : Store} {Q : Bool → Prop} (hy : itemsAt S y = some l) (hx : x.flat = true) (dx : x.dep ≤ 64) (hl : D.flats l = true) (dl : ∀ d ∈ l, d.dep ≤ 64) (q : Q (decide (x ∈ l))) : wIn x y S Q :=
  .inl ⟨l, x.py, D.pys l, hy, Rd.py x (D.flat_pure x hx), Rds.pys l (D.flats_pure l hl), flat_shaped hx dx, shaped_all hl dl, by rw [any_eqv hx hl]; exact q⟩
theorem wCmp_notIn {x y : D} {l : List D} {S : Store} {Q : Bool → Prop} (hy : itemsAt S y = some l) (hx : x.flat = true) (dx : x.dep ≤ 64) (hl : D.flats l = true) (dl : ∀ d ∈ l, d.dep ≤ 64) (q : Q (!decide (x ∈ l))) : wCmp .NotIn x y S Q :=
  wIn_seq (Q := fun t => Q (!t)) hy hx dx hl dl q
theorem wCmp_in {x y : D} {l : List D} {S : Store} {Q : Bool → Prop} (hy : itemsAt S y = some l) (hx : x.flat = true) (dx : x.dep ≤ 64) (hl : D.flats l = true) (dl : ∀ d ∈ l, d.dep ≤ 64) (q : Q (decide (x ∈ l))) : wCmp .In x y S Q :=
  wIn_seq hy hx dx hl dl q
end Lf

set_option Elab.async false
set_option linter.all false
set_option maxRecDepth 100000
set_option maxHeartbeats 4000000
/-! Lf24: repr of texts, None and tuples of them. -/
namespace Lf
open PySem
mutual
/-- texts that repr writes in at most 20 letters, None, tuples of them -/
def D.fine : D → Bool
  | .non => true
  | .str x => PyData.strOk x && decide ((reprText x).length ≤ 20)
  | .tup l => D.fines l
  | _ => false
def D.fines : List D → Bool
  | [] => true
  | d :: l => D.fine d && D.fines l
end
mutual
/-- at most so many letters -/
def D.big : D → Nat
  | .non => 4
  | .str _ => 20
  | .tup l => 3 + D.bigs l
  | _ => 0
def D.bigs : List D → Nat
  | [] => 0
  | d :: l => (D.big d + 2) + D.bigs l
end
mutual
theorem D.fine_flat : ∀ d : D, d.fine = true → d.flat = true
  | .non, _ => by simp [D.flat]
  | .str _, h => by rw [D.fine, Bool.and_eq_true] at h; rw [D.flat]; exact h.1
  | .tup l, h => by rw [D.fine] at h; rw [D.flat]; exact D.fines_flat l h
  | .bl _, h => by simp [D.fine] at h
  | .int _, h => by simp [D.fine] at h
  | .obj _, h => by simp [D.fine] at h
  | .scr, h => by simp [D.fine] at h
theorem D.fines_flat : ∀ l : List D, D.fines l = true → D.flats l = true
  | [], _ => by simp [D.flats]
  | d :: l, h => by
    rw [D.fines, Bool.and_eq_true] at h
    rw [D.flats, D.fine_flat d h.1, D.fines_flat l h.2]
    rfl
end
theorem tupText_len (ts : List Str) : (tupleText ts).length ≤ 3 + piled ts := by
  unfold tupleText
  rw [Str.length_append, Str.length_append]
  have e1 : ("(" : Str).length = 1 := by decide +kernel
  have e2 : ∀ b : Bool, ((if b = true then ",)" else ")" : String) : Str).length ≤ 2 := by decide +kernel
  have e3 := e2 (ts.length == 1)
  by_cases h : ts = []
  · subst h
    have e4 : (Str.join ", " []).length = 0 := by decide +kernel
    rw [e1, e4]
    have : ((if (([] : List Str).length == 1) = true then ",)" else ")" : String) : Str).length ≤ 2 := e2 _
    omega
  · have := join_length_add ts h
    omega
mutual
theorem D.fine_shown : ∀ d : D, d.fine = true → d.py.showable = true ∧ d.py.shown.length ≤ d.big
  | .non, _ => by
    rw [D.py, PyData.showable, PyData.shown, D.big]
    exact ⟨rfl, by decide +kernel⟩
  | .str x, h => by
    rw [D.fine, Bool.and_eq_true] at h
    rw [D.py, PyData.showable, PyData.shown, D.big]
    exact ⟨rfl, of_decide_eq_true h.2⟩
  | .tup l, h => by
    rw [D.fine] at h
    obtain ⟨h1, h2⟩ := D.fines_shown l h
    rw [D.py, PyData.showable, PyData.shown, D.big]
    exact ⟨h1, Nat.le_trans (tupText_len _) (by omega)⟩
  | .bl _, h => by simp [D.fine] at h
  | .int _, h => by simp [D.fine] at h
  | .obj _, h => by simp [D.fine] at h
  | .scr, h => by simp [D.fine] at h
theorem D.fines_shown : ∀ l : List D, D.fines l = true → PyData.showableAll (D.pys l) = true ∧ piled (PyData.shownAll (D.pys l)) ≤ D.bigs l
  | [], _ => by
    rw [D.pys, PyData.showableAll, PyData.shownAll, D.bigs]
    exact ⟨rfl, Nat.le_refl _⟩
  | d :: l, h => by
    rw [D.fines, Bool.and_eq_true] at h
    obtain ⟨h1, h2⟩ := D.fine_shown d h.1
    obtain ⟨h3, h4⟩ := D.fines_shown l h.2
    rw [D.pys, PyData.showableAll, PyData.shownAll, D.bigs, h1, h3, piled_cons]
    exact ⟨rfl, by omega⟩
end
theorem fines_of {l : List D} (h : ∀ d ∈ l, d.fine = true) : D.fines l = true := by
  induction l with
  | nil => simp [D.fines]
  | cons d l ih =>
    rw [D.fines, h d List.mem_cons_self, ih fun x hx => h x (List.mem_cons_of_mem _ hx)]
    rfl
theorem bigs_of {l : List D} {m : Nat} (h : ∀ d ∈ l, d.big ≤ m) : D.bigs l ≤ l.length * (m + 2) := by
  induction l with
  | nil => simp [D.bigs]
  | cons d l ih =>
    rw [D.bigs, List.length_cons, Nat.add_mul]
    have := h d List.mem_cons_self
    have := ih fun x hx => h x (List.mem_cons_of_mem _ hx)
    omega
/-- repr(x) -/
theorem repr_fine {x : D} {S : Store} {Q : K1} (h : x.fine = true) (hd : x.dep ≤ 64) (hb : x.big ≤ 100000) (q : Q (.str x.py.shown) S) : wBi .repr [x] S Q := by
  obtain ⟨h1, h2⟩ := D.fine_shown x h
  exact ⟨x.py, Rd.py x (D.flat_pure x (D.fine_flat x h)), flat_shaped (D.fine_flat x h) hd, h1, sz (by omega), q⟩
/-- repr([x, y]) -/
theorem repr_two {x y : D} {i : Nat} {S : Store} {Q : K1} (hi : S[i]? = some (.lst [x, y])) (hx : x.fine = true) (hy : y.fine = true) (dx : x.dep ≤ 60) (dy : y.dep ≤ 60) (bx : x.big ≤ 40000) (by_ : y.big ≤ 40000) (q : Q (.str (PyData.list [x.py, y.py]).shown) S) : wBi .repr [.obj i] S Q := by
  obtain ⟨h1, h2⟩ := D.fine_shown x hx
  obtain ⟨h3, h4⟩ := D.fine_shown y hy
  have fl : D.flats [x, y] = true := by rw [D.flats, D.flats, D.flats, D.fine_flat x hx, D.fine_flat y hy]; rfl
  have dl : D.deps [x, y] ≤ 63 := by rw [D.deps, D.deps, D.deps]; omega
  have ep : D.pys [x, y] = [x.py, y.py] := by rw [D.pys, D.pys, D.pys]
  have hr := lst_rd hi fl
  have hs := lst_shaped fl dl
  rw [ep] at hr hs
  refine ⟨_, hr, hs, ?_, ?_, q⟩
  · rw [PyData.showable, PyData.showableAll, PyData.showableAll, PyData.showableAll, h1, h3]
    rfl
  · rw [PyData.shown, PyData.shownAll, PyData.shownAll, PyData.shownAll]
    unfold listText textFrom textFrom textFrom
    rw [Str.length_append, Str.length_append, Str.length_append, Str.length_append, Str.length_append]
    have e1 : ("[" : Str).length = 1 := by decide +kernel
    have e2 : ("]" : Str).length = 1 := by decide +kernel
    have e3 : ((if 0 > 0 then ", " else "" : String) : Str).length = 0 := by decide +kernel
    have e4 : ((if 0 + 1 > 0 then ", " else "" : String) : Str).length = 2 := by decide +kernel
    rw [e1, e2, e3, e4]
    exact sz (by omega)
end Lf

set_option Elab.async false
set_option linter.all false
set_option maxRecDepth 100000
set_option maxHeartbeats 0
/-! The defs of logfolds_k03_clashes_beside_all_orders in the small language (printed by mk_ir.py). -/
namespace K03
open PySem Lf
def top (i : Nat) : Stmt := PySem.Challenge.pw_logfolds_k03_clashes_beside_all_orders.main.body.getD i (.Pass ⟨0, 0, 0, 0⟩)
def fns : List Str := ["table_of", "put_behind", "net_by", "has_clash", "least_clash", "clash_of", "_law_deck", "_law_draw", "_law_pick", "_law_names", "_law_table", "_law_spots", "_law_once", "_law_ends", "_law_clash", "_law_pairs", "_law_rules", "_law_asked", "_law_rows", "_law_right", "_law_by_hand", "law"]
def bn : List Str := ["len", "sorted", "repr", "list", "tuple", "str", "int", "dict", "range"]
def pat : Nat → List (Nat × List Str)
  | 5 => [(0, ["entries"])]
  | _ => []
/-- the defs ahead of the j-th one -/
abbrev pg (G : Nat → Sp) (j : Nat) : Prog := ⟨fns.take j, G, pat, bn⟩
def N_0 : List Str := ["rules", "x", "y", "result"]
def st_0 : Stmt := top 1
/-- table_of(0 rules, 1 x, 2 y, 3 result) -/
def ir_0 : Ts := (.cons (.ret (.dc [1, 2, 3] (.seq (.var 0)) (.tp (.cons (.nm 1) (.cons (.nm 2) (.cons (.nm 3) .nil)))) .no (.tup (.cons (.var 1) (.cons (.var 2) .nil))) (.var 3))) .nil)
theorem cc_0 (G : Nat → Sp) : cB (pg G 0) 40 10 ⟨N_0, dScope st_0, fun _ => true⟩ (dBody st_0) = some ir_0 := by kernel_rfl
theorem sc_0 : L2.FnScope N_0 ["rules"] (dScope st_0) := ⟨rfl, rfl, rfl, by decide +kernel, rfl, by decide +kernel, by decide +kernel⟩
def N_1 : List Str := ["table", "log", "entry", "last"]
def st_1 : Stmt := top 2
/-- put_behind(0 table, 1 log, 2 entry, 3 last) -/
def ir_1 : Ts := (.cons (.asg (.nm 3) (.tup (.cons (.var 2) .nil))) (.cons (.whl (.and (.cmp .NotEq (.var 1) (.tup .nil)) (.and (.cmp .NotEq (.var 3) (.tup .nil)) (.cmp .In (.tup (.cons (.ix (.var 1) (.neg (.con (.int 1)))) (.cons (.ix (.var 3) (.con (.int 0))) .nil))) (.var 0)))) (.cons (.asg (.nm 3) (.ix (.var 0) (.tup (.cons (.ix (.var 1) (.neg (.con (.int 1)))) (.cons (.ix (.var 3) (.con (.int 0))) .nil))))) (.cons (.asg (.nm 1) (.sl (.var 1) .no (.yes (.neg (.con (.int 1)))))) .nil))) (.cons (.ret (.bin .Add (.var 1) (.var 3))) .nil)))
theorem cc_1 (G : Nat → Sp) : cB (pg G 1) 40 10 ⟨N_1, dScope st_1, fun _ => true⟩ (dBody st_1) = some ir_1 := by kernel_rfl
theorem sc_1 : L2.FnScope N_1 ["table", "log", "entry"] (dScope st_1) := ⟨rfl, rfl, rfl, by decide +kernel, rfl, by decide +kernel, by decide +kernel⟩
def N_2 : List Str := ["table", "row", "log", "entry"]
def st_2 : Stmt := top 3
/-- net_by(0 table, 1 row, 2 log, 3 entry) -/
def ir_2 : Ts := (.cons (.asg (.nm 2) (.tup .nil)) (.cons (.for_ (.seq (.var 1)) (.nm 3) (.cons (.asg (.nm 2) (.call 1 (.cons (.var 0) (.cons (.var 2) (.cons (.var 3) .nil))))) .nil)) (.cons (.ret (.var 2)) .nil)))
theorem cc_2 (G : Nat → Sp) : cB (pg G 2) 40 10 ⟨N_2, dScope st_2, fun _ => true⟩ (dBody st_2) = some ir_2 := by kernel_rfl
theorem sc_2 : L2.FnScope N_2 ["table", "row"] (dScope st_2) := ⟨rfl, rfl, rfl, by decide +kernel, rfl, by decide +kernel, by decide +kernel⟩
def N_3 : List Str := ["table", "x", "y", "z"]
def st_3 : Stmt := top 4
/-- has_clash(0 table, 1 x, 2 y, 3 z) -/
def ir_3 : Ts := (.cons (.ife (.or (.cmp .NotIn (.tup (.cons (.var 1) (.cons (.var 2) .nil))) (.var 0)) (.cmp .NotIn (.tup (.cons (.var 2) (.cons (.var 3) .nil))) (.var 0))) (.cons (.ret (.con (.bl false))) .nil) .nil) (.cons (.ret (.cmp .NotEq (.call 2 (.cons (.var 0) (.cons (.tup (.star (.ix (.var 0) (.tup (.cons (.var 1) (.cons (.var 2) .nil)))) (.cons (.var 3) .nil))) .nil))) (.call 2 (.cons (.var 0) (.cons (.tup (.cons (.var 1) (.star (.ix (.var 0) (.tup (.cons (.var 2) (.cons (.var 3) .nil)))) .nil))) .nil))))) .nil))
theorem cc_3 (G : Nat → Sp) : cB (pg G 3) 40 10 ⟨N_3, dScope st_3, fun _ => true⟩ (dBody st_3) = some ir_3 := by kernel_rfl
theorem sc_3 : L2.FnScope N_3 ["table", "x", "y", "z"] (dScope st_3) := ⟨rfl, rfl, rfl, by decide +kernel, rfl, by decide +kernel, by decide +kernel⟩
def N_4 : List Str := ["entries", "table", "x", "y", "z"]
def st_4 : Stmt := top 5
/-- least_clash(0 entries, 1 table, 2 x, 3 y, 4 z) -/
def ir_4 : Ts := (.cons (.for_ (.seq (.var 0)) (.nm 2) (.cons (.for_ (.seq (.var 0)) (.nm 3) (.cons (.for_ (.seq (.var 0)) (.nm 4) (.cons (.ife (.call 3 (.cons (.var 1) (.cons (.var 2) (.cons (.var 3) (.cons (.var 4) .nil))))) (.cons (.ret (.tup (.cons (.var 2) (.cons (.var 3) (.cons (.var 4) .nil))))) .nil) .nil) .nil)) .nil)) .nil)) (.cons (.ret (.con .non)) .nil))
theorem cc_4 (G : Nat → Sp) : cB (pg G 4) 40 10 ⟨N_4, dScope st_4, fun _ => true⟩ (dBody st_4) = some ir_4 := by kernel_rfl
theorem sc_4 : L2.FnScope N_4 ["entries", "table"] (dScope st_4) := ⟨rfl, rfl, rfl, by decide +kernel, rfl, by decide +kernel, by decide +kernel⟩
def N_5 : List Str := ["entries", "rules"]
def st_5 : Stmt := top 6
/-- clash_of(0 entries, 1 rules) -/
def ir_5 : Ts := (.cons (.ret (.call 4 (.cons (.var 0) (.cons (.call 0 (.cons (.var 1) .nil)) .nil)))) .nil)
theorem cc_5 (G : Nat → Sp) : cB (pg G 5) 40 10 ⟨N_5, dScope st_5, fun _ => true⟩ (dBody st_5) = some ir_5 := by kernel_rfl
theorem sc_5 : L2.FnScope N_5 ["entries", "rules"] (dScope st_5) := ⟨rfl, rfl, rfl, by decide +kernel, rfl, by decide +kernel, by decide +kernel⟩
def N_6 : List Str := ["_law_script", "_law_cells", "_law_mixed", "_law_cell"]
def st_6 : Stmt := top 8
/-- _law_deck(0 _law_script, 1 _law_cells, 2 _law_mixed, 3 _law_cell) -/
def ir_6 : Ts := (.cons (.par [1, 2] (.cons (.bi .lst (.cons (.sl (.var 0) .no (.yes (.con (.int 63)))) .nil)) (.cons (.con (.int 98930307)) .nil))) (.cons (.for_ (.seq (.var 1)) (.nm 3) (.cons (.asg (.nm 2) (.bin .Mod (.bi .toInt (.cons (.bin .Add (.bin .Add (.bin .Mult (.var 2) (.con (.int 48271))) (.bin .Mod (.bi .toInt (.cons (.var 3) .nil)) (.con (.int 2147483629)))) (.con (.int 41))) .nil)) (.con (.int 2147483587)))) .nil)) (.cons (.ret (.lst (.cons (.rev (.var 1)) (.cons (.var 2) (.cons (.con (.int 0)) .nil))))) .nil)))
theorem cc_6 (G : Nat → Sp) : cB (pg G 6) 40 10 ⟨N_6, dScope st_6, fun _ => true⟩ (dBody st_6) = some ir_6 := by kernel_rfl
theorem sc_6 : L2.FnScope N_6 ["_law_script"] (dScope st_6) := ⟨rfl, rfl, rfl, by decide +kernel, rfl, by decide +kernel, by decide +kernel⟩
def N_7 : List Str := ["_law_deck_here", "_law_many", "_law_figure", "_law_cell"]
def st_7 : Stmt := top 9
/-- _law_draw(0 _law_deck_here, 1 _law_many, 2 _law_figure, 3 _law_cell) -/
def ir_7 : Ts := (.cons (.asg (.sub (.var 0) (.con (.int 2))) (.bin .Add (.ix (.var 0) (.con (.int 2))) (.con (.int 1)))) (.cons (.asg (.nm 2) (.bin .Add (.ix (.var 0) (.con (.int 1))) (.bin .Mult (.bin .Mult (.con (.int 40111)) (.ix (.var 0) (.con (.int 2)))) (.ix (.var 0) (.con (.int 2)))))) (.cons (.ife (.cmp .NotEq (.ix (.var 0) (.con (.int 0))) (.lst .nil)) (.cons (.asg (.nm 3) (.me .pop (.ix (.var 0) (.con (.int 0))) .nil)) (.cons (.ife (.cmp .GtE (.var 3) (.bin .Pow (.con (.int 10)) (.con (.int 18)))) (.cons (.ex (.me .append (.ix (.var 0) (.con (.int 0))) (.cons (.bin .FloorDiv (.var 3) (.var 1)) .nil))) (.cons (.ret (.bin .Mod (.bi .toInt (.cons (.var 3) .nil)) (.var 1))) .nil)) .nil) (.cons (.asg (.nm 2) (.bin .Add (.var 2) (.bi .toInt (.cons (.var 3) .nil)))) .nil))) .nil) (.cons (.asg (.nm 2) (.bin .Mod (.bin .Mult (.bi .toInt (.cons (.bin .Add (.bin .Mod (.bi .toInt (.cons (.var 2) .nil)) (.con (.int 2147483629))) (.con (.int 43))) .nil)) (.con (.int 40692))) (.con (.int 2147483647)))) (.cons (.asg (.nm 2) (.bin .Mod (.bi .toInt (.cons (.bin .Add (.bin .Add (.bin .Mult (.var 2) (.var 2)) (.bin .Mult (.con (.int 69621)) (.ix (.var 0) (.con (.int 2))))) (.con (.int 7))) .nil)) (.con (.int 2147483587)))) (.cons (.ret (.bin .Mod (.bin .FloorDiv (.bin .Mod (.bi .toInt (.cons (.bin .Mult (.var 2) (.con (.int 39373))) .nil)) (.con (.int 2147483563))) (.con (.int 64))) (.var 1))) .nil))))))
theorem cc_7 (G : Nat → Sp) : cB (pg G 7) 40 10 ⟨N_7, dScope st_7, fun _ => true⟩ (dBody st_7) = some ir_7 := by kernel_rfl
theorem sc_7 : L2.FnScope N_7 ["_law_deck_here", "_law_many"] (dScope st_7) := ⟨rfl, rfl, rfl, by decide +kernel, rfl, by decide +kernel, by decide +kernel⟩
def N_8 : List Str := ["_law_deck_here", "_law_some"]
def st_8 : Stmt := top 10
/-- _law_pick(0 _law_deck_here, 1 _law_some) -/
def ir_8 : Ts := (.cons (.ret (.ix (.var 1) (.call 7 (.cons (.var 0) (.cons (.bi .len (.cons (.var 1) .nil)) .nil))))) .nil)
theorem cc_8 (G : Nat → Sp) : cB (pg G 8) 40 10 ⟨N_8, dScope st_8, fun _ => true⟩ (dBody st_8) = some ir_8 := by kernel_rfl
theorem sc_8 : L2.FnScope N_8 ["_law_deck_here", "_law_some"] (dScope st_8) := ⟨rfl, rfl, rfl, by decide +kernel, rfl, by decide +kernel, by decide +kernel⟩
def N_9 : List Str := ["_law_deck_here", "_law_many", "_law_pool", "_law_found", "_law_k"]
def st_9 : Stmt := top 11
/-- _law_names(0 _law_deck_here, 1 _law_many, 2 _law_pool, 3 _law_found, 4 _law_k) -/
def ir_9 : Ts := (.cons (.par [2, 3] (.cons (.me .split (.con (.str "a b ab ba abc undo set off on x entries zzzzzzzz zzzzzzzy")) (.cons (.con (.str " ")) .nil)) (.cons (.lst .nil) .nil))) (.cons (.for_ (.rng (.var 1)) (.nm 4) (.cons (.ex (.me .append (.var 3) (.cons (.bi .toStr (.cons (.me .popAt (.var 2) (.cons (.call 7 (.cons (.var 0) (.cons (.bi .len (.cons (.var 2) .nil)) .nil))) .nil)) .nil)) .nil))) .nil)) (.cons (.ret (.bi .tup (.cons (.bi .sorted (.cons (.var 3) .nil)) .nil))) .nil)))
theorem cc_9 (G : Nat → Sp) : cB (pg G 9) 40 10 ⟨N_9, dScope st_9, fun _ => true⟩ (dBody st_9) = some ir_9 := by kernel_rfl
theorem sc_9 : L2.FnScope N_9 ["_law_deck_here", "_law_many"] (dScope st_9) := ⟨rfl, rfl, rfl, by decide +kernel, rfl, by decide +kernel, by decide +kernel⟩
def N_10 : List Str := ["_law_deck_here", "_law_names_here", "_law_part", "_law_found", "_law_x", "_law_y"]
def st_10 : Stmt := top 12
/-- _law_table(0 _law_deck_here, 1 _law_names_here, 2 _law_part, 3 _law_found, 4 _law_x, 5 _law_y) -/
def ir_10 : Ts := (.cons (.asg (.nm 3) .dnew) (.cons (.for_ (.seq (.var 1)) (.nm 4) (.cons (.for_ (.seq (.var 1)) (.nm 5) (.cons (.ife (.cmp .Gt (.call 7 (.cons (.var 0) (.cons (.var 2) .nil))) (.con (.int 0))) (.cons (.asg (.sub (.var 3) (.tup (.cons (.var 4) (.cons (.var 5) .nil)))) (.call 8 (.cons (.var 0) (.cons (.lst (.cons (.tup .nil) (.cons (.tup (.cons (.var 4) .nil)) (.cons (.tup (.cons (.var 5) .nil)) (.cons (.tup (.cons (.call 8 (.cons (.var 0) (.cons (.var 1) .nil))) .nil)) .nil))))) .nil)))) .nil) .nil) .nil)) .nil)) (.cons (.ret (.var 3)) .nil)))
theorem cc_10 (G : Nat → Sp) : cB (pg G 10) 40 10 ⟨N_10, dScope st_10, fun _ => true⟩ (dBody st_10) = some ir_10 := by kernel_rfl
theorem sc_10 : L2.FnScope N_10 ["_law_deck_here", "_law_names_here", "_law_part"] (dScope st_10) := ⟨rfl, rfl, rfl, by decide +kernel, rfl, by decide +kernel, by decide +kernel⟩
def N_11 : List Str := ["_law_table_here", "_law_row", "_law_k"]
def st_11 : Stmt := top 13
/-- _law_spots(0 _law_table_here, 1 _law_row, 2 _law_k) -/
def ir_11 : Ts := (.cons (.ret (.lc [2] (.rng (.bin .Sub (.bi .len (.cons (.var 1) .nil)) (.con (.int 1)))) (.nm 2) (.yes (.cmp .In (.tup (.cons (.ix (.var 1) (.var 2)) (.cons (.ix (.var 1) (.bin .Add (.var 2) (.con (.int 1)))) .nil))) (.var 0))) (.var 2))) .nil)
theorem cc_11 (G : Nat → Sp) : cB (pg G 11) 40 10 ⟨N_11, dScope st_11, fun _ => true⟩ (dBody st_11) = some ir_11 := by kernel_rfl
theorem sc_11 : L2.FnScope N_11 ["_law_table_here", "_law_row"] (dScope st_11) := ⟨rfl, rfl, rfl, by decide +kernel, rfl, by decide +kernel, by decide +kernel⟩
def N_12 : List Str := ["_law_table_here", "_law_row", "_law_k"]
def st_12 : Stmt := top 14
/-- _law_once(0 _law_table_here, 1 _law_row, 2 _law_k) -/
def ir_12 : Ts := (.cons (.ret (.bin .Add (.bin .Add (.sl (.var 1) .no (.yes (.var 2))) (.ix (.var 0) (.tup (.cons (.ix (.var 1) (.var 2)) (.cons (.ix (.var 1) (.bin .Add (.var 2) (.con (.int 1)))) .nil))))) (.sl (.var 1) (.yes (.bin .Add (.var 2) (.con (.int 2)))) .no))) .nil)
theorem cc_12 (G : Nat → Sp) : cB (pg G 12) 40 10 ⟨N_12, dScope st_12, fun _ => true⟩ (dBody st_12) = some ir_12 := by kernel_rfl
theorem sc_12 : L2.FnScope N_12 ["_law_table_here", "_law_row", "_law_k"] (dScope st_12) := ⟨rfl, rfl, rfl, by decide +kernel, rfl, by decide +kernel, by decide +kernel⟩
def N_13 : List Str := ["_law_table_here", "_law_row", "_law_waiting", "_law_known", "_law_found", "_law_here", "_law_spots_here", "_law_k", "_law_more"]
def st_13 : Stmt := top 15
/-- _law_ends(0 _law_table_here, 1 _law_row, 2 _law_waiting, 3 _law_known, 4 _law_found, 5 _law_here, 6 _law_spots_here, 7 _law_k, 8 _law_more) -/
def ir_13 : Ts := (.cons (.par [2, 3, 4] (.cons (.lst (.cons (.var 1) .nil)) (.cons (.lst (.cons (.var 1) .nil)) (.cons (.lst .nil) .nil)))) (.cons (.whl (.cmp .NotEq (.var 2) (.lst .nil)) (.cons (.asg (.nm 5) (.me .pop (.var 2) .nil)) (.cons (.asg (.nm 6) (.call 11 (.cons (.var 0) (.cons (.var 5) .nil)))) (.cons (.ife (.cmp .Eq (.var 6) (.lst .nil)) (.cons (.ex (.me .append (.var 4) (.cons (.var 5) .nil))) .nil) .nil) (.cons (.for_ (.seq (.var 6)) (.nm 7) (.cons (.asg (.nm 8) (.call 12 (.cons (.var 0) (.cons (.var 5) (.cons (.var 7) .nil))))) (.cons (.ife (.cmp .NotIn (.var 8) (.var 3)) (.cons (.ex (.me .append (.var 3) (.cons (.var 8) .nil))) (.cons (.ex (.me .append (.var 2) (.cons (.var 8) .nil))) .nil)) .nil) .nil))) .nil))))) (.cons (.ret (.var 4)) .nil)))
theorem cc_13 (G : Nat → Sp) : cB (pg G 13) 40 10 ⟨N_13, dScope st_13, fun _ => true⟩ (dBody st_13) = some ir_13 := by kernel_rfl
theorem sc_13 : L2.FnScope N_13 ["_law_table_here", "_law_row"] (dScope st_13) := ⟨rfl, rfl, rfl, by decide +kernel, rfl, by decide +kernel, by decide +kernel⟩
def N_14 : List Str := ["_law_names_here", "_law_table_here", "_law_x", "_law_y", "_law_z"]
def st_14 : Stmt := top 16
/-- _law_clash(0 _law_names_here, 1 _law_table_here, 2 _law_x, 3 _law_y, 4 _law_z) -/
def ir_14 : Ts := (.cons (.for_ (.seq (.var 0)) (.nm 2) (.cons (.for_ (.seq (.var 0)) (.nm 3) (.cons (.for_ (.seq (.var 0)) (.nm 4) (.cons (.ife (.cmp .Gt (.bi .len (.cons (.call 13 (.cons (.var 1) (.cons (.tup (.cons (.var 2) (.cons (.var 3) (.cons (.var 4) .nil)))) .nil))) .nil)) (.con (.int 1))) (.cons (.ret (.tup (.cons (.var 2) (.cons (.var 3) (.cons (.var 4) .nil))))) .nil) .nil) .nil)) .nil)) .nil)) (.cons (.ret (.con .non)) .nil))
theorem cc_14 (G : Nat → Sp) : cB (pg G 14) 40 10 ⟨N_14, dScope st_14, fun _ => true⟩ (dBody st_14) = some ir_14 := by kernel_rfl
theorem sc_14 : L2.FnScope N_14 ["_law_names_here", "_law_table_here"] (dScope st_14) := ⟨rfl, rfl, rfl, by decide +kernel, rfl, by decide +kernel, by decide +kernel⟩
def N_15 : List Str := ["_law_names_here", "_law_found", "_law_one", "_law_two"]
def st_15 : Stmt := top 17
/-- _law_pairs(0 _law_names_here, 1 _law_found, 2 _law_one, 3 _law_two) -/
def ir_15 : Ts := (.cons (.asg (.nm 1) (.lst .nil)) (.cons (.for_ (.seq (.var 0)) (.nm 2) (.cons (.asg (.nm 1) (.bin .Add (.var 1) (.lc [3] (.seq (.var 0)) (.nm 3) .no (.tup (.cons (.var 2) (.cons (.var 3) .nil)))))) .nil)) (.cons (.ret (.var 1)) .nil)))
theorem cc_15 (G : Nat → Sp) : cB (pg G 15) 40 10 ⟨N_15, dScope st_15, fun _ => true⟩ (dBody st_15) = some ir_15 := by kernel_rfl
theorem sc_15 : L2.FnScope N_15 ["_law_names_here"] (dScope st_15) := ⟨rfl, rfl, rfl, by decide +kernel, rfl, by decide +kernel, by decide +kernel⟩
def N_16 : List Str := ["_law_names_here", "_law_table_here", "_law_pair"]
def st_16 : Stmt := top 18
/-- _law_rules(0 _law_names_here, 1 _law_table_here, 2 _law_pair) -/
def ir_16 : Ts := (.cons (.ret (.bi .tup (.cons (.lc [2] (.seq (.call 15 (.cons (.var 0) .nil))) (.nm 2) (.yes (.cmp .In (.var 2) (.var 1))) (.bin .Add (.var 2) (.tup (.cons (.ix (.var 1) (.var 2)) .nil)))) .nil))) .nil)
theorem cc_16 (G : Nat → Sp) : cB (pg G 16) 40 10 ⟨N_16, dScope st_16, fun _ => true⟩ (dBody st_16) = some ir_16 := by kernel_rfl
theorem sc_16 : L2.FnScope N_16 ["_law_names_here", "_law_table_here"] (dScope st_16) := ⟨rfl, rfl, rfl, by decide +kernel, rfl, by decide +kernel, by decide +kernel⟩
def N_17 : List Str := ["_law_names_here", "_law_some"]
def st_17 : Stmt := top 19
/-- _law_asked(0 _law_names_here, 1 _law_some) -/
def ir_17 : Ts := (.cons (.ife (.cmp .Eq (.bi .len (.cons (.var 1) .nil)) (.con (.int 0))) (.cons (.ret (.call 5 (.cons (.var 0) .nil))) .nil) .nil) (.cons (.ife (.cmp .Eq (.bi .len (.cons (.var 1) .nil)) (.con (.int 1))) (.cons (.ret (.call 5 (.cons (.var 0) (.cons (.ix (.var 1) (.con (.int 0))) .nil)))) .nil) .nil) (.cons (.ife (.cmp .Eq (.bi .len (.cons (.var 1) .nil)) (.con (.int 2))) (.cons (.ret (.call 5 (.cons (.var 0) (.cons (.ix (.var 1) (.con (.int 0))) (.cons (.ix (.var 1) (.con (.int 1))) .nil))))) .nil) .nil) (.cons (.ife (.cmp .Eq (.bi .len (.cons (.var 1) .nil)) (.con (.int 3))) (.cons (.ret (.call 5 (.cons (.var 0) (.cons (.ix (.var 1) (.con (.int 0))) (.cons (.ix (.var 1) (.con (.int 1))) (.cons (.ix (.var 1) (.con (.int 2))) .nil)))))) .nil) .nil) (.cons (.ife (.cmp .Eq (.bi .len (.cons (.var 1) .nil)) (.con (.int 4))) (.cons (.ret (.call 5 (.cons (.var 0) (.cons (.ix (.var 1) (.con (.int 0))) (.cons (.ix (.var 1) (.con (.int 1))) (.cons (.ix (.var 1) (.con (.int 2))) (.cons (.ix (.var 1) (.con (.int 3))) .nil))))))) .nil) .nil) (.cons (.ife (.cmp .Eq (.bi .len (.cons (.var 1) .nil)) (.con (.int 5))) (.cons (.ret (.call 5 (.cons (.var 0) (.cons (.ix (.var 1) (.con (.int 0))) (.cons (.ix (.var 1) (.con (.int 1))) (.cons (.ix (.var 1) (.con (.int 2))) (.cons (.ix (.var 1) (.con (.int 3))) (.cons (.ix (.var 1) (.con (.int 4))) .nil)))))))) .nil) .nil) (.cons (.ife (.cmp .Eq (.bi .len (.cons (.var 1) .nil)) (.con (.int 6))) (.cons (.ret (.call 5 (.cons (.var 0) (.cons (.ix (.var 1) (.con (.int 0))) (.cons (.ix (.var 1) (.con (.int 1))) (.cons (.ix (.var 1) (.con (.int 2))) (.cons (.ix (.var 1) (.con (.int 3))) (.cons (.ix (.var 1) (.con (.int 4))) (.cons (.ix (.var 1) (.con (.int 5))) .nil))))))))) .nil) .nil) (.cons (.ife (.cmp .Eq (.bi .len (.cons (.var 1) .nil)) (.con (.int 7))) (.cons (.ret (.call 5 (.cons (.var 0) (.cons (.ix (.var 1) (.con (.int 0))) (.cons (.ix (.var 1) (.con (.int 1))) (.cons (.ix (.var 1) (.con (.int 2))) (.cons (.ix (.var 1) (.con (.int 3))) (.cons (.ix (.var 1) (.con (.int 4))) (.cons (.ix (.var 1) (.con (.int 5))) (.cons (.ix (.var 1) (.con (.int 6))) .nil)))))))))) .nil) .nil) (.cons (.ret (.call 5 (.cons (.var 0) (.cons (.ix (.var 1) (.con (.int 0))) (.cons (.ix (.var 1) (.con (.int 1))) (.cons (.ix (.var 1) (.con (.int 2))) (.cons (.ix (.var 1) (.con (.int 3))) (.cons (.ix (.var 1) (.con (.int 4))) (.cons (.ix (.var 1) (.con (.int 5))) (.cons (.ix (.var 1) (.con (.int 6))) (.cons (.ix (.var 1) (.con (.int 7))) .nil))))))))))) .nil)))))))))
theorem cc_17 (G : Nat → Sp) : cB (pg G 17) 40 10 ⟨N_17, dScope st_17, fun _ => true⟩ (dBody st_17) = some ir_17 := by kernel_rfl
theorem sc_17 : L2.FnScope N_17 ["_law_names_here", "_law_some"] (dScope st_17) := ⟨rfl, rfl, rfl, by decide +kernel, rfl, by decide +kernel, by decide +kernel⟩
def N_18 : List Str := ["_law_names_here", "_law_many", "_law_found", "_law_k", "_law_longer", "_law_row", "_law_one"]
def st_18 : Stmt := top 20
/-- _law_rows(0 _law_names_here, 1 _law_many, 2 _law_found, 3 _law_k, 4 _law_longer, 5 _law_row, 6 _law_one) -/
def ir_18 : Ts := (.cons (.asg (.nm 2) (.lst (.cons (.tup .nil) .nil))) (.cons (.for_ (.rng (.var 1)) (.nm 3) (.cons (.asg (.nm 4) (.lst .nil)) (.cons (.for_ (.seq (.var 2)) (.nm 5) (.cons (.asg (.nm 4) (.bin .Add (.var 4) (.lc [6] (.seq (.var 0)) (.nm 6) .no (.bin .Add (.var 5) (.tup (.cons (.var 6) .nil)))))) .nil)) (.cons (.asg (.nm 2) (.var 4)) .nil)))) (.cons (.ret (.var 2)) .nil)))
theorem cc_18 (G : Nat → Sp) : cB (pg G 18) 40 10 ⟨N_18, dScope st_18, fun _ => true⟩ (dBody st_18) = some ir_18 := by kernel_rfl
theorem sc_18 : L2.FnScope N_18 ["_law_names_here", "_law_many"] (dScope st_18) := ⟨rfl, rfl, rfl, by decide +kernel, rfl, by decide +kernel, by decide +kernel⟩
def N_19 : List Str := ["_law_names_here", "_law_some", "_law_table_here", "_law_it", "_law_due", "_law_before", "_law_row"]
def st_19 : Stmt := top 21
/-- _law_right(0 _law_names_here, 1 _law_some, 2 _law_table_here, 3 _law_it, 4 _law_due, 5 _law_before, 6 _law_row) -/
def ir_19 : Ts := (.cons (.asg (.nm 2) (.bi .dict (.cons (.lc [3] (.seq (.var 1)) (.nm 3) .no (.tup (.cons (.sl (.var 3) .no (.yes (.con (.int 2)))) (.cons (.ix (.var 3) (.con (.int 2))) .nil)))) .nil))) (.cons (.par [4, 5] (.cons (.call 14 (.cons (.var 0) (.cons (.var 2) .nil))) (.cons (.bi .repr (.cons (.tup (.cons (.var 0) (.cons (.var 1) .nil))) .nil)) .nil))) (.cons (.ife (.cmp .NotEq (.bi .repr (.cons (.lst (.cons (.call 17 (.cons (.var 0) (.cons (.var 1) .nil))) (.cons (.call 17 (.cons (.var 0) (.cons (.rev (.var 1)) .nil))) .nil))) .nil)) (.bi .repr (.cons (.lst (.cons (.var 4) (.cons (.var 4) .nil))) .nil))) (.cons (.ret (.con (.bl false))) .nil) .nil) (.cons (.ife (.cmp .Is (.var 4) (.con .non)) (.cons (.for_ (.seq (.bin .Add (.call 18 (.cons (.var 0) (.cons (.con (.int 3)) .nil))) (.call 18 (.cons (.var 0) (.cons (.con (.int 4)) .nil))))) (.nm 6) (.cons (.ife (.cmp .NotEq (.bi .len (.cons (.call 13 (.cons (.var 2) (.cons (.var 6) .nil))) .nil)) (.con (.int 1))) (.cons (.ret (.con (.bl false))) .nil) .nil) .nil)) .nil) .nil) (.cons (.ret (.cmp .Eq (.bi .repr (.cons (.tup (.cons (.var 0) (.cons (.var 1) .nil))) .nil)) (.var 5))) .nil)))))
theorem cc_19 (G : Nat → Sp) : cB (pg G 19) 40 10 ⟨N_19, dScope st_19, fun _ => true⟩ (dBody st_19) = some ir_19 := by kernel_rfl
theorem sc_19 : L2.FnScope N_19 ["_law_names_here", "_law_some"] (dScope st_19) := ⟨rfl, rfl, rfl, by decide +kernel, rfl, by decide +kernel, by decide +kernel⟩
def N_20 : List Str := ["_law_deck_here", "_law_a", "_law_b", "_law_c", "_law_back", "_law_turn", "_law_found", "_law_some", "_law_due"]
def st_20 : Stmt := top 22
/-- _law_by_hand(0 _law_deck_here, 1 _law_a, 2 _law_b, 3 _law_c, 4 _law_back, 5 _law_turn, 6 _law_found, 7 _law_some, 8 _law_due) -/
def ir_20 : Ts := (.cons (.asg (.tp (.cons (.nm 1) (.cons (.nm 2) (.cons (.nm 3) .nil)))) (.call 9 (.cons (.var 0) (.cons (.con (.int 3)) .nil)))) (.cons (.par [4, 5] (.cons (.tup (.cons (.var 1) (.cons (.var 2) (.cons (.tup .nil) .nil)))) (.cons (.tup (.cons (.var 1) (.cons (.var 1) (.cons (.tup .nil) .nil)))) .nil))) (.cons (.asg (.nm 6) (.lst (.cons (.tup (.cons (.lst .nil) (.cons (.con .non) .nil))) (.cons (.tup (.cons (.lst (.cons (.var 5) .nil)) (.cons (.con .non) .nil))) (.cons (.tup (.cons (.lst (.cons (.var 4) .nil)) (.cons (.con .non) .nil))) (.cons (.tup (.cons (.lst (.cons (.var 4) (.cons (.tup (.cons (.var 2) (.cons (.var 1) (.cons (.tup .nil) .nil)))) .nil))) (.cons (.con .non) .nil))) (.cons (.tup (.cons (.lst (.cons (.tup (.cons (.var 1) (.cons (.var 1) (.cons (.tup (.cons (.var 1) .nil)) .nil)))) .nil)) (.cons (.con .non) .nil))) .nil))))))) (.cons (.asg (.nm 6) (.bin .Add (.var 6) (.lst (.cons (.tup (.cons (.lst (.cons (.tup (.cons (.var 1) (.cons (.var 1) (.cons (.tup (.cons (.var 2) .nil)) .nil)))) .nil)) (.cons (.tup (.cons (.var 1) (.cons (.var 1) (.cons (.var 1) .nil)))) .nil))) (.cons (.tup (.cons (.lst (.cons (.var 4) (.cons (.tup (.cons (.var 2) (.cons (.var 1) (.cons (.tup (.cons (.var 1) .nil)) .nil)))) .nil))) (.cons (.tup (.cons (.var 1) (.cons (.var 2) (.cons (.var 1) .nil)))) .nil))) (.cons (.tup (.cons (.lst (.cons (.var 4) (.cons (.tup (.cons (.var 2) (.cons (.var 3) (.cons (.tup .nil) .nil)))) .nil))) (.cons (.tup (.cons (.var 1) (.cons (.var 2) (.cons (.var 3) .nil)))) .nil))) .nil)))))) (.cons (.asg (.nm 6) (.bin .Add (.var 6) (.lst (.cons (.tup (.cons (.lst (.cons (.tup (.cons (.var 1) (.cons (.var 1) (.cons (.tup (.cons (.var 1) .nil)) .nil)))) (.cons (.tup (.cons (.var 1) (.cons (.var 2) (.cons (.tup (.cons (.var 2) .nil)) .nil)))) (.cons (.tup (.cons (.var 2) (.cons (.var 1) (.cons (.tup (.cons (.var 1) .nil)) .nil)))) (.cons (.tup (.cons (.var 2) (.cons (.var 2) (.cons (.tup (.cons (.var 2) .nil)) .nil)))) .nil))))) (.cons (.con .non) .nil))) (.cons (.tup (.cons (.lst (.cons (.var 5) (.cons (.tup (.cons (.var 1) (.cons (.var 2) (.cons (.tup (.cons (.var 2) .nil)) .nil)))) .nil))) (.cons (.con .non) .nil))) .nil))))) (.cons (.asg (.nm 6) (.bin .Add (.var 6) (.lst (.cons (.tup (.cons (.lst (.cons (.tup (.cons (.var 1) (.cons (.var 2) (.cons (.tup (.cons (.var 3) .nil)) .nil)))) (.cons (.tup (.cons (.var 2) (.cons (.var 3) (.cons (.tup (.cons (.var 1) .nil)) .nil)))) .nil))) (.cons (.tup (.cons (.var 1) (.cons (.var 2) (.cons (.var 3) .nil)))) .nil))) (.cons (.tup (.cons (.lst (.cons (.tup (.cons (.var 1) (.cons (.var 2) (.cons (.tup (.cons (.var 2) .nil)) .nil)))) (.cons (.tup (.cons (.var 2) (.cons (.var 3) (.cons (.tup (.cons (.var 3) .nil)) .nil)))) (.cons (.tup (.cons (.var 1) (.cons (.var 3) (.cons (.tup (.cons (.var 3) .nil)) .nil)))) .nil)))) (.cons (.con .non) .nil))) .nil))))) (.cons (.asg (.nm 6) (.bin .Add (.var 6) (.lst (.cons (.tup (.cons (.lst (.cons (.tup (.cons (.var 1) (.cons (.var 2) (.cons (.tup (.cons (.var 1) .nil)) .nil)))) (.cons (.tup (.cons (.var 2) (.cons (.var 3) (.cons (.tup (.cons (.var 2) .nil)) .nil)))) .nil))) (.cons (.tup (.cons (.var 1) (.cons (.var 2) (.cons (.var 3) .nil)))) .nil))) (.cons (.tup (.cons (.lst (.cons (.tup (.cons (.var 1) (.cons (.var 2) (.cons (.tup (.cons (.var 1) .nil)) .nil)))) (.cons (.tup (.cons (.var 2) (.cons (.var 2) (.cons (.tup (.cons (.var 2) .nil)) .nil)))) .nil))) (.cons (.con .non) .nil))) .nil))))) (.cons (.asg (.nm 6) (.bin .Add (.var 6) (.lst (.cons (.tup (.cons (.lst (.cons (.var 5) (.cons (.tup (.cons (.var 1) (.cons (.var 2) (.cons (.tup (.cons (.var 3) .nil)) .nil)))) .nil))) (.cons (.tup (.cons (.var 1) (.cons (.var 1) (.cons (.var 2) .nil)))) .nil))) (.cons (.tup (.cons (.lst (.cons (.tup (.cons (.var 1) (.cons (.var 2) (.cons (.tup (.cons (.var 1) .nil)) .nil)))) (.cons (.tup (.cons (.var 2) (.cons (.var 3) (.cons (.tup (.cons (.var 3) .nil)) .nil)))) .nil))) (.cons (.con .non) .nil))) .nil))))) (.cons (.ret (.lc [7, 8] (.seq (.var 6)) (.tp (.cons (.nm 7) (.cons (.nm 8) .nil))) .no (.tup (.cons (.tup (.cons (.var 1) (.cons (.var 2) (.cons (.var 3) .nil)))) (.cons (.bi .tup (.cons (.var 7) .nil)) (.cons (.var 8) .nil)))))) .nil)))))))))
theorem cc_20 (G : Nat → Sp) : cB (pg G 20) 40 10 ⟨N_20, dScope st_20, fun _ => true⟩ (dBody st_20) = some ir_20 := by kernel_rfl
theorem sc_20 : L2.FnScope N_20 ["_law_deck_here"] (dScope st_20) := ⟨rfl, rfl, rfl, by decide +kernel, rfl, by decide +kernel, by decide +kernel⟩
def N_21 : List Str := ["_law_script", "_law_deck_here", "_law_turn", "_law_names_here", "_law_some", "_law_due"]
def st_21 : Stmt := top 23
/-- law(0 _law_script, 1 _law_deck_here, 2 _law_turn, 3 _law_names_here, 4 _law_some, 5 _law_due) -/
def ir_21 : Ts := (.cons (.asg (.nm 1) (.call 6 (.cons (.var 0) .nil))) (.cons (.for_ (.rng (.con (.int 8))) (.nm 2) (.cons (.asg (.nm 3) (.call 9 (.cons (.var 1) (.cons (.bin .Add (.con (.int 1)) (.call 7 (.cons (.var 1) (.cons (.con (.int 3)) .nil)))) .nil)))) (.cons (.asg (.nm 4) (.bi .lst (.cons (.call 16 (.cons (.var 3) (.cons (.call 10 (.cons (.var 1) (.cons (.var 3) (.cons (.call 8 (.cons (.var 1) (.cons (.lst (.cons (.con (.int 2)) (.cons (.con (.int 2)) (.cons (.con (.int 3)) (.cons (.con (.int 9)) .nil))))) .nil))) .nil)))) .nil))) .nil))) (.cons (.whl (.cmp .Gt (.bi .len (.cons (.var 4) .nil)) (.con (.int 8))) (.cons (.ex (.me .popAt (.var 4) (.cons (.call 7 (.cons (.var 1) (.cons (.bi .len (.cons (.var 4) .nil)) .nil))) .nil))) .nil)) (.cons (.ife (.not (.call 19 (.cons (.var 3) (.cons (.bi .tup (.cons (.var 4) .nil)) .nil)))) (.cons (.ret (.con (.bl false))) .nil) .nil) .nil))))) (.cons (.for_ (.seq (.call 20 (.cons (.var 1) .nil))) (.tp (.cons (.nm 3) (.cons (.nm 4) (.cons (.nm 5) .nil)))) (.cons (.ife (.or (.cmp .NotEq (.bi .repr (.cons (.call 17 (.cons (.var 3) (.cons (.var 4) .nil))) .nil)) (.bi .repr (.cons (.var 5) .nil))) (.not (.call 19 (.cons (.var 3) (.cons (.var 4) .nil))))) (.cons (.ret (.con (.bl false))) .nil) .nil) .nil)) (.cons (.ret (.cmp .Eq (.bi .repr (.cons (.call 5 (.cons (.tup (.cons (.con (.str "a")) (.cons (.con (.str "b")) .nil))) .nil)) .nil)) (.con (.str "None")))) .nil))))
theorem cc_21 (G : Nat → Sp) : cB (pg G 21) 40 10 ⟨N_21, dScope st_21, fun _ => true⟩ (dBody st_21) = some ir_21 := by kernel_rfl
theorem sc_21 : L2.FnScope N_21 ["_law_script"] (dScope st_21) := ⟨rfl, rfl, rfl, by decide +kernel, rfl, by decide +kernel, by decide +kernel⟩
end K03

set_option Elab.async false
set_option linter.all false
set_option maxRecDepth 100000
set_option maxHeartbeats 4000000
/-! K03b: rows, folds, nets, clashes; plain Lean. -/
namespace K03
section
variable {α : Type} [DecidableEq α]
abbrev Tb (α : Type) := List ((α × α) × List α)
def Tb.get (T : Tb α) (x y : α) : Option (List α) := (T.find? fun p => decide (p.1 = (x, y))).map (·.2)
/-- no result is longer than one entry -/
def Small (T : Tb α) : Prop := ∀ p ∈ T, p.2.length ≤ 1
theorem Small.get {T : Tb α} (h : Small T) {x y : α} {r : List α} (e : T.get x y = some r) : r.length ≤ 1 := by
  unfold Tb.get at e
  obtain ⟨p, h1, h2⟩ := Option.map_eq_some_iff.mp e
  subst h2
  exact h p (List.mem_of_find?_eq_some h1)
/-- an entry put behind a log (turned round) -/
def pb (T : Tb α) : List α → List α → List α
  | [], last => last
  | l :: log, [] => (l :: log).reverse
  | l :: log, f :: m => match T.get l f with
    | some r => pb T log r
    | none => (l :: log).reverse ++ (f :: m)
def netBy (T : Tb α) (row : List α) : List α := row.foldl (fun log e => pb T log.reverse [e]) []
def hasClash (T : Tb α) (x y z : α) : Bool := match T.get x y, T.get y z with
  | some l, some r => decide (netBy T (l ++ [z]) ≠ netBy T (x :: r))
  | _, _ => false
def least (T : Tb α) (names : List α) : Option (α × α × α) := names.findSome? fun x => names.findSome? fun y => names.findSome? fun z => if hasClash T x y z then some (x, y, z) else none
inductive Step (T : Tb α) : List α → List α → Prop
  | at (a : List α) (x y : α) (b r : List α) : T.get x y = some r → Step T (a ++ x :: y :: b) (a ++ r ++ b)
inductive Reach (T : Tb α) : List α → List α → Prop
  | refl (r) : Reach T r r
  | head {r s t} : Step T r s → Reach T s t → Reach T r t
def Net (T : Tb α) (r : List α) : Prop := ∀ s, ¬ Step T r s
section
variable {T : Tb α}
theorem Reach.trans {r s t : List α} (h : Reach T r s) (k : Reach T s t) : Reach T r t := by
  induction h with
  | refl r => exact k
  | head a _ ih => exact .head a (ih k)
theorem Step.ctx {r s : List α} (h : Step T r s) (a b : List α) : Step T (a ++ r ++ b) (a ++ s ++ b) := by
  cases h with
  | «at» c x y d e hg =>
    have := Step.at (T := T) (a ++ c) x y (d ++ b) e hg
    simpa using this
theorem Reach.ctx {r s : List α} (h : Reach T r s) (a b : List α) : Reach T (a ++ r ++ b) (a ++ s ++ b) := by
  induction h with
  | refl r => exact .refl _
  | head k _ ih => exact .head (k.ctx a b) ih
theorem Step.len (h : Small T) {r s : List α} (k : Step T r s) : s.length < r.length := by
  cases k with
  | «at» a x y b e hg =>
    have := h.get hg
    simp
    omega
theorem pb_reach (h : Small T) : ∀ (log last : List α), last.length ≤ 1 → Reach T (log.reverse ++ last) (pb T log last)
  | [], last, _ => by rw [pb]; exact .refl _
  | l :: log, [], _ => by rw [pb, List.append_nil]; exact .refl _
  | l :: log, f :: m, hl => by
    have hm : m = [] := by
      cases m with
      | nil => rfl
      | cons a m => simp at hl
    subst hm
    rw [pb]
    cases e : T.get l f with
    | none => exact .refl _
    | some r =>
      refine .head (s := log.reverse ++ r) ?_ (pb_reach h log r (h.get e))
      have := Step.at (T := T) log.reverse l f [] r e
      simpa using this
theorem net_reach_from (h : Small T) : ∀ (row log : List α), Reach T (log ++ row) (row.foldl (fun log e => pb T log.reverse [e]) log)
  | [], log => by rw [List.append_nil]; exact .refl _
  | e :: row, log => by
    rw [List.foldl_cons]
    have h1 := pb_reach h log.reverse [e] (by simp)
    rw [List.reverse_reverse] at h1
    have h2 := h1.ctx [] row
    simp at h2
    exact h2.trans (net_reach_from h row _)
theorem net_reach (h : Small T) (row : List α) : Reach T row (netBy T row) := by
  have := net_reach_from h row []
  rw [List.nil_append] at this
  exact this
theorem net_le1 {r : List α} (h : r.length ≤ 1) : Net T r := fun s k => by
  cases k with
  | «at» a x y b e hg => simp at h; omega
theorem step_two {x y : α} {s : List α} (k : Step T [x, y] s) : T.get x y = some s := by
  generalize e : [x, y] = r at k
  cases k with
  | «at» a x' y' b e' hg =>
    cases a with
    | nil =>
      simp at e
      obtain ⟨rfl, rfl, rfl⟩ := e
      simpa using hg
    | cons c a =>
      cases a with
      | nil => simp at e
      | cons d a => simp at e
theorem netBy_nil : netBy T ([] : List α) = [] := rfl
theorem netBy_one (a : α) : netBy T [a] = [a] := rfl
theorem netBy_two (a b : α) : netBy T [a, b] = (match T.get a b with
    | some r => r
    | none => [a, b]) := by
  show pb T [a] [b] = _
  rw [pb]
  cases e : T.get a b <;> simp [pb]
theorem reach_net {r n : List α} (h : Net T r) (k : Reach T r n) : n = r := by
  cases k with
  | refl => rfl
  | head a _ => exact (h _ a).elim
/-- rows of at most two entries have one net -/
theorem short_net (h : Small T) {r n : List α} (hl : r.length ≤ 2) (k : Reach T r n) (hn : Net T n) : n = netBy T r := by
  match r, hl with
  | [], _ => exact reach_net (net_le1 (show ([] : List α).length ≤ 1 from Nat.zero_le _)) k
  | [a], _ => exact reach_net (net_le1 (show [a].length ≤ 1 from Nat.le_refl _)) k
  | [a, b], _ =>
    rw [netBy_two]
    cases k with
    | refl =>
      cases e : T.get a b with
      | none => rfl
      | some r => exact (hn _ (by simpa using Step.at (T := T) [] a b [] r e)).elim
    | head s k =>
      have e := step_two s
      rw [e]
      exact reach_net (net_le1 (h.get e)) k
theorem short_is_net (h : Small T) {r : List α} (hl : r.length ≤ 2) : Net T (netBy T r) := by
  match r, hl with
  | [], _ => exact net_le1 (show ([] : List α).length ≤ 1 from Nat.zero_le _)
  | [a], _ => exact net_le1 (show [_].length ≤ 1 from Nat.le_refl _)
  | [a, b], _ =>
    rw [netBy_two]
    cases e : T.get a b with
    | none => exact fun s k => by have := step_two k; rw [e] at this; cases this
    | some r => exact net_le1 (h.get e)
theorem step_three {x y z : α} {s : List α} (k : Step T [x, y, z] s) : (∃ l, T.get x y = some l ∧ s = l ++ [z]) ∨ ∃ r, T.get y z = some r ∧ s = x :: r := by
  generalize e : [x, y, z] = r at k
  cases k with
  | «at» a x' y' b e' hg =>
    match a, e with
    | [], e =>
      simp at e
      obtain ⟨rfl, rfl, rfl⟩ := e
      exact .inl ⟨_, hg, by simp⟩
    | [c], e =>
      simp at e
      obtain ⟨rfl, rfl, rfl, rfl⟩ := e
      exact .inr ⟨_, hg, by simp⟩
    | c :: d :: a, e =>
      have := congrArg List.length e
      simp at this
      omega
/-- a row of three has two nets exactly if it clashes -/
theorem clash_two (h : Small T) {x y z : α} (hc : hasClash T x y z = true) : ∃ m n, m ≠ n ∧ (Reach T [x, y, z] m ∧ Net T m) ∧ (Reach T [x, y, z] n ∧ Net T n) := by
  unfold hasClash at hc
  split at hc
  · rename_i l r h1 h2
    have hl := h.get h1
    have hr := h.get h2
    refine ⟨_, _, of_decide_eq_true hc, ⟨.head (s := l ++ [z]) ?_ (net_reach h _), short_is_net h (by simp; omega)⟩, ⟨.head (s := x :: r) ?_ (net_reach h _), short_is_net h (by simp; omega)⟩⟩
    · have := Step.at (T := T) [] x y [z] l h1
      simpa using this
    · have := Step.at (T := T) [x] y z [] r h2
      simpa using this
  · cases hc
theorem clear_one (h : Small T) {x y z : α} (hc : hasClash T x y z = false) {m n : List α} (hm : Reach T [x, y, z] m) (nm : Net T m) (hn : Reach T [x, y, z] n) (nn : Net T n) : m = n := by
  have key : ∀ {s m : List α}, Step T [x, y, z] s → Reach T s m → Net T m → (∃ l, T.get x y = some l ∧ m = netBy T (l ++ [z])) ∨ ∃ r, T.get y z = some r ∧ m = netBy T (x :: r) := by
    intro s m k rm nm
    rcases step_three k with ⟨l, h1, rfl⟩ | ⟨r, h1, rfl⟩
    · have := h.get h1
      exact .inl ⟨l, h1, short_net h (by simp; omega) rm nm⟩
    · have := h.get h1
      exact .inr ⟨r, h1, short_net h (by simp; omega) rm nm⟩
  unfold hasClash at hc
  cases hm with
  | refl => exact (reach_net nm hn).symm
  | head k1 r1 =>
    cases hn with
    | refl => exact (nn _ k1).elim
    | head k2 r2 =>
      rcases key k1 r1 nm with ⟨l, a1, rfl⟩ | ⟨r, a1, rfl⟩ <;> rcases key k2 r2 nn with ⟨l', a2, rfl⟩ | ⟨r', a2, rfl⟩
      · rw [a1] at a2; cases a2; rfl
      · rw [a1, a2] at hc
        simpa using hc
      · rw [a1, a2] at hc
        have : netBy T (l' ++ [z]) = netBy T (x :: r) := by simpa using hc
        exact this.symm
      · rw [a1] at a2; cases a2; rfl
theorem has_net (h : Small T) : ∀ (n : Nat) (r : List α), r.length ≤ n → ∃ m, Reach T r m ∧ Net T m := by
  intro n
  induction n with
  | zero =>
    intro r hr
    exact ⟨r, .refl _, net_le1 (by omega)⟩
  | succ n ih =>
    intro r hr
    by_cases hn : Net T r
    · exact ⟨r, .refl _, hn⟩
    · have : ∃ s, Step T r s := Classical.byContradiction fun z => hn fun s k => z ⟨s, k⟩
      obtain ⟨s, k⟩ := this
      have := k.len h
      obtain ⟨m, h1, h2⟩ := ih s (by omega)
      exact ⟨m, .head k h1, h2⟩
/-- closed: the entries of the table's results are names -/
def Closed (T : Tb α) (A : List α) : Prop := ∀ p ∈ T, ∀ e ∈ p.2, e ∈ A
theorem Closed.step {A : List α} (c : Closed T A) {r s : List α} (k : Step T r s) (h : ∀ e ∈ r, e ∈ A) : ∀ e ∈ s, e ∈ A := by
  cases k with
  | «at» a x y b res hg =>
    unfold Tb.get at hg
    obtain ⟨p, h1, h2⟩ := Option.map_eq_some_iff.mp hg
    subst h2
    have hp := List.mem_of_find?_eq_some h1
    intro e he
    simp at he
    rcases he with he | he | he
    · exact h e (by simp [he])
    · exact c p hp e he
    · exact h e (by simp [he])
theorem split_two : ∀ {a a' : List α} {x y x' y' : α} {b b' : List α}, a ++ x :: y :: b = a' ++ x' :: y' :: b' →
    (a = a' ∧ x = x' ∧ y = y' ∧ b = b') ∨ (a' = a ++ [x] ∧ x' = y ∧ b = y' :: b') ∨ (a = a' ++ [x'] ∧ x = y' ∧ b' = y :: b) ∨ (∃ c, a' = a ++ x :: y :: c ∧ b = c ++ x' :: y' :: b') ∨ (∃ c, a = a' ++ x' :: y' :: c ∧ b' = c ++ x :: y :: b)
  | [], [], x, y, x', y', b, b', h => by
    simp at h
    exact .inl ⟨rfl, h.1, h.2.1, h.2.2⟩
  | [], [c], x, y, x', y', b, b', h => by
    simp at h
    obtain ⟨rfl, rfl, rfl⟩ := h
    exact .inr (.inl ⟨rfl, rfl, rfl⟩)
  | [], c :: d :: a', x, y, x', y', b, b', h => by
    simp at h
    obtain ⟨rfl, rfl, rfl⟩ := h
    exact .inr (.inr (.inr (.inl ⟨a', rfl, rfl⟩)))
  | [c], [], x, y, x', y', b, b', h => by
    simp at h
    obtain ⟨rfl, rfl, rfl⟩ := h
    exact .inr (.inr (.inl ⟨rfl, rfl, rfl⟩))
  | c :: d :: a, [], x, y, x', y', b, b', h => by
    simp at h
    obtain ⟨rfl, rfl, rfl⟩ := h
    exact .inr (.inr (.inr (.inr ⟨a, rfl, rfl⟩)))
  | c :: a, c' :: a', x, y, x', y', b, b', h => by
    simp at h
    obtain ⟨rfl, h⟩ := h
    rcases split_two h with ⟨rfl, q⟩ | ⟨rfl, q⟩ | ⟨rfl, q⟩ | ⟨e, rfl, q⟩ | ⟨e, rfl, q⟩
    · exact .inl ⟨rfl, q⟩
    · exact .inr (.inl ⟨rfl, q⟩)
    · exact .inr (.inr (.inl ⟨rfl, q⟩))
    · exact .inr (.inr (.inr (.inl ⟨e, rfl, q⟩)))
    · exact .inr (.inr (.inr (.inr ⟨e, rfl, q⟩)))
/-- two folds of a row of names come together again, if no row of three clashes -/
theorem joins (h : Small T) {A : List α} (hc : ∀ x ∈ A, ∀ y ∈ A, ∀ z ∈ A, hasClash T x y z = false) {r s t : List α} (hr : ∀ e ∈ r, e ∈ A) (k1 : Step T r s) (k2 : Step T r t) : ∃ u, Reach T s u ∧ Reach T t u := by
  cases k1 with
  | «at» a x y b e1 g1 =>
    generalize er : a ++ x :: y :: b = r' at k2 hr
    cases k2 with
    | «at» a' x' y' b' e2 g2 =>
      have over : ∀ {a b : List α} {x y z : α} {l r : List α}, T.get x y = some l → T.get y z = some r → x ∈ A → y ∈ A → z ∈ A → ∃ u, Reach T (a ++ l ++ z :: b) u ∧ Reach T (a ++ [x] ++ r ++ b) u := by
        intro a b x y z l r gl gr hx hy hz
        have hcl := hc x hx y hy z hz
        unfold hasClash at hcl
        rw [gl, gr] at hcl
        have e : netBy T (l ++ [z]) = netBy T (x :: r) := by simpa using hcl
        refine ⟨a ++ netBy T (l ++ [z]) ++ b, ?_, ?_⟩
        · have := (net_reach h (l ++ [z])).ctx a b
          simpa using this
        · rw [e]
          have := (net_reach h (x :: r)).ctx a b
          simpa using this
      rcases split_two er with ⟨rfl, rfl, rfl, rfl⟩ | ⟨rfl, rfl, rfl⟩ | ⟨rfl, rfl, rfl⟩ | ⟨c, rfl, rfl⟩ | ⟨c, rfl, rfl⟩
      · rw [g1] at g2
        cases g2
        exact ⟨_, .refl _, .refl _⟩
      · exact over g1 g2 (hr _ (by simp)) (hr _ (by simp)) (hr _ (by simp))
      · obtain ⟨u, h1, h2⟩ := over (a := a') (b := b) g2 g1 (hr _ (by simp)) (hr _ (by simp)) (hr _ (by simp))
        exact ⟨u, h2, h1⟩
      · refine ⟨a ++ e1 ++ c ++ e2 ++ b', .head ?_ (.refl _), .head ?_ (.refl _)⟩
        · have := Step.at (T := T) (a ++ e1 ++ c) x' y' b' e2 g2
          simpa using this
        · have := Step.at (T := T) a x y (c ++ e2 ++ b') e1 g1
          simpa using this
      · refine ⟨a' ++ e2 ++ c ++ e1 ++ b, .head ?_ (.refl _), .head ?_ (.refl _)⟩
        · have := Step.at (T := T) a' x' y' (c ++ e1 ++ b) e2 g2
          simpa using this
        · have := Step.at (T := T) (a' ++ e2 ++ c) x y b e1 g1
          simpa using this
theorem one_net (h : Small T) {A : List α} (cl : Closed T A) (hc : ∀ x ∈ A, ∀ y ∈ A, ∀ z ∈ A, hasClash T x y z = false) : ∀ (n : Nat) (r : List α), r.length ≤ n → (∀ e ∈ r, e ∈ A) → ∀ {u v : List α}, Reach T r u → Net T u → Reach T r v → Net T v → u = v := by
  intro n
  induction n with
  | zero =>
    intro r hr _ u v hu _ hv _
    have hn : Net T r := net_le1 (by omega)
    rw [reach_net hn hu, reach_net hn hv]
  | succ n ih =>
    intro r hr ha u v hu nu hv nv
    cases hu with
    | refl => exact (reach_net nu hv).symm
    | head k1 r1 =>
      cases hv with
      | refl => exact (nv _ k1).elim
      | head k2 r2 =>
        obtain ⟨w, j1, j2⟩ := joins h hc ha k1 k2
        obtain ⟨m, h1, h2⟩ := has_net h w.length w (Nat.le_refl _)
        have l1 := k1.len h
        have l2 := k2.len h
        rw [ih _ (by omega) (cl.step k1 ha) r1 nu (j1.trans h1) h2, ih _ (by omega) (cl.step k2 ha) r2 nv (j2.trans h1) h2]
end
/-! what least tells -/
theorem least_none {T : Tb α} {names : List α} (h : least T names = none) : ∀ x ∈ names, ∀ y ∈ names, ∀ z ∈ names, hasClash T x y z = false := by
  intro x hx y hy z hz
  unfold least at h
  have h1 := List.findSome?_eq_none_iff.mp h x hx
  have h2 := List.findSome?_eq_none_iff.mp h1 y hy
  have h3 := List.findSome?_eq_none_iff.mp h2 z hz
  split at h3
  · cases h3
  · rename_i q; simpa using q
end
/-! other names -/
section
variable {α β : Type} [DecidableEq α] [DecidableEq β]
def mapT (f : α → β) (T : Tb α) : Tb β := T.map fun p => ((f p.1.1, f p.1.2), p.2.map f)
variable {f : α → β} (inj : ∀ a b, f a = f b → a = b)
include inj
theorem get_map (T : Tb α) (x y : α) : (mapT f T).get (f x) (f y) = (T.get x y).map (List.map f) := by
  unfold Tb.get mapT
  induction T with
  | nil => rfl
  | cons p T ih =>
    rw [List.map_cons, List.find?_cons, List.find?_cons]
    by_cases e : p.1 = (x, y)
    · rw [e]; simp
    · have e2 : ¬ ((f p.1.1, f p.1.2) = (f x, f y)) := fun z => by
        injection z with z1 z2
        exact e (Prod.ext (inj _ _ z1) (inj _ _ z2))
      simp only [e, e2, decide_false]
      exact ih
theorem pb_map (T : Tb α) : ∀ log last : List α, pb (mapT f T) (log.map f) (last.map f) = (pb T log last).map f
  | [], last => by simp [pb]
  | l :: log, [] => by simp [pb]
  | l :: log, e :: m => by
    rw [List.map_cons, List.map_cons, pb, pb, get_map inj]
    cases T.get l e with
    | none => simp
    | some r => exact pb_map T log r
theorem netBy_map (T : Tb α) (row : List α) : netBy (mapT f T) (row.map f) = (netBy T row).map f := by
  unfold netBy
  suffices ∀ log : List α, (row.map f).foldl (fun log e => pb (mapT f T) log.reverse [e]) (log.map f) = (row.foldl (fun log e => pb T log.reverse [e]) log).map f from this []
  induction row with
  | nil => intro log; rfl
  | cons e row ih =>
    intro log
    rw [List.map_cons, List.foldl_cons, List.foldl_cons, ← ih]
    congr 1
    have := pb_map inj T log.reverse [e]
    simpa using this
theorem hasClash_map (T : Tb α) (x y z : α) : hasClash (mapT f T) (f x) (f y) (f z) = hasClash T x y z := by
  unfold hasClash
  rw [get_map inj, get_map inj]
  cases T.get x y with
  | none => rfl
  | some l =>
    cases T.get y z with
    | none => rfl
    | some r =>
      have e1 : l.map f ++ [f z] = (l ++ [z]).map f := by simp
      have e2 : f x :: r.map f = (x :: r).map f := rfl
      show decide (netBy (mapT f T) (l.map f ++ [f z]) ≠ netBy (mapT f T) (f x :: r.map f)) = decide (netBy T (l ++ [z]) ≠ netBy T (x :: r))
      rw [e1, e2, netBy_map inj, netBy_map inj]
      congr 1
      apply propext
      refine ⟨fun h e => h (by rw [e]), fun h e => h ?_⟩
      have minj : ∀ a b : List α, a.map f = b.map f → a = b := by
        intro a
        induction a with
        | nil => intro b q; cases b with
          | nil => rfl
          | cons _ _ => cases q
        | cons c a ih => intro b q; cases b with
          | nil => cases q
          | cons d b =>
            rw [List.map_cons, List.map_cons] at q
            injection q with q1 q2
            rw [inj _ _ q1, ih _ q2]
      exact minj _ _ e
theorem least_map (T : Tb α) (names : List α) : least (mapT f T) (names.map f) = (least T names).map fun p => (f p.1, f p.2.1, f p.2.2) := by
  unfold least
  have step : ∀ {γ δ : Type} (g : β → Option δ) (h : α → Option γ) (k : γ → δ) (l : List α), (∀ a, g (f a) = (h a).map k) → (l.map f).findSome? g = (l.findSome? h).map k := by
    intro γ δ g h k l e
    induction l with
    | nil => rfl
    | cons a l ih =>
      rw [List.map_cons, List.findSome?_cons, List.findSome?_cons, e]
      cases h a with
      | none => exact ih
      | some c => rfl
  refine step _ _ _ _ fun x => step _ _ _ _ fun y => step _ _ _ _ fun z => ?_
  rw [hasClash_map inj]
  split <;> rfl
end
end K03

set_option Elab.async false
set_option linter.all false
set_option maxRecDepth 100000
set_option maxHeartbeats 4000000
/-! K03c: what the defs of the program do (data). -/
namespace K03
open PySem Lf
abbrev Tab := Tb Str
def rowD (r : List Str) : D := .tup (r.map D.str)
def keyD (x y : Str) : D := .tup [.str x, .str y]
def tabD (T : Tab) : List (D × D) := T.map fun p => (keyD p.1.1 p.1.2, rowD p.2)
theorem keyD_inj {x y x' y' : Str} (h : keyD x y = keyD x' y') : x = x' ∧ y = y' := by
  unfold keyD at h
  injection h with h
  simp at h
  exact h
theorem look_tab (T : Tab) (x y : Str) : look (tabD T) (keyD x y) = (T.get x y).map rowD := by
  unfold look tabD Tb.get
  induction T with
  | nil => rfl
  | cons p T ih =>
    rw [List.map_cons, List.find?_cons, List.find?_cons]
    by_cases e : p.1 = (x, y)
    · have e2 : keyD p.1.1 p.1.2 = keyD x y := by rw [e]
      simp only [e, e2, decide_true]
      rfl
    · have e2 : ¬ (keyD p.1.1 p.1.2 = keyD x y) := fun z => by
        obtain ⟨z1, z2⟩ := keyD_inj z
        exact e (Prod.ext z1 z2)
      simp only [e, e2, decide_false]
      exact ih
theorem keyT_key2 (x y : Str) : (keyD x y).keyT = true := by
  simp [keyD, D.keyT, D.keys, D.key, NestedKey.depth, NestedKey.depthAll]
theorem key_tab (T : Tab) (x y : Str) : keyFor (tabD T) (keyD x y) = true := by
  unfold keyFor
  rw [keyT_key2]
  have : (tabD T).all (·.1.keyT) = true := by
    unfold tabD
    rw [List.all_map, List.all_eq_true]
    intro p _
    exact keyT_key2 p.1.1 p.1.2
  rw [this]
  rfl
theorem row_flat {r : List Str} (h : ∀ e ∈ r, PyData.strOk e = true) : (rowD r).flat = true := by
  unfold rowD
  rw [D.flat]
  refine flats_of fun d hd => ?_
  obtain ⟨e, he, rfl⟩ := List.mem_map.mp hd
  rw [D.flat]
  exact h e he
theorem row_dep (r : List Str) : (rowD r).dep ≤ 1 := by
  unfold rowD
  rw [D.dep]
  have : D.deps (r.map D.str) ≤ 0 := deps_of fun d hd => by
    obtain ⟨e, he, rfl⟩ := List.mem_map.mp hd
    simp [D.dep]
  omega
theorem rowD_inj {r s : List Str} (h : rowD r = rowD s) : r = s := by
  unfold rowD at h
  injection h with h
  revert s
  induction r with
  | nil => intro s h; cases s with
    | nil => rfl
    | cons _ _ => cases h
  | cons a r ih => intro s h; cases s with
    | nil => cases h
    | cons b s =>
      rw [List.map_cons, List.map_cons] at h
      injection h with h1 h2
      injection h1 with h1
      rw [h1, ih h2]
theorem nil_flat : (D.tup []).flat = true := by simp [D.flat, D.flats]
theorem nil_dep : (D.tup []).dep ≤ 64 := by simp [D.dep, D.deps]
theorem row_nil (r : List Str) : (decide (rowD r = D.tup [])) = decide (r = []) := by
  congr 1
  apply propext
  exact ⟨fun h => rowD_inj (s := []) h, fun h => by rw [h]; rfl⟩
/-- the table's entries are names -/
structure OkT (T : Tab) (A : List Str) : Prop where
  small : Small T
  closed : Closed T A
  ok : ∀ n ∈ A, PyData.strOk n = true
theorem atI_last {α : Type} (l : List α) (a : α) : L2.atI (l ++ [a]) (-1) = some a := by
  unfold L2.atI L2.ixN
  rw [if_neg (by decide), if_pos (by simp; omega)]
  have e : (-1 + ((l ++ [a]).length : Int)).toNat = l.length := by rw [List.length_append]; simp; omega
  show (l ++ [a])[(-1 + ((l ++ [a]).length : Int)).toNat]? = some a
  rw [e]
  simp
theorem atI_zero {α : Type} (l : List α) (a : α) : L2.atI (a :: l) 0 = some a := by
  unfold L2.atI L2.ixN
  rw [if_pos (by decide), if_pos (by simp)]
  rfl
theorem cut_init {α : Type} (l : List α) (a : α) : Lf.cut (l ++ [a]) none (some (-1)) = l := by
  unfold Lf.cut
  have e : HT.sIx (l ++ [a]).length (l ++ [a]).length (some (-1)) = l.length := by
    show (if (-1 : Int) < 0 then (-1 + ((l ++ [a]).length : Int)).toNat else min (-1 : Int).toNat (l ++ [a]).length) = _
    rw [if_pos (by decide), List.length_append]
    simp
    omega
  rw [e]
  simp [HT.sIx]
theorem wBin_row {l m : List Str} {S : Store} {Q : K1} (h : l.length + m.length ≤ 100000) (q : Q (rowD (l ++ m)) S) : wBin .Add (rowD l) (rowD m) S Q := by
  show (l.map D.str).length + (m.map D.str).length ≤ sizeLine ∧ Q (.tup (l.map D.str ++ m.map D.str)) S
  rw [List.length_map, List.length_map, ← List.map_append]
  exact ⟨sz h, q⟩
theorem wIx_row {l : List Str} {i : Int} {a : Str} {S : Store} {Q : K1} (h : L2.atI l i = some a) (q : Q (.str a) S) : wIx (rowD l) (.int i) S Q := by
  refine .inl ⟨l.map D.str, i, .str a, rfl, rfl, ?_, q⟩
  unfold L2.atI at h ⊢
  rw [List.length_map]
  cases e : L2.ixN l.length i with
  | none => rw [e] at h; cases h
  | some j =>
    rw [e] at h
    show (l.map D.str)[j]? = _
    have h : l[j]? = some a := h
    rw [List.getElem?_map, h]
    rfl
theorem wIx_tab {i : Nat} {T : Tab} {x y : Str} {r : List Str} {S : Store} {Q : K1} (hi : S[i]? = some (.dic (tabD T))) (h : T.get x y = some r) (q : Q (rowD r) S) : wIx (.obj i) (.tup [.str x, .str y]) S Q :=
  show wIx (.obj i) (keyD x y) S Q from .inr ⟨i, tabD T, rowD r, rfl, hi, key_tab T x y, by rw [look_tab, h]; rfl, q⟩
theorem wIn_tab {i : Nat} {T : Tab} {x y : Str} {S : Store} {Q : Bool → Prop} (hi : S[i]? = some (.dic (tabD T))) (q : Q (T.get x y).isSome) : wCmp .In (.tup [.str x, .str y]) (.obj i) S Q :=
  show wIn (keyD x y) (.obj i) S Q from .inr ⟨i, tabD T, rfl, hi, key_tab T x y, by rw [look_tab, Option.isSome_map]; exact q⟩
theorem wSl_row {l : List Str} {lo hi : Option Int} {S : Store} {ns : List Int} {Q : K1} (q : Q (rowD (Lf.cut l lo hi)) S) : wSl (rowD l) lo hi S ns Q := by
  show Q (.tup (Lf.cut (l.map D.str) lo hi)) S
  rw [cut_map]
  exact q
theorem pb_out (T : Tab) : ∀ (log last : List Str), (log = [] ∨ last = [] ∨ ∃ l log' f m, log = l :: log' ∧ last = f :: m ∧ T.get l f = none) → pb T log last = log.reverse ++ last
  | [], last, _ => by rw [pb]; rfl
  | l :: log, [], _ => by rw [pb, List.append_nil]
  | l :: log, f :: m, h => by
    rcases h with h | h | ⟨l', log', f', m', h1, h2, h3⟩
    · cases h
    · cases h
    · cases h1
      cases h2
      rw [pb, h3]
def spPut : Sp := spec (γ := Nat × Tab × List Str × List Str × Str)
  (fun (i, T, A, log, e) ds S => ds = [.obj i, rowD log, .str e] ∧ S[i]? = some (.dic (tabD T)) ∧ OkT T A ∧ (∀ a ∈ log, a ∈ A) ∧ e ∈ A ∧ log.length ≤ 1000)
  (fun (i, T, A, log, e) S d S' => S' = S ∧ d = rowD (pb T log.reverse [e]))
theorem w_1 (G : Nat → Sp) (ns : List Int) : ∀ ds S Q, spPut.wp ds S Q never → wTs G ns ir_1 (ini N_1.length ds) S (retE Q) := by
  rintro ds S Q ⟨⟨i, T, A, log, e⟩, ⟨rfl, hi, ok, hl, he, hz⟩, k⟩
  simp only [ir_1, wTs, wT.eq_1, wT.eq_5, wE, wEs, wO, wTg]
  refine ⟨_, rfl, sz (by simp), ?_⟩
  refine whl_inv (n := log.length) (fun n ρ S' => ∃ log' last, n = log'.length ∧ S' = S ∧ ρ = [some (.obj i), some (rowD log'), some (.str e), some (rowD last)] ∧ (∀ a ∈ log', a ∈ A) ∧ (∀ a ∈ last, a ∈ A) ∧ last.length ≤ 1 ∧ log'.length ≤ 1000 ∧ pb T log'.reverse last = pb T log.reverse [e])
    ⟨log, [e], rfl, rfl, rfl, hl, (fun a ha => by rw [List.mem_singleton.mp ha]; exact he), by simp, hz, rfl⟩ ?_
  rintro n ρ S' ⟨log', last, rfl, rfl, rfl, h1, h2, h3, h4, h5⟩
  simp only [wTs, wT.eq_1, wE, wEs, wO, wTg]
  have fin : (log'.reverse = [] ∨ last = [] ∨ ∃ l log'' f m, log'.reverse = l :: log'' ∧ last = f :: m ∧ T.get l f = none) → ∃ d, [some (D.obj i), some (rowD log'), some (D.str e), some (rowD last)][1]? = some (some d) ∧ ∃ d_1, [some (D.obj i), some (rowD log'), some (D.str e), some (rowD last)][3]? = some (some d_1) ∧ wBin Operator.Add d d_1 S' (retE Q).rt := fun hp => by
    refine ⟨_, rfl, _, rfl, wBin_row (by omega) (k _ _ ⟨rfl, ?_⟩)⟩
    rw [← h5, pb_out T _ _ hp, List.reverse_reverse]
  refine ⟨_, rfl, sz (by simp), wCmp_ne (row_flat fun a ha => ok.ok _ (h1 a ha)) nil_flat (Nat.le_trans (row_dep _) (by decide)) nil_dep ?_⟩
  rw [row_nil]
  rcases List.eq_nil_or_concat log' with rfl | ⟨lg, l, rfl⟩
  · exact .inr ⟨rfl, .inr ⟨trivial, fin (.inl rfl)⟩⟩
  rw [List.concat_eq_append] at *
  refine .inl ⟨by simp, _, rfl, sz (by simp), wCmp_ne (row_flat fun a ha => ok.ok _ (h2 a ha)) nil_flat (Nat.le_trans (row_dep _) (by decide)) nil_dep ?_⟩
  rw [row_nil]
  match last, h2, h3, h5, fin with
  | [], h2, h3, h5, fin => exact .inr ⟨rfl, ⟨false, rfl⟩, .inr ⟨trivial, fin (.inr (.inl rfl))⟩⟩
  | f :: m, h2, h3, h5, fin =>
    have hm : m = [] := by
      cases m with
      | nil => rfl
      | cons a m => simp at h3
    subst hm
    refine .inl ⟨rfl, _, rfl, _, rfl, wIx_row (atI_last lg l) ⟨_, rfl, wIx_row (atI_zero [] f) ⟨sz (by simp), _, rfl, wIn_tab hi ⟨⟨_, rfl⟩, ⟨_, rfl⟩, ?_⟩⟩⟩⟩
    cases hg : T.get l f with
    | none => exact .inr ⟨rfl, fin (.inr (.inr ⟨l, lg.reverse, f, [], by simp, rfl, hg⟩))⟩
    | some r =>
      have hgs := ok.small.get hg
      refine .inl ⟨rfl, _, rfl, _, rfl, _, rfl, wIx_row (atI_last lg l) ⟨_, rfl, wIx_row (atI_zero [] f) ⟨sz (by simp), wIx_tab hi hg ⟨_, rfl, _, rfl, _, rfl, wSl_row ?_⟩⟩⟩⟩
      rw [cut_init]
      refine ⟨lg.length, by simp, lg, r, rfl, rfl, rfl, fun a ha => h1 a (by simp [ha]), fun a ha => ?_, hgs, by simp at h4; omega, ?_⟩
      · unfold Tb.get at hg
        obtain ⟨p, q1, q2⟩ := Option.map_eq_some_iff.mp hg
        subst q2
        exact ok.closed p (List.mem_of_find?_eq_some q1) a ha
      · rw [← h5]
        simp [pb, hg]
end K03

set_option Elab.async false
set_option linter.all false
set_option maxRecDepth 100000
set_option maxHeartbeats 4000000
/-! K03d: the program's defs, walked. -/
namespace K03
open PySem Lf
theorem pb_len {T : Tab} (h : Small T) : ∀ (log last : List Str), last.length ≤ 1 → (pb T log last).length ≤ log.length + 1
  | [], last, hl => by rw [pb]; simpa using hl
  | l :: log, [], _ => by rw [pb]; simp
  | l :: log, f :: m, hl => by
    rw [pb]
    cases e : T.get l f with
    | none =>
      simp only [List.length_cons, List.length_append, List.length_reverse] at hl ⊢
      omega
    | some r =>
      have := pb_len h log r (h.get e)
      simp; omega
theorem get_mem {T : Tab} {x y : Str} {r : List Str} (e : T.get x y = some r) : ((x, y), r) ∈ T := by
  unfold Tb.get at e
  obtain ⟨p, h1, h2⟩ := Option.map_eq_some_iff.mp e
  have h3 := List.find?_some h1
  simp at h3
  have h4 := List.mem_of_find?_eq_some h1
  rw [← h2, ← h3]
  exact h4
theorem OkT.res {T : Tab} {A : List Str} (h : OkT T A) {x y : Str} {r : List Str} (e : T.get x y = some r) : ∀ a ∈ r, a ∈ A := fun a ha => h.closed _ (get_mem e) a ha
theorem pb_mem {T : Tab} {A : List Str} (h : OkT T A) : ∀ (log last : List Str), (∀ a ∈ log, a ∈ A) → (∀ a ∈ last, a ∈ A) → ∀ a ∈ pb T log last, a ∈ A
  | [], last, _, h2 => by rw [pb]; exact h2
  | l :: log, [], h1, _ => by rw [pb]; intro a ha; exact h1 a (by simpa using List.mem_reverse.mp ha)
  | l :: log, f :: m, h1, h2 => by
    rw [pb]
    cases e : T.get l f with
    | none =>
      intro a ha
      simp only [List.mem_append, List.mem_reverse] at ha
      exact ha.elim (h1 a) (h2 a)
    | some r => exact pb_mem h log r (fun a ha => h1 a (List.mem_cons_of_mem _ ha)) (h.res e)
theorem netFrom {T : Tab} {A : List Str} (h : OkT T A) : ∀ (row log : List Str), (∀ a ∈ row, a ∈ A) → (∀ a ∈ log, a ∈ A) → (row.foldl (fun log e => pb T log.reverse [e]) log).length ≤ log.length + row.length ∧ ∀ a ∈ row.foldl (fun log e => pb T log.reverse [e]) log, a ∈ A
  | [], log, _, h2 => ⟨Nat.le_refl _, h2⟩
  | e :: row, log, h1, h2 => by
    rw [List.foldl_cons]
    have l1 := pb_len h.small log.reverse [e] (by simp)
    have m1 := pb_mem h log.reverse [e] (fun a ha => h2 a (List.mem_reverse.mp ha)) (fun a ha => h1 a (by rw [List.mem_singleton.mp ha]; exact List.mem_cons_self))
    obtain ⟨q1, q2⟩ := netFrom h row (pb T log.reverse [e]) (fun a ha => h1 a (List.mem_cons_of_mem _ ha)) m1
    refine ⟨?_, q2⟩
    rw [List.length_reverse] at l1
    rw [List.length_cons]
    omega
theorem net_ok {T : Tab} {A : List Str} (h : OkT T A) {row : List Str} (h1 : ∀ a ∈ row, a ∈ A) : (netBy T row).length ≤ row.length ∧ ∀ a ∈ netBy T row, a ∈ A := by
  obtain ⟨q1, q2⟩ := netFrom h row [] h1 (by simp)
  exact ⟨by rw [List.length_nil, Nat.zero_add] at q1; exact q1, q2⟩
theorem netBy_snoc (T : Tab) (a : List Str) (e : Str) : netBy T (a ++ [e]) = pb T (netBy T a).reverse [e] := by
  unfold netBy
  rw [List.foldl_append]
  rfl
def spNet : Sp := spec (γ := Nat × Tab × List Str × List Str)
  (fun (i, T, A, row) ds S => ds = [.obj i, rowD row] ∧ S[i]? = some (.dic (tabD T)) ∧ OkT T A ∧ (∀ a ∈ row, a ∈ A) ∧ row.length ≤ 900)
  (fun (i, T, A, row) S d S' => S' = S ∧ d = rowD (netBy T row))
theorem map_split {l : List Str} {k : List D} {d : D} {m : List D} (h : l.map D.str = k ++ d :: m) : ∃ a e b, l = a ++ e :: b ∧ k = a.map D.str ∧ d = .str e ∧ m = b.map D.str := by
  obtain ⟨a, r, e1, e2, e3⟩ := List.map_eq_append_iff.mp h
  obtain ⟨e, b, e4, e5, e6⟩ := List.map_eq_cons_iff.mp e3
  subst e1 e4
  exact ⟨a, e, b, rfl, e2.symm, e5.symm, e6.symm⟩
theorem w_2 (G : Nat → Sp) (ns : List Int) (h1 : G 1 = spPut) : ∀ ds S Q, spNet.wp ds S Q never → wTs G ns ir_2 (ini N_2.length ds) S (retE Q) := by
  rintro ds S Q ⟨⟨i, T, A, row⟩, ⟨rfl, hi, ok, hr, hz⟩, k⟩
  simp only [ir_2, wTs, wT, wE, wEs, wO, wTg, wIt]
  refine ⟨sz (by simp), _, rfl, _, rfl, ?_⟩
  refine loopL_inv (fun done ρ S' => S' = S ∧ ∃ a : List Str, done = a.map D.str ∧ (∀ x ∈ a, x ∈ A) ∧ a.length ≤ row.length ∧ ∃ l, ρ = [some (.obj i), some (rowD row), some (rowD (netBy T a)), l]) (fun _ _ _ _ => trivial) ?_ ?_ ⟨rfl, [], rfl, by simp, by simp, _, rfl⟩
  · rintro kk d m ρ S' M hl ⟨rfl, a, rfl, ha, hal, l, rfl⟩ hM
    obtain ⟨a', e, b, e1, e2, rfl, e4⟩ := map_split hl
    have e2' : a = a' := rowD_inj (show rowD a = rowD a' from congrArg D.tup e2)
    subst e2'
    have hm : ∀ x ∈ a ++ [e], x ∈ A := fun x hx => hr x (by rw [e1]; simp at hx ⊢; exact hx.elim .inl fun h => .inr (.inl h))
    obtain ⟨q1, q2⟩ := net_ok ok ha
    refine ⟨_, rfl, _, rfl, _, rfl, ?_⟩
    rw [h1]
    refine spec_use (i, T, A, netBy T a, e) ⟨rfl, hi, ok, q2, hm e (by simp), by omega⟩ fun d S2 ⟨e5, e6⟩ => ?_
    subst e5 e6
    exact hM _ _ ⟨rfl, a ++ [e], by simp, hm, by rw [e1]; simp, some (.str e), by rw [netBy_snoc]; rfl⟩
  · rintro ρ S' ⟨rfl, a, ea, ha, hal, l, rfl⟩
    have : a = row := rowD_inj (show rowD a = rowD row from congrArg D.tup ea.symm)
    subst this
    exact ⟨_, rfl, k _ _ ⟨rfl, rfl⟩⟩
def spHas : Sp := spec (γ := Nat × Tab × List Str × Str × Str × Str)
  (fun (i, T, A, x, y, z) ds S => ds = [.obj i, .str x, .str y, .str z] ∧ S[i]? = some (.dic (tabD T)) ∧ OkT T A ∧ x ∈ A ∧ y ∈ A ∧ z ∈ A)
  (fun (i, T, A, x, y, z) S d S' => S' = S ∧ d = .bl (hasClash T x y z))
theorem wNotIn_tab {i : Nat} {T : Tab} {x y : Str} {S : Store} {Q : Bool → Prop} (hi : S[i]? = some (.dic (tabD T))) (q : Q (!(T.get x y).isSome)) : wCmp .NotIn (.tup [.str x, .str y]) (.obj i) S Q :=
  show wIn (keyD x y) (.obj i) S (fun t => Q (!t)) from .inr ⟨i, tabD T, rfl, hi, key_tab T x y, by rw [look_tab, Option.isSome_map]; exact q⟩
theorem w_3 (G : Nat → Sp) (ns : List Int) (h2 : G 2 = spNet) : ∀ ds S Q, spHas.wp ds S Q never → wTs G ns ir_3 (ini N_3.length ds) S (retE Q) := by
  rintro ds S Q ⟨⟨i, T, A, x, y, z⟩, ⟨rfl, hi, ok, hx, hy, hz⟩, k⟩
  simp only [ir_3, wTs, wT, wE, wEs, wO, wTg, wIt]
  refine ⟨_, rfl, _, rfl, sz (by simp), _, rfl, wNotIn_tab hi ?_⟩
  cases e1 : T.get x y with
  | none =>
    have hf : hasClash T x y z = false := by simp [hasClash, e1]
    refine .inr ⟨rfl, .inl ⟨trivial, k _ _ ⟨rfl, ?_⟩⟩⟩
    rw [hf]
  | some l =>
    refine .inl ⟨rfl, _, rfl, _, rfl, sz (by simp), _, rfl, wNotIn_tab hi ⟨⟨_, rfl⟩, ?_⟩⟩
    cases e2 : T.get y z with
    | none =>
      have hf : hasClash T x y z = false := by simp [hasClash, e1, e2]
      refine .inl ⟨rfl, k _ _ ⟨rfl, ?_⟩⟩
      rw [hf]
    | some r =>
      have l1 := ok.small.get e1
      have l2 := ok.small.get e2
      have ml : ∀ a ∈ l ++ [z], a ∈ A := fun a ha => by
        rcases List.mem_append.mp ha with ha | ha
        · exact ok.res e1 a ha
        · rw [List.mem_singleton.mp ha]; exact hz
      have mr : ∀ a ∈ x :: r, a ∈ A := fun a ha => by
        rcases List.mem_cons.mp ha with rfl | ha
        · exact hx
        · exact ok.res e2 a ha
      have n1 := net_ok ok ml
      have n2 := net_ok ok mr
      have fl : ∀ {row : List Str}, (∀ a ∈ row, a ∈ A) → (rowD row).flat = true := fun h => row_flat fun a ha => ok.ok _ (h a ha)
      refine .inr ⟨rfl, _, rfl, _, rfl, _, rfl, _, rfl, sz (by simp), wIx_tab hi e1 ⟨l.map D.str, rfl, _, rfl, sz (by simp; omega), ?_⟩⟩
      rw [h2]
      refine spec_use (i, T, A, l ++ [z]) ⟨by simp [rowD], hi, ok, ml, by simp; omega⟩ fun d S2 ⟨e5, e6⟩ => ?_
      subst e5 e6
      refine ⟨_, rfl, _, rfl, _, rfl, _, rfl, _, rfl, sz (by simp), wIx_tab hi e2 ⟨r.map D.str, rfl, sz (by simp; omega), ?_⟩⟩
      refine spec_use (i, T, A, x :: r) ⟨by simp [rowD], hi, ok, mr, by simp; omega⟩ fun d S2 ⟨e5, e6⟩ => ?_
      subst e5 e6
      refine wCmp_ne (fl n1.2) (fl n2.2) (Nat.le_trans (row_dep _) (by decide)) (Nat.le_trans (row_dep _) (by decide)) (k _ _ ⟨rfl, ?_⟩)
      congr 1
      simp only [hasClash, e1, e2]
      rw [Bool.eq_iff_iff]
      simp only [Bool.not_eq_true', decide_eq_false_iff_not, decide_eq_true_eq, ne_eq]
      exact ⟨fun h e => h (by rw [e]), fun h e => h (rowD_inj e)⟩
end K03

set_option Elab.async false
set_option linter.all false
set_option maxRecDepth 100000
set_option maxHeartbeats 4000000
/-! K03e: table_of, least_clash, clash_of. -/
namespace K03
open PySem Lf
def clD : Option (Str × Str × Str) → D
  | none => .non
  | some (x, y, z) => .tup [.str x, .str y, .str z]
def spLeast : Sp := spec (γ := Nat × Tab × List Str × List Str)
  (fun (i, T, A, names) ds S => ds = [rowD names, .obj i] ∧ S[i]? = some (.dic (tabD T)) ∧ OkT T A ∧ (∀ a ∈ names, a ∈ A))
  (fun (i, T, A, names) S d S' => S' = S ∧ d = clD (least T names))
/-- what a text tells, nothing for other data -/
def onStr {α : Type} (f : Str → Option α) : D → Option α
  | .str x => f x
  | _ => none
theorem find_str {α : Type} (f : Str → Option α) (l : List Str) : (l.map D.str).findSome? (onStr f) = l.findSome? f := by
  rw [List.findSome?_map]
  rfl
theorem w_4 (G : Nat → Sp) (ns : List Int) (h3 : G 3 = spHas) : ∀ ds S Q, spLeast.wp ds S Q never → wTs G ns ir_4 (ini N_4.length ds) S (retE Q) := by
  rintro ds S Q ⟨⟨i, T, A, names⟩, ⟨rfl, hi, ok, hn⟩, k⟩
  simp only [ir_4, wTs, wT, wE, wEs, wO, wTg, wIt]
  have kk : ∀ r, clD (least T names) = r → Q r S := fun r e => k _ _ ⟨rfl, e.symm⟩
  clear k
  refine ⟨_, rfl, names.map D.str, rfl, ?_⟩
  refine loopL_first (S := S) (onStr fun x => names.findSome? fun y => names.findSome? fun z => if hasClash T x y z then some (x, y, z) else none) (fun ρ => ∃ a b c, ρ = [some (rowD names), some (.obj i), a, b, c]) (fun r => Q (clD (some r)) S) trivial ?_ ?_ ?_ ⟨none, none, none, rfl⟩
  · rintro d hd ρ M ⟨a, b, c, rfl⟩ hM hO
    obtain ⟨x, hx, rfl⟩ := List.mem_map.mp hd
    refine ⟨_, rfl, names.map D.str, rfl, ?_⟩
    refine loopL_first (S := S) (onStr fun y => names.findSome? fun z => if hasClash T x y z then some (x, y, z) else none) (fun ρ => ∃ b c, ρ = [some (rowD names), some (.obj i), some (.str x), b, c]) (fun r => Q (clD (some r)) S) trivial ?_ ?_ ?_ ⟨b, c, rfl⟩
    · rintro d hd ρ M ⟨b, c, rfl⟩ hM hO
      obtain ⟨y, hy, rfl⟩ := List.mem_map.mp hd
      refine ⟨_, rfl, names.map D.str, rfl, ?_⟩
      refine loopL_first (S := S) (onStr fun z => if hasClash T x y z then some (x, y, z) else none) (fun ρ => ∃ c, ρ = [some (rowD names), some (.obj i), some (.str x), some (.str y), c]) (fun r => Q (clD (some r)) S) trivial ?_ ?_ ?_ ⟨c, rfl⟩
      · rintro d hd ρ M ⟨c, rfl⟩ hM hO
        obtain ⟨z, hz, rfl⟩ := List.mem_map.mp hd
        refine ⟨_, rfl, _, rfl, _, rfl, _, rfl, ?_⟩
        rw [h3]
        refine spec_use (i, T, A, x, y, z) ⟨rfl, hi, ok, hn x hx, hn y hy, hn z hz⟩ fun d S2 ⟨e5, e6⟩ => ?_
        subst e5 e6
        cases hc : hasClash T x y z with
        | true =>
          refine .inl ⟨rfl, _, rfl, _, rfl, _, rfl, sz (by simp), ?_⟩
          exact hO (x, y, z) (by simp [onStr, hc])
        | false =>
          exact .inr ⟨rfl, hM (by simp [onStr, hc]) _ ⟨_, rfl⟩⟩
      · intro r hr
        rw [find_str] at hr
        exact hO r hr
      · rintro hr ρ ⟨c, rfl⟩
        rw [find_str] at hr
        exact hM hr _ ⟨_, _, rfl⟩
    · intro r hr
      rw [find_str] at hr
      exact hO r hr
    · rintro hr ρ ⟨b, c, rfl⟩
      rw [find_str] at hr
      exact hM hr _ ⟨_, _, _, rfl⟩
  · intro r hr
    rw [find_str] at hr
    exact kk _ (congrArg clD hr)
  · rintro hr ρ ⟨a, b, c, rfl⟩
    rw [find_str] at hr
    exact kk _ (congrArg clD hr)
/-! table_of -/
def ruleD (p : (Str × Str) × List Str) : D := .tup [.str p.1.1, .str p.1.2, rowD p.2]
def rulesD (T : Tab) : List D := T.map ruleD
theorem put_new {T : Tab} {x y : Str} {r : List Str} (h : (x, y) ∉ T.map (·.1)) : put (tabD T) (keyD x y) (rowD r) = tabD (T ++ [((x, y), r)]) := by
  have e : T.get x y = none := by
    unfold Tb.get
    rw [Option.map_eq_none_iff, List.find?_eq_none]
    intro p hp
    simp only [decide_eq_true_eq]
    intro z
    exact h (z ▸ List.mem_map_of_mem (f := fun p : (Str × Str) × List Str => p.1) hp)
  unfold put
  rw [look_tab, e]
  simp [tabD]
def spTable : Sp := spec (γ := Tab)
  (fun T ds S => ds = [.tup (rulesD T)] ∧ (T.map (·.1)).Nodup ∧ T.length ≤ 1000)
  (fun T S d S' => S' = S ++ [.dic (tabD T)] ∧ d = .obj S.length)
theorem rules_split {T : Tab} {k : List D} {d : D} {m : List D} (h : rulesD T = k ++ d :: m) : ∃ a e b, T = a ++ e :: b ∧ k = rulesD a ∧ d = ruleD e ∧ m = rulesD b := by
  obtain ⟨a, r, e1, e2, e3⟩ := List.map_eq_append_iff.mp h
  obtain ⟨e, b, e4, e5, e6⟩ := List.map_eq_cons_iff.mp e3
  subst e1 e4
  exact ⟨a, e, b, rfl, e2.symm, e5.symm, e6.symm⟩
theorem ruleD_inj {p q : (Str × Str) × List Str} (h : ruleD p = ruleD q) : p = q := by
  unfold ruleD at h
  injection h with h
  simp at h
  obtain ⟨h1, h2, h3⟩ := h
  exact Prod.ext (Prod.ext h1 h2) (rowD_inj h3)
theorem rulesD_inj {a b : Tab} (h : rulesD a = rulesD b) : a = b := by
  unfold rulesD at h
  revert b
  induction a with
  | nil => intro b h; cases b with
    | nil => rfl
    | cons _ _ => cases h
  | cons p a ih => intro b h; cases b with
    | nil => cases h
    | cons q b =>
      rw [List.map_cons, List.map_cons] at h
      injection h with h1 h2
      rw [ruleD_inj h1, ih h2]
theorem w_0 (G : Nat → Sp) (ns : List Int) : ∀ ds S Q, spTable.wp ds S Q never → wTs G ns ir_0 (ini N_0.length ds) S (retE Q) := by
  rintro ds S Q ⟨T, ⟨rfl, nd, hz⟩, k⟩
  simp only [ir_0, wTs, wT, wE, wEs, wO, wTg, wTgs, wIt]
  refine ⟨_, rfl, rulesD T, rfl, by unfold rulesD; rw [List.length_map]; omega, ?_⟩
  refine loopD_inv (fun done acc S' => S' = S ∧ ∃ a : Tab, done = rulesD a ∧ acc = tabD a) (fun _ _ _ _ => trivial) ?_ ?_ ⟨rfl, [], rfl, rfl⟩
  · rintro kk d m acc S' M hl ⟨rfl, a, rfl, rfl⟩ hM
    obtain ⟨a', e, b, e1, e2, rfl, e4⟩ := rules_split hl
    have e2' := rulesD_inj e2
    subst e2'
    obtain ⟨⟨x, y⟩, r⟩ := e
    have nin : (x, y) ∉ a.map (·.1) := by
      rw [e1, List.map_append, List.map_cons] at nd
      have := (List.nodup_append.mp nd).2.2
      intro z
      exact this _ z _ List.mem_cons_self rfl
    refine ⟨_, rfl, _, _, rfl, _, _, rfl, _, _, rfl, rfl, _, rfl, _, rfl, sz (by simp), _, rfl, ?_⟩
    refine hM (keyD x y) (rowD r) S' (key_tab a x y) ⟨rfl, a ++ [((x, y), r)], ?_, put_new nin⟩
    unfold rulesD
    simp
  · rintro acc S' ⟨rfl, a, ea, rfl⟩
    have e := rulesD_inj ea
    subst e
    exact k _ _ ⟨rfl, rfl⟩
/-! clash_of -/
def spClash : Sp := spec (γ := Tab × List Str × List Str)
  (fun (T, A, names) ds S => ds = rowD names :: rulesD T ∧ (T.map (·.1)).Nodup ∧ T.length ≤ 1000 ∧ OkT T A ∧ (∀ a ∈ names, a ∈ A))
  (fun (T, A, names) S d S' => S' = S ++ [.dic (tabD T)] ∧ d = clD (least T names))
theorem w_5 (G : Nat → Sp) (ns : List Int) (h0 : G 0 = spTable) (h4 : G 4 = spLeast) : ∀ ds S Q, spClash.wp ds S Q never → wTs G ns ir_5 (ini N_5.length (ds.take 1 ++ [.tup (ds.drop 1)])) S (retE Q) := by
  rintro ds S Q ⟨⟨T, A, names⟩, ⟨rfl, nd, hz, ok, hn⟩, k⟩
  simp only [ir_5, wTs, wT, wE, wEs, wO, wTg, wTgs, wIt]
  refine ⟨_, rfl, _, rfl, ?_⟩
  rw [h0, h4]
  refine spec_use T ⟨rfl, nd, hz⟩ fun d S2 ⟨e1, e2⟩ => ?_
  subst e1 e2
  refine spec_use (S.length, T, A, names) ⟨rfl, by simp, ok, hn⟩ fun d S2 ⟨e1, e2⟩ => ?_
  subst e1 e2
  exact k _ _ ⟨rfl, rfl⟩
end K03

set_option Elab.async false
set_option linter.all false
set_option maxRecDepth 100000
set_option maxHeartbeats 4000000
/-! K03f: the law's deck: _law_deck, _law_draw, _law_pick, _law_names. -/
namespace K03
open PySem Lf
/-- a deck: its list at d, its cells at c, n draws so far -/
structure Deck (d c : Nat) (n : Int) (S : Store) : Prop where
  ne : d ≠ c
  hd : ∃ m : Int, S[d]? = some (.lst [.obj c, .int m, .int n]) ∧ 0 ≤ m ∧ m < 2147483648
  hc : ∃ cells : List Int, S[c]? = some (.lst (cells.map D.int)) ∧ cells.length ≤ 63
  n0 : 0 ≤ n
/-- all but the deck as it was -/
structure Fr (d c : Nat) (S S' : Store) : Prop where
  len : S.length ≤ S'.length
  keep : ∀ j : Nat, j < S.length → j ≠ d → j ≠ c → S'[j]? = S[j]?
theorem Fr.refl (d c : Nat) (S : Store) : Fr d c S S := ⟨Nat.le_refl _, fun _ _ _ _ => rfl⟩
theorem Fr.trans {d c : Nat} {S S1 S2 : Store} (a : Fr d c S S1) (b : Fr d c S1 S2) : Fr d c S S2 := ⟨Nat.le_trans a.len b.len, fun j h1 h2 h3 => (b.keep j (Nat.lt_of_lt_of_le h1 a.len) h2 h3).trans (a.keep j h1 h2 h3)⟩
theorem get_lt {S : Store} {i : Nat} {o : Ob} (h : S[i]? = some o) : i < S.length := (List.getElem?_eq_some_iff.mp h).1
theorem Fr.at {d c : Nat} {S S' : Store} (a : Fr d c S S') {j : Nat} {o : Ob} (h : S[j]? = some o) (h1 : j ≠ d) (h2 : j ≠ c) : S'[j]? = some o := (a.keep j (get_lt h) h1 h2).trans h
theorem Fr.app (d c : Nat) (S T : Store) : Fr d c S (S ++ T) := ⟨by simp, fun j h _ _ => List.getElem?_append_left h⟩
theorem Fr.set_d (d c : Nat) (S : Store) (o : Ob) : Fr d c S (S.set d o) := ⟨by simp, fun j _ h _ => List.getElem?_set_ne (Ne.symm h)⟩
theorem Fr.set_c (d c : Nat) (S : Store) (o : Ob) : Fr d c S (S.set c o) := ⟨by simp, fun j _ _ h => List.getElem?_set_ne (Ne.symm h)⟩
theorem Deck.app {d c : Nat} {n : Int} {S : Store} (h : Deck d c n S) (T : Store) : Deck d c n (S ++ T) := by
  obtain ⟨m, h1, h2⟩ := h.hd
  obtain ⟨cells, h3, h4⟩ := h.hc
  exact ⟨h.ne, ⟨m, by rw [List.getElem?_append_left (get_lt h1)]; exact h1, h2⟩, ⟨cells, by rw [List.getElem?_append_left (get_lt h3)]; exact h3, h4⟩, h.n0⟩
theorem Deck.set {d c : Nat} {n : Int} {S : Store} (h : Deck d c n S) {j : Nat} (o : Ob) (h1 : j ≠ d) (h2 : j ≠ c) : Deck d c n (S.set j o) := by
  obtain ⟨m, q1, q2⟩ := h.hd
  obtain ⟨cells, h3, h4⟩ := h.hc
  exact ⟨h.ne, ⟨m, by rw [List.getElem?_set_ne h1]; exact q1, q2⟩, ⟨cells, by rw [List.getElem?_set_ne h2]; exact h3, h4⟩, h.n0⟩
theorem ints_flat (l : List Int) : D.flats (l.map D.int) = true := flats_of fun d hd => by
  obtain ⟨i, _, rfl⟩ := List.mem_map.mp hd
  simp [D.flat]
theorem ints_dep (l : List Int) : D.deps (l.map D.int) ≤ 63 := deps_of fun d hd => by
  obtain ⟨i, _, rfl⟩ := List.mem_map.mp hd
  simp [D.dep]
/-! _law_draw -/
def spDraw : Sp := spec (γ := Nat × Nat × Int × Int)
  (fun (d, c, n, many) ds S => ds = [.obj d, .int many] ∧ Deck d c n S ∧ 0 < many ∧ many < 1000 ∧ n < 1000000)
  (fun (d, c, n, many) S v S' => (∃ r : Int, v = .int r ∧ 0 ≤ r ∧ r < many) ∧ Deck d c (n + 1) S' ∧ Fr d c S S')
theorem w_7 (G : Nat → Sp) (ns : List Int) : ∀ ds S Q, spDraw.wp ds S Q never → wTs G ns ir_7 (ini N_7.length ds) S (retE Q) := by
  rintro ds S Q ⟨⟨d, c, n, many⟩, ⟨rfl, dk, hm1, hm2, hn⟩, k⟩
  obtain ⟨m, hd, m0, m1⟩ := dk.hd
  obtain ⟨cells, hc, hz⟩ := dk.hc
  have n0 := dk.n0
  have ne := dk.ne
  unfold ir_7
  -- deck[2] = deck[2] + 1
  refine seq_cut (fun ρ S1 => ρ = [some (.obj d), some (.int many), none, none] ∧ S1 = S.set d (.lst [.obj c, .int m, .int (n + 1)])) ?_ ?_
  · simp only [wT, wE, wTg]
    exact ⟨_, rfl, wIx_lst hd rfl ⟨_, rfl, wSet_lst hd rfl ⟨rfl, rfl⟩⟩⟩
  rintro ρ S1 ⟨rfl, eS1⟩
  have hd1 : S1[d]? = some (.lst [.obj c, .int m, .int (n + 1)]) := by rw [eS1, List.getElem?_set_self (get_lt hd)]
  have hc1 : S1[c]? = some (.lst (cells.map D.int)) := by rw [eS1, List.getElem?_set_ne ne]; exact hc
  have fr1 : Fr d c S S1 := by rw [eS1]; exact Fr.set_d d c S _
  clear eS1
  -- figure = ..
  refine seq_cut (fun ρ S2 => S2 = S1 ∧ ∃ fig : Int, ρ = [some (.obj d), some (.int many), some (.int fig), none]) ?_ ?_
  · simp only [wT, wE, wTg]
    refine ⟨_, rfl, wIx_lst hd1 rfl ⟨_, rfl, wIx_lst hd1 rfl ⟨.inl (by decide), _, rfl, wIx_lst hd1 rfl ⟨.inr ⟨by omega, by omega⟩, ⟨rfl, _, rfl⟩⟩⟩⟩⟩
  rintro ρ S2 ⟨rfl, fig, rfl⟩
  -- the rest, from any figure
  have dk2 : Deck d c (n + 1) S2 := ⟨ne, ⟨m, hd1, m0, m1⟩, ⟨cells, hc1, hz⟩, by omega⟩
  have done : ∀ (S3 : Store) (r : Int), 0 ≤ r → r < many → Deck d c (n + 1) S3 → Fr d c S S3 → Q (.int r) S3 := fun S3 r h1 h2 h3 h4 => k _ _ ⟨⟨r, rfl, h1, h2⟩, h3, h4⟩
  refine seq_cut (fun ρ S3 => Deck d c (n + 1) S3 ∧ Fr d c S S3 ∧ ∃ (fig : Int) (x : Option D), ρ = [some (.obj d), some (.int many), some (.int fig), x]) ?_ ?_
  · simp only [wT, wTs, wE, wEs, wTg, Lf.alloc]
    refine ⟨_, rfl, wIx_lst hd1 rfl ⟨by simp, ?_⟩⟩
    have hc2 : (S2 ++ [Ob.lst []])[c]? = some (.lst (cells.map D.int)) := by rw [List.getElem?_append_left (get_lt hc1)]; exact hc1
    have hd2 : (S2 ++ [Ob.lst []])[d]? = some (.lst [.obj c, .int m, .int (n + 1)]) := by rw [List.getElem?_append_left (get_lt hd1)]; exact hd1
    have fr2 : Fr d c S (S2 ++ [Ob.lst []]) := fr1.trans (Fr.app d c _ _)
    refine wCmp_ne_lst (m := []) hc2 (by simp) (ints_flat cells) rfl (ints_dep cells) (Nat.zero_le _) ?_
    generalize S2 ++ [Ob.lst []] = S3 at hc2 hd2 fr2
    rcases List.eq_nil_or_concat cells with rfl | ⟨cs, x, rfl⟩
    · exact .inr ⟨rfl, ⟨ne, ⟨m, hd2, m0, m1⟩, ⟨[], hc2, by simp⟩, by omega⟩, fr2, _, _, rfl⟩
    · rw [List.concat_eq_append] at hc2 hz
      refine .inl ⟨by simp, _, rfl, wIx_lst hd2 rfl ⟨⟨c, _, rfl, hc2⟩, ?_⟩⟩
      refine ⟨c, cs.map D.int, .int x, rfl, by rw [hc2, List.map_append]; rfl, _, rfl, ⟨⟨by decide, by decide, by decide⟩, ?_⟩⟩
      have hd3 : (S3.set c (.lst (cs.map D.int)))[d]? = some (.lst [.obj c, .int m, .int (n + 1)]) := by rw [List.getElem?_set_ne (Ne.symm ne)]; exact hd2
      have hc3 : (S3.set c (.lst (cs.map D.int)))[c]? = some (.lst (cs.map D.int)) := List.getElem?_set_self (get_lt hc2)
      have fr3 : Fr d c S (S3.set c (.lst (cs.map D.int))) := fr2.trans (Fr.set_c d c _ _)
      have hz3 : cs.length ≤ 62 := by rw [List.length_append] at hz; simp at hz; omega
      refine ⟨x, _, rfl, rfl, ?_⟩
      by_cases hx : (10 : Int) ^ (18 : Int).toNat ≤ x
      · rw [decide_eq_true hx]
        refine .inl ⟨rfl, _, rfl, wIx_lst hd3 rfl ⟨⟨c, _, rfl, hc3⟩, _, rfl, _, rfl, ⟨⟨hm1, by omega⟩, c, _, rfl, hc3, by rw [List.length_map, sizeLine_eq]; omega, _, rfl, x, rfl, _, rfl, hm1, ?_⟩⟩⟩
        refine done _ _ (Int.emod_nonneg _ (by omega)) (Int.emod_lt_of_pos _ hm1) ⟨ne, ⟨m, by rw [List.getElem?_set_ne (Ne.symm ne)]; exact hd3, m0, m1⟩, ⟨cs ++ [x / many], ?_, by simp; omega⟩, by omega⟩ (fr3.trans (Fr.set_c d c _ _))
        rw [List.getElem?_set_self (get_lt hc3), List.map_append]
        rfl
      · rw [decide_eq_false hx]
        exact .inr ⟨rfl, _, rfl, _, rfl, x, rfl, ⟨ne, ⟨m, hd3, m0, m1⟩, ⟨cs, hc3, by omega⟩, by omega⟩, fr3, _, _, rfl⟩
  rintro ρ S3 ⟨dk3, fr3, fig, x, rfl⟩
  obtain ⟨m', hd3, m0', m1'⟩ := dk3.hd
  simp only [wT, wTs, wE, wEs, wTg]
  refine ⟨_, rfl, fig, rfl, by decide, _, rfl, ⟨.inr (by decide), by decide, ?_⟩⟩
  generalize hf : (fig % 2147483629 + 43) * 40692 % 2147483647 = f1
  have f0 : 0 ≤ f1 := by rw [← hf]; exact Int.emod_nonneg _ (by decide)
  have f2 : f1 < 2147483647 := by rw [← hf]; exact Int.emod_lt_of_pos _ (by decide)
  refine ⟨_, rfl, _, rfl, ⟨.inl ⟨by omega, by omega⟩, _, rfl, wIx_lst hd3 rfl ⟨.inl (by decide), _, rfl, by decide, ?_⟩⟩⟩
  generalize hg : (f1 * f1 + 69621 * (n + 1) + 7) % 2147483587 = f3
  refine ⟨_, rfl, ⟨.inr (by decide), _, rfl, by decide, ⟨by decide, by decide⟩, _, rfl, hm1, ?_⟩⟩
  exact done _ _ (Int.emod_nonneg _ (by omega)) (Int.emod_lt_of_pos _ hm1) dk3 fr3
end K03

set_option Elab.async false
set_option linter.all false
set_option maxRecDepth 100000
set_option maxHeartbeats 4000000
/-! K03g: _law_deck, _law_pick, _law_names. -/
namespace K03
open PySem Lf
def spDeck : Sp := spec (γ := Unit) (fun _ ds S => ds = [.scr]) (fun _ S v S' => ∃ d c, v = .obj d ∧ Deck d c 0 S')
theorem cut_len {α : Type} (l : List α) (k : Nat) : (Lf.cut l none (some (k : Int))).length ≤ k := by
  unfold Lf.cut
  have e : HT.sIx l.length l.length (some (k : Int)) = min k l.length := HT.sIx_nat _ _ _
  rw [e]
  simp [HT.sIx]
  omega
theorem w_6 (G : Nat → Sp) (ns : List Int) : ∀ ds S Q, spDeck.wp ds S Q never → wTs G ns ir_6 (ini N_6.length ds) S (retE Q) := by
  rintro ds S Q ⟨⟨⟩, rfl, k⟩
  unfold ir_6
  refine seq_cut (fun ρ S1 => ∃ (j : Nat) (cells : List Int), ρ = [some .scr, some (.obj j), some (.int 98930307), none] ∧ S1[j]? = some (.lst (cells.map D.int)) ∧ cells.length ≤ 63) ?_ ?_
  · simp only [wT, wEs, wE, wO]
    refine ⟨_, rfl, _, rfl, (Lf.cut ns none (some 63)).map D.int, ?_, rfl, _, _, rfl, ?_, cut_len ns 63⟩
    · rw [← cut_map]
      exact at_lst (by simp)
    · simp
  rintro ρ S1 ⟨j, cells, rfl, hj, hz⟩
  refine seq_cut (fun ρ S2 => S2 = S1 ∧ ∃ (m : Int) (x : Option D), ρ = [some .scr, some (.obj j), some (.int m), x] ∧ 0 ≤ m ∧ m < 2147483648) ?_ ?_
  · simp only [wT, wTs, wIt, wE, wEs, wTg]
    refine ⟨_, rfl, _, at_lst hj, ?_⟩
    refine loopL_inv (fun done ρ S2 => S2 = S1 ∧ ∃ (m : Int) (x : Option D), ρ = [some .scr, some (.obj j), some (.int m), x] ∧ 0 ≤ m ∧ m < 2147483648) ?_ ?_ ?_ ⟨rfl, 98930307, none, rfl, by decide, by decide⟩
    · rintro _ ρ S2 ⟨rfl, _⟩
      exact at_lst hj
    · rintro a x b ρ S2 M e ⟨rfl, m, y, rfl, m0, m1⟩ hM
      obtain ⟨z, _, rfl⟩ : ∃ z ∈ cells, D.int z = x := List.mem_map.mp (by rw [e]; simp)
      refine ⟨_, rfl, ⟨.inr (by decide), _, rfl, z, rfl, by decide, _, rfl, by decide, ?_⟩⟩
      exact hM _ _ ⟨rfl, _, _, rfl, Int.emod_nonneg _ (by decide), Int.lt_trans (Int.emod_lt_of_pos _ (by decide)) (by decide)⟩
    · rintro ρ S2 h
      exact h
  rintro ρ S2 ⟨rfl, m, x, rfl, m0, m1⟩
  simp only [wT, wTs, wE, wEs]
  refine ⟨_, rfl, _, at_lst hj, _, rfl, sz (by simp), ?_⟩
  refine k _ _ ⟨S2.length + 1, S2.length, ?_, ⟨by omega, ⟨m, ?_, m0, m1⟩, ⟨cells.reverse, ?_, by simpa using hz⟩, by omega⟩⟩
  · simp
  · simp [List.getElem?_append_right]
  · rw [List.append_assoc, List.getElem?_append_right (Nat.le_refl _)]
    simp
/-! _law_pick -/
def spPick : Sp := spec (γ := Nat × Nat × Int × D × List D)
  (fun (d, c, n, x, l) ds S => ds = [.obj d, x] ∧ itemsAt S x = some l ∧ l ≠ [] ∧ l.length < 1000 ∧ (∀ j, x = .obj j → j ≠ d ∧ j ≠ c) ∧ Deck d c n S ∧ n < 1000000)
  (fun (d, c, n, x, l) S v S' => v ∈ l ∧ Deck d c (n + 1) S' ∧ Fr d c S S')
theorem items_fr {d c : Nat} {S S' : Store} (f : Fr d c S S') {x : D} {l : List D} (h : itemsAt S x = some l) (hx : ∀ j, x = .obj j → j ≠ d ∧ j ≠ c) : itemsAt S' x = some l := by
  unfold itemsAt at h ⊢
  split at h
  · exact h
  · rename_i j
    split at h
    · rename_i m hm
      obtain ⟨h1, h2⟩ := hx j rfl
      rw [f.at hm h1 h2]
      exact h
    · cases h
  · cases h
theorem atI_in {α : Type} {l : List α} {r : Int} (h0 : 0 ≤ r) (h1 : r < l.length) : ∃ v, L2.atI l r = some v ∧ l[r.toNat]? = some v ∧ v ∈ l := by
  have hl : r.toNat < l.length := by omega
  refine ⟨l[r.toNat], ?_, List.getElem?_eq_getElem hl, List.getElem_mem hl⟩
  unfold L2.atI L2.ixN
  rw [if_pos h0, if_pos h1]
  exact List.getElem?_eq_getElem hl
theorem w_8 (G : Nat → Sp) (ns : List Int) (h7 : G 7 = spDraw) : ∀ ds S Q, spPick.wp ds S Q never → wTs G ns ir_8 (ini N_8.length ds) S (retE Q) := by
  rintro ds S Q ⟨⟨d, c, n, x, l⟩, ⟨rfl, hx, hl, hz, hxj, dk, hn⟩, k⟩
  simp only [ir_8, wTs, wT, wE, wEs]
  have lp : 0 < l.length := List.length_pos_iff.mpr hl
  refine ⟨_, rfl, _, rfl, _, rfl, .inr ⟨l, hx, ?_⟩⟩
  rw [h7]
  refine spec_use (d, c, n, (l.length : Int)) ⟨rfl, dk, by omega, by omega, hn⟩ fun v S2 ⟨⟨r, e, r0, r1⟩, dk2, fr⟩ => ?_
  subst e
  obtain ⟨v, h1, _, h3⟩ := atI_in r0 r1
  exact .inl ⟨l, r, v, items_fr fr hx hxj, rfl, h1, k _ _ ⟨h3, dk2, fr⟩⟩
theorem erase_map {α β : Type} (f : α → β) : ∀ (l : List α) (n : Nat), (l.map f).eraseIdx n = (l.eraseIdx n).map f
  | [], _ => rfl
  | a :: l, 0 => rfl
  | a :: l, n + 1 => by
    rw [List.map_cons, List.eraseIdx_cons_succ, List.eraseIdx_cons_succ, List.map_cons, erase_map f l n]
theorem erase_perm {α : Type} : ∀ (l : List α) (n : Nat) (h : n < l.length), (l[n] :: l.eraseIdx n).Perm l
  | [], _, h => by simp at h
  | a :: l, 0, _ => .refl _
  | a :: l, n + 1, h => by
    rw [List.eraseIdx_cons_succ, List.getElem_cons_succ]
    exact (List.Perm.swap _ _ _).trans ((erase_perm l n (by simpa using h)).cons a)
theorem Fr.set_new {d c : Nat} {S S1 : Store} (a : Fr d c S S1) {p : Nat} (h : S.length ≤ p) (o : Ob) : Fr d c S (S1.set p o) :=
  ⟨by rw [List.length_set]; exact a.len, fun j h1 h2 h3 => by rw [List.getElem?_set_ne (by omega)]; exact a.keep j h1 h2 h3⟩
/-! _law_names -/
def poolS : List Str := Txt.split "a b ab ba abc undo set off on x entries zzzzzzzz zzzzzzzy" " "
theorem pool_len : poolS.length = 13 := by decide +kernel
theorem pool_nd : poolS.Nodup := by decide +kernel
theorem pool_ok : ∀ a ∈ poolS, PyData.strOk a = true := by decide +kernel
def spNames : Sp := spec (γ := Nat × Nat × Int × Nat)
  (fun (d, c, n, many) ds S => ds = [.obj d, .int many] ∧ Deck d c n S ∧ many ≤ 3 ∧ n < 900000)
  (fun (d, c, n, many) S v S' => ∃ names : List Str, v = rowD names ∧ names.length = many ∧ names.Nodup ∧ (∀ a ∈ names, a ∈ poolS) ∧ Deck d c (n + many) S' ∧ Fr d c S S')
theorem w_9 (G : Nat → Sp) (ns : List Int) (h7 : G 7 = spDraw) : ∀ ds S Q, spNames.wp ds S Q never → wTs G ns ir_9 (ini N_9.length ds) S (retE Q) := by
  rintro ds S Q ⟨⟨d, c, n, many⟩, ⟨rfl, dk, hm, hn⟩, k⟩
  unfold ir_9
  obtain ⟨m, hd, _⟩ := dk.hd
  obtain ⟨cells, hc, _⟩ := dk.hc
  have ld := get_lt hd
  have lc := get_lt hc
  refine seq_cut (fun ρ S1 => ∃ p f : Nat, ρ = [some (.obj d), some (.int many), some (.obj p), some (.obj f), none] ∧ p ≠ f ∧ S.length ≤ p ∧ S.length ≤ f ∧ S1[p]? = some (.lst (texts poolS)) ∧ S1[f]? = some (.lst []) ∧ Deck d c n S1 ∧ Fr d c S S1) ?_ ?_
  · simp only [wT, wEs, wE]
    refine ⟨⟨_, rfl⟩, "a b ab ba abc undo set off on x entries zzzzzzzz zzzzzzzy", " ", rfl, rfl, by decide +kernel, by decide +kernel, sz (by simp), rfl, S.length, S.length + 1, ?_, by omega, Nat.le_refl _, by omega, ?_, ?_, (dk.app _).app _, (Fr.app d c S _).trans (Fr.app d c _ _)⟩
    · simp [sets, ini, N_9]
    · rw [List.append_assoc, List.getElem?_append_right (Nat.le_refl _)]
      simp
      rfl
    · simp
  rintro ρ S1 ⟨p, f, rfl, pf, hp0, hf0, hp, hf, dk1, fr1⟩
  refine seq_cut (fun ρ S2 => ∃ found : List Str, (∃ x, ρ = [some (.obj d), some (.int many), some (.obj p), some (.obj f), x]) ∧ S2[f]? = some (.lst (texts found)) ∧ found.length = many ∧ found.Nodup ∧ (∀ a ∈ found, a ∈ poolS) ∧ Deck d c (n + many) S2 ∧ Fr d c S S2) ?_ ?_
  · simp only [wT, wTs, wIt, wE, wEs, wTg]
    refine ⟨_, rfl, (many : Int), rfl, ⟨by omega, by omega⟩, ?_⟩
    refine loopL_inv (fun done ρ S2 => ∃ found pool : List Str, (∃ x, ρ = [some (.obj d), some (.int many), some (.obj p), some (.obj f), x]) ∧ S2[p]? = some (.lst (texts pool)) ∧ S2[f]? = some (.lst (texts found)) ∧ found.length = done.length ∧ pool.length + done.length = 13 ∧ (found ++ pool).Nodup ∧ (∀ a ∈ found ++ pool, a ∈ poolS) ∧ Deck d c (n + done.length) S2 ∧ Fr d c S S2)
      (fun _ _ _ _ => trivial) ?_ ?_ ⟨[], poolS, ⟨none, rfl⟩, hp, hf, rfl, by rw [pool_len]; rfl, by simpa using pool_nd, by simp, by simpa using dk1, fr1⟩
    · rintro a x b ρ S2 M e ⟨found, pool, ⟨y, rfl⟩, h1, h2, h3, h4, h5, h6, dk2, fr2⟩ hM
      have hab : a.length < many := by
        have := congrArg List.length e
        simp at this
        omega
      have pd : p ≠ d := by omega
      have pc : p ≠ c := by omega
      have fd : f ≠ d := by omega
      have fc : f ≠ c := by omega
      refine ⟨_, rfl, ⟨f, _, rfl, h2⟩, _, rfl, ⟨p, _, rfl, h1⟩, _, rfl, _, rfl, .inr ⟨_, at_lst h1, ?_⟩⟩
      rw [h7]
      have lpool : (texts pool).length = pool.length := by unfold texts; rw [List.length_map]
      refine spec_use (d, c, n + a.length, ((texts pool).length : Int)) ⟨rfl, dk2, by omega, by omega, by omega⟩ fun v S3 ⟨⟨r, er, r0, r1⟩, dk3, fr3⟩ => ?_
      subst er
      have h1' := fr3.at h1 pd pc
      have h2' := fr3.at h2 fd fc
      have hr : r.toNat < pool.length := by omega
      have er : ((r.toNat : Nat) : Int) = r := Int.toNat_of_nonneg r0
      refine ⟨p, texts pool, r.toNat, .str pool[r.toNat], rfl, by rw [er], h1', by rw [lpool, sizeLine_eq]; omega, ?_, ?_⟩
      · unfold texts
        rw [List.getElem?_map, List.getElem?_eq_getElem hr]
        rfl
      have h2'' : (S3.set p (.lst ((texts pool).eraseIdx r.toNat)))[f]? = some (.lst (texts found)) := by rw [List.getElem?_set_ne pf]; exact h2'
      refine .inl ⟨_, rfl, f, _, rfl, h2'', ?_, ?_⟩
      · unfold texts
        rw [List.length_map, sizeLine_eq]
        omega
      refine hM _ _ ⟨found ++ [pool[r.toNat]], pool.eraseIdx r.toNat, ⟨_, rfl⟩, ?_, ?_, ?_, ?_, ?_, ?_, ?_, ?_⟩
      · rw [List.getElem?_set_ne (Ne.symm pf), List.getElem?_set_self (get_lt h1')]
        unfold texts
        rw [erase_map]
      · rw [List.getElem?_set_self (by simpa using get_lt h2')]
        unfold texts
        rw [List.map_append]
        rfl
      · simp [h3]
      · rw [List.length_eraseIdx_of_lt hr]
        simp
        omega
      · have pm : (found ++ [pool[r.toNat]] ++ pool.eraseIdx r.toNat).Perm (found ++ pool) := by
          rw [List.append_assoc]
          exact (List.Perm.refl found).append (erase_perm pool r.toNat hr)
        exact pm.nodup_iff.mpr h5
      · intro z hz
        have pm : (found ++ [pool[r.toNat]] ++ pool.eraseIdx r.toNat).Perm (found ++ pool) := by
          rw [List.append_assoc]
          exact (List.Perm.refl found).append (erase_perm pool r.toNat hr)
        exact h6 z (pm.mem_iff.mp hz)
      · have := (dk3.set (.lst ((texts pool).eraseIdx r.toNat)) pd pc).set (.lst (texts found ++ [.str pool[r.toNat]])) fd fc
        have e2 : n + ((a ++ [x]).length : Int) = n + (a.length : Int) + 1 := by simp; omega
        rw [e2]
        exact this
      · exact ((fr2.trans fr3).set_new hp0 _).set_new hf0 _
    · rintro ρ S2 ⟨found, pool, hx, h1, h2, h3, h4, h5, h6, dk2, fr2⟩
      have e : ((List.range (many : Int).toNat).map fun (k : Nat) => D.int k).length = many := by simp
      rw [e] at h3 dk2
      exact ⟨found, hx, h2, h3, (List.nodup_append.mp h5).1, fun a ha => h6 a (by simp [ha]), dk2, fr2⟩
  rintro ρ S2 ⟨found, ⟨x, rfl⟩, hf2, h3, h4, h5, dk2, fr2⟩
  simp only [wT, wTs, wE, wEs]
  refine ⟨_, rfl, f, found, rfl, hf2, by omega, fun ys pm _ => ?_⟩
  refine ⟨texts ys, at_lst (by simp), ?_⟩
  exact k _ _ ⟨ys, rfl, by rw [pm.length_eq]; exact h3, pm.nodup_iff.mpr h4, fun a ha => h5 a (pm.mem_iff.mp ha), dk2.app _, fr2.trans (Fr.app d c _ _)⟩
end K03

set_option Elab.async false
set_option linter.all false
set_option maxRecDepth 100000
set_option maxHeartbeats 4000000
/-! K03h: _law_table. -/
namespace K03
open PySem Lf
/-- rules for pairs of the names, each pair once -/
structure Rules (T : Tab) (names : List Str) : Prop where
  keys : ∀ p ∈ T, p.1.1 ∈ names ∧ p.1.2 ∈ names
  small : Small T
  closed : Closed T names
  nd : (T.map (·.1)).Nodup
theorem Rules.nil (names : List Str) : Rules [] names := ⟨by simp, (fun p h => by cases h), (fun p h => by cases h), by simp⟩
theorem Rules.snoc {T : Tab} {names : List Str} (h : Rules T names) {x y : Str} {r : List Str} (hx : x ∈ names) (hy : y ∈ names) (hr : r.length ≤ 1) (hc : ∀ a ∈ r, a ∈ names) (nin : (x, y) ∉ T.map (·.1)) : Rules (T ++ [((x, y), r)]) names := by
  refine ⟨fun p hp => ?_, fun p hp => ?_, fun p hp => ?_, ?_⟩
  · rcases List.mem_append.mp hp with hp | hp
    · exact h.keys p hp
    · rw [List.mem_singleton.mp hp]; exact ⟨hx, hy⟩
  · rcases List.mem_append.mp hp with hp | hp
    · exact h.small p hp
    · rw [List.mem_singleton.mp hp]; exact hr
  · rcases List.mem_append.mp hp with hp | hp
    · exact h.closed p hp
    · rw [List.mem_singleton.mp hp]; exact hc
  · rw [List.map_append, List.nodup_append]
    refine ⟨h.nd, by simp, fun a ha b hb => ?_⟩
    rw [List.map_singleton, List.mem_singleton] at hb
    intro e
    have hb : b = (x, y) := hb
    rw [e, hb] at ha
    exact nin ha
theorem wSet_tab {i : Nat} {T : Tab} {x y : Str} {r : List Str} {S : Store} {N : Store → Prop} (hi : S[i]? = some (.dic (tabD T))) (hz : T.length ≤ 1000) (nin : (x, y) ∉ T.map (·.1)) (q : N (S.set i (.dic (tabD (T ++ [((x, y), r)]))))) : wSet (.obj i) (.tup [.str x, .str y]) (rowD r) S N :=
  show wSet (.obj i) (keyD x y) (rowD r) S N from .inr ⟨i, tabD T, rfl, hi, key_tab T x y, by unfold tabD; rw [List.length_map]; omega, by rw [put_new nin]; exact q⟩
def spTab : Sp := spec (γ := Nat × Nat × Int × List Str × Int)
  (fun (d, c, n, names, part) ds S => ds = [.obj d, rowD names, .int part] ∧ Deck d c n S ∧ 0 < part ∧ part < 1000 ∧ names.Nodup ∧ names ≠ [] ∧ names.length ≤ 3 ∧ n < 500000)
  (fun (d, c, n, names, part) S v S' => ∃ (i : Nat) (T : Tab) (n' : Int), v = .obj i ∧ S'[i]? = some (.dic (tabD T)) ∧ Rules T names ∧ T.length ≤ 9 ∧ Deck d c n' S' ∧ n' ≤ n + 27 ∧ Fr d c S S' ∧ S.length ≤ i)
theorem w_10 (G : Nat → Sp) (ns : List Int) (h7 : G 7 = spDraw) (h8 : G 8 = spPick) : ∀ ds S Q, spTab.wp ds S Q never → wTs G ns ir_10 (ini N_10.length ds) S (retE Q) := by
  rintro ds S Q ⟨⟨d, c, n, names, part⟩, ⟨rfl, dk, hp0, hp1, nd, hne, hln, hn⟩, k⟩
  unfold ir_10
  obtain ⟨m, hd, _⟩ := dk.hd
  obtain ⟨cells, hc, _⟩ := dk.hc
  have ld := get_lt hd
  have lc := get_lt hc
  refine seq_cut (fun ρ S1 => ∃ i : Nat, ρ = [some (.obj d), some (rowD names), some (.int part), some (.obj i), none, none] ∧ S.length ≤ i ∧ S1[i]? = some (.dic (tabD [])) ∧ Deck d c n S1 ∧ Fr d c S S1) ?_ ?_
  · simp only [wT, wE, wTg, Lf.alloc]
    exact ⟨S.length, rfl, Nat.le_refl _, by simp [tabD], dk.app _, Fr.app d c S _⟩
  rintro ρ S1 ⟨i, rfl, li, hi, dk1, fr1⟩
  have id_ : i ≠ d := by omega
  have ic_ : i ≠ c := by omega
  refine seq_cut (fun ρ S2 => ∃ (T : Tab) (n' : Int), (∃ x y, ρ = [some (.obj d), some (rowD names), some (.int part), some (.obj i), x, y]) ∧ S2[i]? = some (.dic (tabD T)) ∧ Rules T names ∧ T.length ≤ 9 ∧ Deck d c n' S2 ∧ n' ≤ n + 27 ∧ Fr d c S S2) ?_ ?_
  · simp only [wT, wTs, wIt, wE, wEs, wTg]
    refine ⟨_, rfl, names.map D.str, rfl, ?_⟩
    refine loopL_inv (fun done ρ S2 => ∃ (a : List Str) (T : Tab) (n' : Int), done = a.map D.str ∧ (∃ x y, ρ = [some (.obj d), some (rowD names), some (.int part), some (.obj i), x, y]) ∧ S2[i]? = some (.dic (tabD T)) ∧ Rules T names ∧ (∀ p ∈ T, p.1.1 ∈ a) ∧ T.length ≤ 3 * a.length ∧ Deck d c n' S2 ∧ n' ≤ n + 9 * a.length ∧ Fr d c S S2)
      (fun _ _ _ _ => trivial) ?_ ?_ ⟨[], [], n, rfl, ⟨none, none, rfl⟩, hi, Rules.nil _, by simp, by simp, dk1, by simp, fr1⟩
    · rintro kk e mm ρ S2 M hl ⟨a, T, n', rfl, ⟨x0, y0, rfl⟩, hi2, hR, hT, hTl, dk2, hn2, fr2⟩ hM
      obtain ⟨a', x, b, e1, e2, rfl, e4⟩ := map_split hl
      have e2' : a = a' := rowD_inj (show rowD a = rowD a' from congrArg D.tup e2)
      subst e2'
      have hx : x ∈ names := by rw [e1]; simp
      have nxa : x ∉ a := fun z => by
        rw [e1] at nd
        exact (List.nodup_append.mp nd).2.2 x z x List.mem_cons_self rfl
      have hal : a.length + 1 ≤ names.length := by rw [e1, List.length_append, List.length_cons]; omega
      refine ⟨_, rfl, names.map D.str, rfl, ?_⟩
      refine loopL_inv (fun done ρ S2 => ∃ (b : List Str) (T : Tab) (n' : Int), done = b.map D.str ∧ (∃ y, ρ = [some (.obj d), some (rowD names), some (.int part), some (.obj i), some (.str x), y]) ∧ S2[i]? = some (.dic (tabD T)) ∧ Rules T names ∧ (∀ p ∈ T, p.1.1 ∈ a ∨ (p.1.1 = x ∧ p.1.2 ∈ b)) ∧ T.length ≤ 3 * a.length + b.length ∧ Deck d c n' S2 ∧ n' ≤ n + 9 * a.length + 3 * b.length ∧ Fr d c S S2)
        (fun _ _ _ _ => trivial) ?_ ?_ ⟨[], T, n', rfl, ⟨_, rfl⟩, hi2, hR, fun p hp => .inl (hT p hp), by simpa using hTl, dk2, by simpa using hn2, fr2⟩
      · rintro kk e mm ρ S3 M hl2 ⟨b2, T, n', rfl, ⟨y0, rfl⟩, hi3, hR, hT, hTl, dk3, hn3, fr3⟩ hM
        obtain ⟨b', y, b3, f1, f2, rfl, f4⟩ := map_split hl2
        have f2' : b2 = b' := rowD_inj (show rowD b2 = rowD b' from congrArg D.tup f2)
        subst f2'
        have hy : y ∈ names := by rw [f1]; simp
        have nyb : y ∉ b2 := fun z => by
          rw [f1] at nd
          exact (List.nodup_append.mp nd).2.2 y z y List.mem_cons_self rfl
        have hbl : b2.length + 1 ≤ names.length := by rw [f1, List.length_append, List.length_cons]; omega
        have nin : (x, y) ∉ T.map (·.1) := fun z => by
          obtain ⟨p, hp, ep⟩ := List.mem_map.mp z
          rcases hT p hp with h | ⟨_, h⟩
          · rw [ep] at h; exact nxa h
          · rw [ep] at h; exact nyb h
        refine ⟨_, rfl, _, rfl, ?_⟩
        rw [h7]
        refine spec_use (d, c, n', part) ⟨rfl, dk3, hp0, hp1, by omega⟩ fun v S4 ⟨⟨r, er, r0, r1⟩, dk4, fr4⟩ => ?_
        subst er
        have hi4 := fr4.at hi3 id_ ic_
        refine ⟨r, 0, rfl, rfl, ?_⟩
        by_cases hr : 0 < r
        · rw [decide_eq_true hr]
          refine .inl ⟨rfl, _, rfl, ⟨sz (by simp), _, rfl, ⟨sz (by simp), _, rfl, ⟨sz (by simp), _, rfl, _, rfl, ?_⟩⟩⟩⟩
          rw [h8]
          refine spec_use (d, c, n' + 1, rowD names, names.map D.str) ⟨rfl, rfl, by simpa using hne, by simp; omega, (fun j hj => by cases hj), dk4, by omega⟩ fun v S5 ⟨hv, dk5, fr5⟩ => ?_
          obtain ⟨z, hz, rfl⟩ := List.mem_map.mp hv
          refine ⟨sz (by simp), sz (by simp), ?_⟩
          have hi5 := fr5.at hi4 id_ ic_
          have fr15 := (fr3.trans fr4).trans fr5
          refine spec_use (d, c, n' + 1 + 1, .obj S5.length, [.tup [], .tup [.str x], .tup [.str y], .tup [.str z]]) ⟨rfl, at_lst (by simp), by simp, by simp, fun j hj => ?_, dk5.app _, by omega⟩ fun v S6 ⟨hv, dk6, fr6⟩ => ?_
          · injection hj with hj
            have := fr15.len
            omega
          obtain ⟨res, rfl, hres, hrc⟩ : ∃ res : List Str, v = rowD res ∧ res.length ≤ 1 ∧ ∀ a ∈ res, a ∈ names := by
            simp only [List.mem_cons, List.not_mem_nil, or_false] at hv
            rcases hv with rfl | rfl | rfl | rfl
            · exact ⟨[], rfl, by simp, by simp⟩
            · exact ⟨[x], rfl, by simp, by simpa using hx⟩
            · exact ⟨[y], rfl, by simp, by simpa using hy⟩
            · exact ⟨[z], rfl, by simp, by simpa using hz⟩
          have hi6 := fr6.at (show (S5 ++ [Ob.lst [.tup [], .tup [.str x], .tup [.str y], .tup [.str z]]])[i]? = _ by rw [List.getElem?_append_left (get_lt hi5)]; exact hi5) id_ ic_
          refine ⟨_, rfl, _, rfl, _, rfl, sz (by simp), wSet_tab hi6 (by omega) nin ?_⟩
          refine hM _ _ ⟨b2 ++ [y], T ++ [((x, y), res)], n' + 1 + 1 + 1, by simp, ⟨_, rfl⟩, ?_, hR.snoc hx hy hres hrc nin, fun p hp => ?_, by simp; omega, dk6.set _ id_ ic_, by simp; omega, ((fr15.trans (Fr.app d c _ _)).trans fr6).set_new li _⟩
          · rw [List.getElem?_set_self (get_lt hi6)]
          · rcases List.mem_append.mp hp with hp | hp
            · rcases hT p hp with h | ⟨h, h'⟩
              · exact .inl h
              · exact .inr ⟨h, by simp [h']⟩
            · rw [List.mem_singleton.mp hp]
              exact .inr ⟨rfl, by simp⟩
        · rw [decide_eq_false hr]
          refine .inr ⟨rfl, hM _ _ ⟨b2 ++ [y], T, n' + 1, by simp, ⟨_, rfl⟩, hi4, hR, fun p hp => ?_, by simp; omega, dk4, by simp; omega, fr3.trans fr4⟩⟩
          rcases hT p hp with h | ⟨h, h'⟩
          · exact .inl h
          · exact .inr ⟨h, by simp [h']⟩
      · rintro ρ S3 ⟨b2, T, n', eb, ⟨y0, rfl⟩, hi3, hR, hT, hTl, dk3, hn3, fr3⟩
        have eb' : names = b2 := rowD_inj (show rowD names = rowD b2 from congrArg D.tup eb)
        subst eb'
        refine hM _ _ ⟨a ++ [x], T, n', by simp, ⟨_, _, rfl⟩, hi3, hR, fun p hp => ?_, by simp; omega, dk3, by simp; omega, fr3⟩
        rcases hT p hp with h | ⟨h, h'⟩
        · simp [h]
        · simp [h]
    · rintro ρ S2 ⟨a, T, n', ea, hρ, hi2, hR, hT, hTl, dk2, hn2, fr2⟩
      have ea' : names = a := rowD_inj (show rowD names = rowD a from congrArg D.tup ea)
      subst ea'
      exact ⟨T, n', hρ, hi2, hR, by omega, dk2, by omega, fr2⟩
  rintro ρ S2 ⟨T, n', ⟨x, y, rfl⟩, hi2, hR, hTl, dk2, hn2, fr2⟩
  simp only [wT, wTs, wE]
  exact ⟨_, rfl, k _ _ ⟨i, T, n', rfl, hi2, hR, hTl, dk2, hn2, fr2, li⟩⟩
end K03

set_option Elab.async false
set_option linter.all false
set_option maxRecDepth 100000
set_option maxHeartbeats 4000000
/-! K03i: _law_spots, _law_once. -/
namespace K03
open PySem Lf
def isSpot (T : Tab) (r : List Str) (k : Nat) : Bool := match r[k]?, r[k + 1]? with
  | some x, some y => (T.get x y).isSome
  | _, _ => false
def spots (T : Tab) (r : List Str) : List Nat := (List.range (r.length - 1)).filter (isSpot T r)
theorem range_split {n : Nat} {f : Nat → D} {k : List D} {d : D} {m : List D} (h : (List.range n).map f = k ++ d :: m) : k = (List.range k.length).map f ∧ d = f k.length ∧ k.length < n := by
  have hl : k.length < n := by
    have := congrArg List.length h
    simp at this
    omega
  have h1 : ((List.range n).map f).take k.length = k := by rw [h]; simp
  have h2 : ((List.range n).map f)[k.length]? = some d := by rw [h]; simp
  refine ⟨?_, ?_, hl⟩
  · rw [← List.map_take, List.take_range, Nat.min_eq_left (by omega)] at h1
    exact h1.symm
  · rw [List.getElem?_map, List.getElem?_range hl] at h2
    simpa using h2.symm
theorem intD_inj {a b : List Nat} (h : a.map (fun (k : Nat) => D.int k) = b.map (fun (k : Nat) => D.int k)) : a = b := by
  revert b
  induction a with
  | nil => intro b h; cases b with
    | nil => rfl
    | cons _ _ => cases h
  | cons p a ih => intro b h; cases b with
    | nil => cases h
    | cons q b =>
      rw [List.map_cons, List.map_cons] at h
      injection h with h1 h2
      injection h1 with h1
      rw [ih h2, show p = q by omega]
theorem atI_nat {α : Type} {l : List α} {k : Nat} {a : α} (h : l[k]? = some a) : L2.atI l (k : Int) = some a := by
  have hl := (List.getElem?_eq_some_iff.mp h).1
  unfold L2.atI L2.ixN
  rw [if_pos (by omega), if_pos (by omega)]
  exact h
theorem wAdd {a b : Int} {S : Store} {Q : K1} (q : Q (.int (a + b)) S) : wBin .Add (.int a) (.int b) S Q := q
def spSpots : Sp := spec (γ := Nat × Tab × List Str)
  (fun (i, T, r) ds S => ds = [.obj i, rowD r] ∧ S[i]? = some (.dic (tabD T)) ∧ r.length ≤ 1000)
  (fun (i, T, r) S v S' => S' = S ++ [.lst ((spots T r).map fun (k : Nat) => D.int k)] ∧ v = .obj S.length)
theorem w_11 (G : Nat → Sp) (ns : List Int) : ∀ ds S Q, spSpots.wp ds S Q never → wTs G ns ir_11 (ini N_11.length ds) S (retE Q) := by
  rintro ds S Q ⟨⟨i, T, r⟩, ⟨rfl, hi, hz⟩, k⟩
  simp only [ir_11, wTs, wT, wE, wEs, wIt, wTg, wC]
  have hlen : (r.map D.str).length = r.length := List.length_map _
  refine ⟨_, rfl, .inr ⟨r.map D.str, rfl, _, rfl, ⟨by omega, by omega⟩, ?_⟩⟩
  have en : (((r.map D.str).length : Int) - 1).toNat = r.length - 1 := by rw [hlen]; omega
  rw [en]
  refine ⟨sz (by simp; omega), ?_⟩
  refine loopC_inv (fun done acc S' => S' = S ∧ acc = ((List.range done.length).filter (isSpot T r)).map fun (k : Nat) => D.int k) (fun _ _ _ _ => trivial) ?_ ?_ ⟨rfl, rfl⟩
  · rintro kk d m acc S' M hl ⟨rfl, rfl⟩ hM
    obtain ⟨e1, rfl, e3⟩ := range_split hl
    have g1 : r[kk.length]? = some r[kk.length] := List.getElem?_eq_getElem (by omega)
    have g2 : r[kk.length + 1]? = some r[kk.length + 1] := List.getElem?_eq_getElem (by omega)
    have es : isSpot T r kk.length = (T.get r[kk.length] r[kk.length + 1]).isSome := by unfold isSpot; rw [g1, g2]
    have ef : (List.range (kk ++ [D.int kk.length]).length).filter (isSpot T r) = (List.range kk.length).filter (isSpot T r) ++ (if isSpot T r kk.length = true then [kk.length] else []) := by
      rw [List.length_append, List.length_singleton, List.range_succ, List.filter_append]
      congr 1
      rw [List.filter_cons, List.filter_nil]
    refine ⟨_, rfl, _, rfl, wIx_row (atI_nat g1) ⟨_, rfl, _, rfl, wAdd (wIx_row (atI_nat (k := kk.length + 1) g2) ⟨sz (by simp), _, rfl, wIn_tab hi ⟨_, rfl, ?_⟩⟩)⟩⟩
    rw [← es]
    cases hs : isSpot T r kk.length with
    | true =>
      refine ⟨_, rfl, hM _ _ ⟨rfl, ?_⟩⟩
      rw [ef, hs, if_pos rfl, List.map_append]
      rfl
    | false =>
      refine hM _ _ ⟨rfl, ?_⟩
      rw [ef, hs, if_neg Bool.false_ne_true, List.append_nil, List.append_nil]
  · rintro acc S' ⟨rfl, rfl⟩
    refine k _ _ ⟨?_, rfl⟩
    rw [List.length_map, List.length_range]
    rfl
/-! _law_once -/
def spOnce : Sp := spec (γ := Nat × Tab × List Str × Str × Str × List Str × List Str)
  (fun (i, T, a, x, y, b, res) ds S => ds = [.obj i, rowD (a ++ x :: y :: b), .int a.length] ∧ S[i]? = some (.dic (tabD T)) ∧ T.get x y = some res ∧ a.length + res.length + b.length ≤ 1000)
  (fun (i, T, a, x, y, b, res) S v S' => S' = S ∧ v = rowD (a ++ res ++ b))
theorem cut_to {α : Type} (a b : List α) : Lf.cut (a ++ b) none (some (a.length : Int)) = a := by
  unfold Lf.cut
  have e : HT.sIx (a ++ b).length (a ++ b).length (some (a.length : Int)) = min a.length (a ++ b).length := HT.sIx_nat _ _ _
  rw [e, List.length_append, Nat.min_eq_left (by omega)]
  simp [HT.sIx]
theorem cut_from {α : Type} (a b : List α) : Lf.cut (a ++ b) (some (a.length : Int)) none = b := by
  unfold Lf.cut
  have e : HT.sIx (a ++ b).length 0 (some (a.length : Int)) = min a.length (a ++ b).length := HT.sIx_nat _ _ _
  rw [e, List.length_append, Nat.min_eq_left (by omega)]
  simp [HT.sIx]
theorem w_12 (G : Nat → Sp) (ns : List Int) : ∀ ds S Q, spOnce.wp ds S Q never → wTs G ns ir_12 (ini N_12.length ds) S (retE Q) := by
  rintro ds S Q ⟨⟨i, T, a, x, y, b, res⟩, ⟨rfl, hi, hg, hz⟩, k⟩
  simp only [ir_12, wTs, wT, wE, wEs, wO]
  have g1 : (a ++ x :: y :: b)[a.length]? = some x := by simp
  have g2 : (a ++ x :: y :: b)[a.length + 1]? = some y := by
    rw [List.getElem?_append_right (by omega)]
    simp
  refine ⟨_, rfl, _, rfl, _, rfl, wSl_row ⟨_, rfl, _, rfl, _, rfl, wIx_row (atI_nat g1) ⟨_, rfl, _, rfl, wAdd (wIx_row (atI_nat (k := a.length + 1) g2) ⟨sz (by simp), wIx_tab hi hg ?_⟩)⟩⟩⟩
  rw [cut_to]
  refine wBin_row (by omega) ⟨_, rfl, _, rfl, wAdd ⟨_, rfl, wSl_row ?_⟩⟩
  have e1 : a ++ x :: y :: b = (a ++ [x, y]) ++ b := by simp
  have e2 : ((a.length : Int) + 2) = ((a ++ [x, y]).length : Int) := by simp
  rw [e1, e2, cut_from]
  exact wBin_row (by rw [List.length_append]; omega) (k _ _ ⟨rfl, rfl⟩)
end K03

set_option Elab.async false
set_option linter.all false
set_option maxRecDepth 100000
set_option maxHeartbeats 4000000
/-! K03j: _law_ends: all nets of a row. -/
namespace K03
open PySem Lf
/-- the old objects as they were -/
structure Gr (S S' : Store) : Prop where
  len : S.length ≤ S'.length
  keep : ∀ j : Nat, j < S.length → S'[j]? = S[j]?
theorem Gr.refl (S : Store) : Gr S S := ⟨Nat.le_refl _, fun _ _ => rfl⟩
theorem Gr.trans {S S1 S2 : Store} (a : Gr S S1) (b : Gr S1 S2) : Gr S S2 := ⟨Nat.le_trans a.len b.len, fun j h => (b.keep j (Nat.lt_of_lt_of_le h a.len)).trans (a.keep j h)⟩
theorem Gr.at {S S' : Store} (a : Gr S S') {j : Nat} {o : Ob} (h : S[j]? = some o) : S'[j]? = some o := (a.keep j (get_lt h)).trans h
theorem Gr.app (S T : Store) : Gr S (S ++ T) := ⟨by simp, fun j h => List.getElem?_append_left h⟩
theorem Gr.set_new {S S1 : Store} (a : Gr S S1) {p : Nat} (h : S.length ≤ p) (o : Ob) : Gr S (S1.set p o) := ⟨by rw [List.length_set]; exact a.len, fun j h1 => by rw [List.getElem?_set_ne (by omega)]; exact a.keep j h1⟩
def wt : Nat → Nat
  | 0 => 1
  | 1 => 2
  | 2 => 6
  | 3 => 24
  | _ => 120
theorem wt_pos : ∀ n, 1 ≤ wt n
  | 0 => by decide
  | 1 => by decide
  | 2 => by decide
  | 3 => by decide
  | n + 4 => by show 1 ≤ 120; decide
theorem wt_up {a b : Nat} (h : a ≤ b) (hb : b ≤ 4) : wt a ≤ wt b := by
  have : (a = 0 ∨ a = 1 ∨ a = 2 ∨ a = 3 ∨ a = 4) ∧ (b = 0 ∨ b = 1 ∨ b = 2 ∨ b = 3 ∨ b = 4) := by omega
  obtain ⟨h1, h2⟩ := this
  rcases h1 with rfl | rfl | rfl | rfl | rfl <;> rcases h2 with rfl | rfl | rfl | rfl | rfl <;> first | decide | omega
theorem wt_fit {n m : Nat} (hn : n ≤ 4) (hm : m ≤ n - 1) : m + 3 * (m * wt (n - 1)) ≤ 3 * wt n ∧ 1 + m * wt (n - 1) ≤ wt n := by
  have : n = 0 ∨ n = 1 ∨ n = 2 ∨ n = 3 ∨ n = 4 := by omega
  rcases this with rfl | rfl | rfl | rfl | rfl <;> simp only [wt, Nat.zero_sub, Nat.reduceSub] at hm ⊢ <;> omega
def ws (W : List (List Str)) : Nat := (W.map fun r => wt r.length).sum
theorem ws_app (a b : List (List Str)) : ws (a ++ b) = ws a + ws b := by simp [ws]
theorem ws_one (r : List Str) : ws [r] = wt r.length := by simp [ws]
theorem spot_split {T : Tab} {r : List Str} {k : Nat} (h : k ∈ spots T r) : ∃ a x y b res, r = a ++ x :: y :: b ∧ a.length = k ∧ T.get x y = some res := by
  unfold spots at h
  obtain ⟨h1, h2⟩ := List.mem_filter.mp h
  rw [List.mem_range] at h1
  have g1 : r[k]? = some r[k] := List.getElem?_eq_getElem (by omega)
  have g2 : r[k + 1]? = some r[k + 1] := List.getElem?_eq_getElem (by omega)
  unfold isSpot at h2
  rw [g1, g2] at h2
  obtain ⟨res, hr⟩ := Option.isSome_iff_exists.mp h2
  refine ⟨r.take k, r[k], r[k + 1], r.drop (k + 2), res, ?_, by rw [List.length_take]; omega, hr⟩
  have e1 : r.drop k = r[k] :: r.drop (k + 1) := List.drop_eq_getElem_cons (by omega)
  have e2 : r.drop (k + 1) = r[k + 1] :: r.drop (k + 1 + 1) := List.drop_eq_getElem_cons (by omega)
  rw [← e2, ← e1, List.take_append_drop]
theorem mem_spots {T : Tab} {a : List Str} {x y : Str} {b res : List Str} (h : T.get x y = some res) : a.length ∈ spots T (a ++ x :: y :: b) := by
  unfold spots
  refine List.mem_filter.mpr ⟨by rw [List.mem_range, List.length_append, List.length_cons, List.length_cons]; omega, ?_⟩
  have g1 : (a ++ x :: y :: b)[a.length]? = some x := by simp
  have g2 : (a ++ x :: y :: b)[a.length + 1]? = some y := by
    rw [List.getElem?_append_right (by omega)]
    simp
  unfold isSpot
  rw [g1, g2]
  show (T.get x y).isSome = true
  rw [h]
  rfl
theorem net_spots {T : Tab} {r : List Str} : Net T r ↔ spots T r = [] := by
  constructor
  · intro h
    rw [List.eq_nil_iff_forall_not_mem]
    intro k hk
    obtain ⟨a, x, y, b, res, e, _, hr⟩ := spot_split hk
    exact h _ (e ▸ Step.at a x y b res hr)
  · intro h s k
    cases k with
    | «at» a x y b res hr =>
      have := mem_spots (a := a) (b := b) hr
      rw [h] at this
      cases this
theorem spots_len {T : Tab} {r : List Str} : (spots T r).length ≤ r.length - 1 := by
  unfold spots
  exact Nat.le_trans (List.length_filter_le _ _) (by simp)
structure EI (T : Tab) (A row : List Str) (W Kn F : List (List Str)) : Prop where
  sub : ∀ r ∈ W, r ∈ Kn
  ndK : Kn.Nodup
  ndW : W.Nodup
  rch : ∀ r ∈ Kn, Reach T row r ∧ (∀ a ∈ r, a ∈ A) ∧ r.length ≤ 4
  root : row ∈ Kn
  ndF : F.Nodup
  memF : ∀ r, r ∈ F ↔ r ∈ Kn ∧ r ∉ W ∧ Net T r
  clo : ∀ r ∈ Kn, r ∉ W → ∀ s, Step T r s → s ∈ Kn
  szK : Kn.length + 3 * ws W ≤ 361
  szF : F.length + ws W ≤ 120
theorem EI.start {T : Tab} {A row : List Str} (h1 : ∀ a ∈ row, a ∈ A) (h2 : row.length ≤ 4) : EI T A row [row] [row] [] := by
  have hw : wt row.length ≤ 120 := wt_up h2 (Nat.le_refl 4)
  refine ⟨fun r h => h, by simp, by simp, fun r hr => ?_, by simp, by simp, fun r => ?_, fun r h1 h2 => absurd h1 h2, ?_, ?_⟩
  · rw [List.mem_singleton.mp hr]
    exact ⟨.refl _, h1, h2⟩
  · constructor
    · intro h; cases h
    · rintro ⟨a, b, _⟩; exact absurd a b
  · rw [ws_one, List.length_singleton]; omega
  · rw [ws_one, List.length_nil]; omega
/-- at the end: the found ones are the nets -/
theorem EI.done {T : Tab} {A row : List Str} {Kn F : List (List Str)} (h : EI T A row [] Kn F) : F.Nodup ∧ ∀ r, r ∈ F ↔ Reach T row r ∧ Net T r := by
  refine ⟨h.ndF, fun r => ?_⟩
  rw [h.memF]
  constructor
  · rintro ⟨a, _, b⟩
    exact ⟨(h.rch r a).1, b⟩
  · rintro ⟨a, b⟩
    refine ⟨?_, by simp, b⟩
    have : ∀ {p q : List Str}, Reach T p q → p ∈ Kn → q ∈ Kn := by
      intro p q k
      induction k with
      | refl => exact id
      | head s _ ih => exact fun hp => ih (h.clo _ hp (by simp) _ s)
    exact this a h.root
/-- within a turn: here is popped, the folds at ks are done -/
structure EJ (T : Tab) (A row here : List Str) (W0 K0 : List (List Str)) (ks : List Nat) (W Kn F : List (List Str)) : Prop where
  sub : ∀ r ∈ W, r ∈ Kn
  ndK : Kn.Nodup
  ndW : W.Nodup
  rch : ∀ r ∈ Kn, Reach T row r ∧ (∀ a ∈ r, a ∈ A) ∧ r.length ≤ 4
  root : row ∈ Kn
  ndF : F.Nodup
  hK : here ∈ Kn
  hW : here ∉ W
  memF : ∀ r, r ∈ F ↔ r ∈ Kn ∧ r ∉ W ∧ Net T r
  clo : ∀ r ∈ Kn, r ∉ W → r ≠ here → ∀ s, Step T r s → s ∈ Kn
  cloh : ∀ a x y b res, here = a ++ x :: y :: b → a.length ∈ ks → T.get x y = some res → a ++ res ++ b ∈ Kn
  szW : ws W ≤ ws W0 + ks.length * wt (here.length - 1)
  szK : Kn.length ≤ K0.length + ks.length
theorem EI.pop {T : Tab} {A row here : List Str} {W0 Kn F F1 : List (List Str)} (h : EI T A row (W0 ++ [here]) Kn F) (hF : F1 = if spots T here = [] then F ++ [here] else F) : EJ T A row here W0 Kn [] W0 Kn F1 := by
  have nd := List.nodup_append.mp h.ndW
  have hW : here ∉ W0 := fun z => nd.2.2 here z here (by simp) rfl
  have hK : here ∈ Kn := h.sub here (by simp)
  have nF : here ∉ F := fun z => ((h.memF here).mp z).2.1 (by simp)
  refine ⟨fun r hr => h.sub r (by simp [hr]), h.ndK, nd.1, h.rch, h.root, ?_, hK, hW, fun r => ?_, fun r h1 h2 h3 => h.clo r h1 (by simp [h2, h3]), fun a x y b res _ hk => (by cases hk), by simp, by simp⟩
  · rw [hF]
    split
    · rw [List.nodup_append]
      refine ⟨h.ndF, by simp, fun a ha b hb => ?_⟩
      rw [List.mem_singleton.mp hb]
      rintro rfl
      exact nF ha
    · exact h.ndF
  · have e : r ∈ F1 ↔ r ∈ F ∨ (r = here ∧ Net T here) := by
      rw [hF, net_spots]
      split
      · rename_i q; simp [q]
      · rename_i q; simp [q]
    rw [e, h.memF]
    constructor
    · rintro (⟨a, b, c⟩ | ⟨rfl, c⟩)
      · exact ⟨a, fun z => b (by simp [z]), c⟩
      · exact ⟨hK, hW, c⟩
    · rintro ⟨a, b, c⟩
      by_cases q : r = here
      · subst q; exact .inr ⟨rfl, c⟩
      · exact .inl ⟨a, by simp [b, q], c⟩
theorem EJ.old {T : Tab} {A row here : List Str} {W0 K0 W Kn F : List (List Str)} {ks : List Nat} (h : EJ T A row here W0 K0 ks W Kn F) {a b res : List Str} {x y : Str} (e : here = a ++ x :: y :: b) (g : T.get x y = some res) (m : a ++ res ++ b ∈ Kn) : EJ T A row here W0 K0 (ks ++ [a.length]) W Kn F := by
  refine ⟨h.sub, h.ndK, h.ndW, h.rch, h.root, h.ndF, h.hK, h.hW, h.memF, h.clo, fun a' x' y' b' res' e' hk g' => ?_, ?_, ?_⟩
  · rcases List.mem_append.mp hk with hk | hk
    · exact h.cloh a' x' y' b' res' e' hk g'
    · have hl := List.mem_singleton.mp hk
      have := List.append_inj (e'.symm.trans e) hl
      obtain ⟨rfl, e2⟩ := this
      injection e2 with e3 e4
      injection e4 with e5 e6
      subst e3 e5 e6
      rw [g] at g'
      cases g'
      exact m
  · have := h.szW
    rw [List.length_append, List.length_singleton, Nat.add_mul]
    omega
  · have := h.szK
    rw [List.length_append, List.length_singleton]
    omega
theorem EJ.new {T : Tab} {A row here : List Str} {W0 K0 W Kn F : List (List Str)} {ks : List Nat} (ok : OkT T A) (h : EJ T A row here W0 K0 ks W Kn F) {a b res : List Str} {x y : Str} (e : here = a ++ x :: y :: b) (g : T.get x y = some res) (m : a ++ res ++ b ∉ Kn) :
    EJ T A row here W0 K0 (ks ++ [a.length]) (W ++ [a ++ res ++ b]) (Kn ++ [a ++ res ++ b]) F := by
  have st : Step T here (a ++ res ++ b) := e ▸ Step.at a x y b res g
  obtain ⟨r1, r2, r3⟩ := h.rch here h.hK
  have hl := st.len ok.small
  have nh : here ≠ a ++ res ++ b := fun z => m (z ▸ h.hK)
  refine ⟨fun r hr => ?_, ?_, ?_, fun r hr => ?_, by simp [h.root], h.ndF, by simp [h.hK], ?_, fun r => ?_, fun r h1 h2 h3 s k => ?_, fun a' x' y' b' res' e' hk g' => ?_, ?_, ?_⟩
  · rcases List.mem_append.mp hr with hr | hr
    · exact List.mem_append_left _ (h.sub r hr)
    · exact List.mem_append_right _ hr
  · rw [List.nodup_append]
    refine ⟨h.ndK, by simp, fun p hp q hq => ?_⟩
    rw [List.mem_singleton.mp hq]
    rintro rfl
    exact m hp
  · rw [List.nodup_append]
    refine ⟨h.ndW, by simp, fun p hp q hq => ?_⟩
    rw [List.mem_singleton.mp hq]
    rintro rfl
    exact m (h.sub _ hp)
  · rcases List.mem_append.mp hr with hr | hr
    · exact h.rch r hr
    · rw [List.mem_singleton.mp hr]
      exact ⟨r1.trans (.head st (.refl _)), ok.closed |> fun c => Closed.step c st r2, by omega⟩
  · intro z
    rcases List.mem_append.mp z with z | z
    · exact h.hW z
    · exact nh (List.mem_singleton.mp z)
  · rw [h.memF]
    constructor
    · rintro ⟨p, q, s⟩
      refine ⟨List.mem_append_left _ p, fun z => ?_, s⟩
      rcases List.mem_append.mp z with z | z
      · exact q z
      · rw [List.mem_singleton.mp z] at p; exact m p
    · rintro ⟨p, q, s⟩
      rcases List.mem_append.mp p with p | p
      · exact ⟨p, fun z => q (List.mem_append_left _ z), s⟩
      · exact absurd (List.mem_append_right _ p) q
  · rcases List.mem_append.mp h1 with p | p
    · exact List.mem_append_left _ (h.clo r p (fun z => h2 (List.mem_append_left _ z)) h3 s k)
    · exact absurd (List.mem_append_right _ p) h2
  · rcases List.mem_append.mp hk with hk | hk
    · exact List.mem_append_left _ (h.cloh a' x' y' b' res' e' hk g')
    · have hl := List.mem_singleton.mp hk
      have := List.append_inj (e'.symm.trans e) hl
      obtain ⟨rfl, e2⟩ := this
      injection e2 with e3 e4
      injection e4 with e5 e6
      subst e3 e5 e6
      rw [g] at g'
      cases g'
      simp
  · have h1 := h.szW
    have h2 : wt (a ++ res ++ b).length ≤ wt (here.length - 1) := wt_up (by omega) (by omega)
    have e3 : (ks ++ [a.length]).length = ks.length + 1 := by simp
    rw [ws_app, ws_one, e3, Nat.add_mul]
    omega
  · have := h.szK
    rw [List.length_append, List.length_append, List.length_singleton, List.length_singleton]
    omega
theorem EJ.turn {T : Tab} {A row here : List Str} {W0 K0 W Kn F F0 : List (List Str)} (h : EJ T A row here W0 K0 (spots T here) W Kn F) (h0 : EI T A row (W0 ++ [here]) K0 F0) (hF : F.length ≤ F0.length + 1) : EI T A row W Kn F ∧ ws W < ws (W0 ++ [here]) := by
  have r3 := (h.rch here h.hK).2.2
  have hs := spots_len (T := T) (r := here)
  obtain ⟨f1, f2⟩ := wt_fit r3 hs
  have s1 := h0.szK
  have s2 := h0.szF
  have s3 := h.szW
  have s4 := h.szK
  rw [ws_app, ws_one] at s1 s2 ⊢
  refine ⟨⟨h.sub, h.ndK, h.ndW, h.rch, h.root, h.ndF, h.memF, fun r h1 h2 s k => ?_, by omega, by omega⟩, by omega⟩
  by_cases q : r = here
  · subst q
    generalize e : r = r' at k
    cases k with
    | «at» a x y b res g => exact h.cloh a x y b res e (e ▸ mem_spots g) g
  · exact h.clo r h1 h2 q s k
end K03

set_option Elab.async false
set_option linter.all false
set_option maxRecDepth 100000
set_option maxHeartbeats 4000000
/-! K03k: _law_ends, walked. -/
namespace K03
open PySem Lf
def rowsD (W : List (List Str)) : List D := W.map rowD
theorem rowsD_inj {a b : List (List Str)} (h : rowsD a = rowsD b) : a = b := by
  unfold rowsD at h
  revert b
  induction a with
  | nil => intro b h; cases b with
    | nil => rfl
    | cons _ _ => cases h
  | cons p a ih => intro b h; cases b with
    | nil => cases h
    | cons q b =>
      rw [List.map_cons, List.map_cons] at h
      injection h with h1 h2
      rw [rowD_inj h1, ih h2]
theorem mem_rowsD {r : List Str} {W : List (List Str)} : rowD r ∈ rowsD W ↔ r ∈ W := by
  unfold rowsD
  constructor
  · intro h
    obtain ⟨s, hs, e⟩ := List.mem_map.mp h
    exact rowD_inj e ▸ hs
  · exact fun h => List.mem_map_of_mem h
theorem rows_flat {W : List (List Str)} (h : ∀ r ∈ W, ∀ a ∈ r, PyData.strOk a = true) : D.flats (rowsD W) = true := flats_of fun d hd => by
  obtain ⟨r, hr, rfl⟩ := List.mem_map.mp hd
  exact row_flat (h r hr)
theorem rows_dep (W : List (List Str)) : D.deps (rowsD W) ≤ 63 := Nat.le_trans (deps_of (n := 1) fun d hd => by
  obtain ⟨r, hr, rfl⟩ := List.mem_map.mp hd
  exact row_dep r) (by decide)
theorem nats_flat (l : List Nat) : D.flats (l.map fun (k : Nat) => D.int k) = true := flats_of fun d hd => by
  obtain ⟨i, _, rfl⟩ := List.mem_map.mp hd
  simp [D.flat]
theorem nats_dep (l : List Nat) : D.deps (l.map fun (k : Nat) => D.int k) ≤ 63 := deps_of fun d hd => by
  obtain ⟨i, _, rfl⟩ := List.mem_map.mp hd
  simp [D.dep]
theorem nats_split {l : List Nat} {k : List D} {d : D} {m : List D} (h : l.map (fun (k : Nat) => D.int k) = k ++ d :: m) : ∃ a e b, l = a ++ e :: b ∧ k = a.map (fun (k : Nat) => D.int k) ∧ d = .int (e : Nat) ∧ m = b.map (fun (k : Nat) => D.int k) := by
  obtain ⟨a, r, e1, e2, e3⟩ := List.map_eq_append_iff.mp h
  obtain ⟨e, b, e4, e5, e6⟩ := List.map_eq_cons_iff.mp e3
  subst e1 e4
  exact ⟨a, e, b, rfl, e2.symm, e5.symm, e6.symm⟩
def spEnds : Sp := spec (γ := Nat × Tab × List Str × List Str)
  (fun (i, T, A, row) ds S => ds = [.obj i, rowD row] ∧ S[i]? = some (.dic (tabD T)) ∧ OkT T A ∧ (∀ a ∈ row, a ∈ A) ∧ row.length ≤ 4)
  (fun (i, T, A, row) S v S' => ∃ (e : Nat) (F : List (List Str)), v = .obj e ∧ S'[e]? = some (.lst (rowsD F)) ∧ F.Nodup ∧ (∀ r, r ∈ F ↔ Reach T row r ∧ Net T r) ∧ Gr S S')
theorem w_13 (G : Nat → Sp) (ns : List Int) (h11 : G 11 = spSpots) (h12 : G 12 = spOnce) : ∀ ds S Q, spEnds.wp ds S Q never → wTs G ns ir_13 (ini N_13.length ds) S (retE Q) := by
  rintro ds S Q ⟨⟨i, T, A, row⟩, ⟨rfl, hi, ok, hr, hz⟩, k⟩
  unfold ir_13
  have li := get_lt hi
  refine seq_cut (fun ρ S1 => ∃ w q f : Nat, (∃ x5 x6 x7 x8, ρ = [some (.obj i), some (rowD row), some (.obj w), some (.obj q), some (.obj f), x5, x6, x7, x8]) ∧ w ≠ q ∧ w ≠ f ∧ q ≠ f ∧ S.length ≤ w ∧ S.length ≤ q ∧ S.length ≤ f ∧ S1[w]? = some (.lst (rowsD [row])) ∧ S1[q]? = some (.lst (rowsD [row])) ∧ S1[f]? = some (.lst (rowsD [])) ∧ Gr S S1) ?_ ?_
  · simp only [wT, wEs, wE, Lf.alloc]
    refine ⟨_, rfl, sz (by simp), _, rfl, sz (by simp), sz (by simp), rfl, S.length, S.length + 1, S.length + 2, ⟨none, none, none, none, ?_⟩, by omega, by omega, by omega, by omega, by omega, by omega, ?_, ?_, ?_, ?_⟩
    · simp [sets, ini, N_13]
    · rw [List.append_assoc, List.append_assoc, List.getElem?_append_right (Nat.le_refl _)]; simp; rfl
    · rw [List.append_assoc, List.append_assoc, List.getElem?_append_right (by omega)]; simp; rfl
    · rw [List.append_assoc, List.append_assoc, List.getElem?_append_right (by omega)]; simp; rfl
    · rw [List.append_assoc, List.append_assoc]; exact Gr.app S _
  rintro ρ S1 ⟨w, q, f, ⟨x5, x6, x7, x8, rfl⟩, wq, wf, qf, lw, lq, lf, hw, hq, hf, gr1⟩
  refine seq_cut (fun ρ S2 => ∃ F : List (List Str), (∃ x5 x6 x7 x8, ρ = [some (.obj i), some (rowD row), some (.obj w), some (.obj q), some (.obj f), x5, x6, x7, x8]) ∧ S2[f]? = some (.lst (rowsD F)) ∧ F.Nodup ∧ (∀ r, r ∈ F ↔ Reach T row r ∧ Net T r) ∧ Gr S S2) ?_ ?_
  · refine whl_inv (n := ws [row]) (fun n ρ S2 => ∃ W Kn F : List (List Str), n = ws W ∧ (∃ x5 x6 x7 x8, ρ = [some (.obj i), some (rowD row), some (.obj w), some (.obj q), some (.obj f), x5, x6, x7, x8]) ∧ S2[w]? = some (.lst (rowsD W)) ∧ S2[q]? = some (.lst (rowsD Kn)) ∧ S2[f]? = some (.lst (rowsD F)) ∧ EI T A row W Kn F ∧ Gr S S2)
      ⟨[row], [row], [], rfl, ⟨_, _, _, _, rfl⟩, hw, hq, hf, EI.start hr hz, gr1⟩ ?_
    rintro n ρ S2 ⟨W, Kn, F, rfl, ⟨x5, x6, x7, x8, rfl⟩, hw2, hq2, hf2, ei, gr2⟩
    have okW : ∀ r ∈ Kn, ∀ a ∈ r, PyData.strOk a = true := fun r hr a ha => ok.ok a ((ei.rch r hr).2.1 a ha)
    simp only [wE, wEs, Lf.alloc]
    refine ⟨_, rfl, sz (by simp), wCmp_ne_lst (m := []) (show (S2 ++ [Ob.lst []])[w]? = _ by rw [List.getElem?_append_left (get_lt hw2)]; exact hw2) (by simp) (rows_flat fun r hr => okW r (ei.sub r hr)) rfl (rows_dep W) (Nat.zero_le _) ?_⟩
    rcases List.eq_nil_or_concat W with rfl | ⟨W0, here, rfl⟩
    · obtain ⟨d1, d2⟩ := ei.done
      exact .inr ⟨rfl, F, ⟨_, _, _, _, rfl⟩, by rw [List.getElem?_append_left (get_lt hf2)]; exact hf2, d1, d2, gr2.trans (Gr.app _ _)⟩
    rw [List.concat_eq_append] at *
    refine .inl ⟨by simp [rowsD], ?_⟩
    obtain ⟨S3, eS3⟩ : ∃ S3, S3 = S2 ++ [Ob.lst []] := ⟨_, rfl⟩
    have hw3 : S3[w]? = some (.lst (rowsD (W0 ++ [here]))) := by rw [eS3, List.getElem?_append_left (get_lt hw2)]; exact hw2
    have hq3 : S3[q]? = some (.lst (rowsD Kn)) := by rw [eS3, List.getElem?_append_left (get_lt hq2)]; exact hq2
    have hf3 : S3[f]? = some (.lst (rowsD F)) := by rw [eS3, List.getElem?_append_left (get_lt hf2)]; exact hf2
    have gr3 : Gr S S3 := by rw [eS3]; exact gr2.trans (Gr.app _ _)
    rw [← eS3]
    clear eS3
    obtain ⟨hr1, hr2, hr3⟩ := ei.rch here (ei.sub here (by simp))
    -- here = waiting.pop()
    refine seq_cut (fun ρ S4 => (∃ x6 x7 x8, ρ = [some (.obj i), some (rowD row), some (.obj w), some (.obj q), some (.obj f), some (rowD here), x6, x7, x8]) ∧ S4[w]? = some (.lst (rowsD W0)) ∧ S4[q]? = some (.lst (rowsD Kn)) ∧ S4[f]? = some (.lst (rowsD F)) ∧ Gr S S4) ?_ ?_
    · simp only [wT, wE, wEs, wTg]
      refine ⟨_, rfl, ⟨w, _, rfl, hw3⟩, w, rowsD W0, rowD here, rfl, by rw [hw3]; unfold rowsD; rw [List.map_append]; rfl, ⟨_, _, _, rfl⟩, ?_, ?_, ?_, gr3.set_new lw _⟩
      · exact List.getElem?_set_self (get_lt hw3)
      · rw [List.getElem?_set_ne wq]; exact hq3
      · rw [List.getElem?_set_ne wf]; exact hf3
    rintro ρ S4 ⟨⟨x6, x7, x8, rfl⟩, hw4, hq4, hf4, gr4⟩
    -- spots
    refine seq_cut (fun ρ S5 => ∃ p : Nat, (∃ x7 x8, ρ = [some (.obj i), some (rowD row), some (.obj w), some (.obj q), some (.obj f), some (rowD here), some (.obj p), x7, x8]) ∧ p ≠ w ∧ p ≠ q ∧ p ≠ f ∧ S5[p]? = some (.lst ((spots T here).map fun (k : Nat) => D.int k)) ∧ S5[w]? = some (.lst (rowsD W0)) ∧ S5[q]? = some (.lst (rowsD Kn)) ∧ S5[f]? = some (.lst (rowsD F)) ∧ Gr S S5 ∧ S.length ≤ p) ?_ ?_
    · simp only [wT, wE, wEs, wTg]
      refine ⟨_, rfl, _, rfl, ?_⟩
      rw [h11]
      refine spec_use (i, T, here) ⟨rfl, gr4.at hi, by omega⟩ fun v S5 ⟨e1, e2⟩ => ?_
      subst e1 e2
      have l1 := get_lt hw4
      have l2 := get_lt hq4
      have l3 := get_lt hf4
      refine ⟨S4.length, ⟨_, _, rfl⟩, by omega, by omega, by omega, by simp, ?_, ?_, ?_, gr4.trans (Gr.app _ _), gr4.len⟩
      · rw [List.getElem?_append_left l1]; exact hw4
      · rw [List.getElem?_append_left l2]; exact hq4
      · rw [List.getElem?_append_left l3]; exact hf4
    rintro ρ S5 ⟨p, ⟨x7, x8, rfl⟩, pw, pq, pf, hp5, hw5, hq5, hf5, gr5, lp⟩
    -- found
    refine seq_cut (fun ρ S6 => ∃ F1, F1 = (if spots T here = [] then F ++ [here] else F) ∧ (∃ x7 x8, ρ = [some (.obj i), some (rowD row), some (.obj w), some (.obj q), some (.obj f), some (rowD here), some (.obj p), x7, x8]) ∧ S6[p]? = some (.lst ((spots T here).map fun (k : Nat) => D.int k)) ∧ S6[w]? = some (.lst (rowsD W0)) ∧ S6[q]? = some (.lst (rowsD Kn)) ∧ S6[f]? = some (.lst (rowsD F1)) ∧ Gr S S6) ?_ ?_
    · simp only [wT, wTs, wE, wEs, Lf.alloc]
      have up : ∀ {j : Nat} {o : Ob}, S5[j]? = some o → (S5 ++ [Ob.lst []])[j]? = some o := fun h => by rw [List.getElem?_append_left (get_lt h)]; exact h
      refine ⟨_, rfl, sz (by simp), wCmp_eq_lst (m := []) (up hp5) (by simp) (nats_flat _) rfl (nats_dep _) (Nat.zero_le _) ?_⟩
      by_cases hs : spots T here = []
      · refine .inl ⟨by simp [hs], _, rfl, ⟨f, _, rfl, up hf5⟩, _, rfl, f, rowsD F, rfl, up hf5, ?_, F ++ [here], by rw [if_pos hs], ⟨_, _, rfl⟩, ?_, ?_, ?_, ?_, (gr5.trans (Gr.app _ _)).set_new lf _⟩
        · have := ei.szF
          unfold rowsD
          rw [List.length_map, sizeLine_eq]
          omega
        · rw [List.getElem?_set_ne (Ne.symm pf)]; exact up hp5
        · rw [List.getElem?_set_ne (Ne.symm wf)]; exact up hw5
        · rw [List.getElem?_set_ne (Ne.symm qf)]; exact up hq5
        · rw [List.getElem?_set_self (get_lt (up hf5))]
          unfold rowsD
          rw [List.map_append]
          rfl
      · exact .inr ⟨by simp [hs], F, by rw [if_neg hs], ⟨_, _, rfl⟩, up hp5, up hw5, up hq5, up hf5, gr5.trans (Gr.app _ _)⟩
    rintro ρ S6 ⟨F1, eF1, ⟨x7, x8, rfl⟩, hp6, hw6, hq6, hf6, gr6⟩
    have hF1 : F1.length ≤ F.length + 1 := by
      rw [eF1]
      split
      · simp
      · omega
    simp only [wTs, wT, wIt, wE, wEs, wTg]
    refine ⟨_, rfl, _, at_lst hp6, ?_⟩
    refine loopL_inv (fun done ρ S7 => ∃ (ks : List Nat) (W' K' : List (List Str)), done = ks.map (fun (k : Nat) => D.int k) ∧ (∃ x7 x8, ρ = [some (.obj i), some (rowD row), some (.obj w), some (.obj q), some (.obj f), some (rowD here), some (.obj p), x7, x8]) ∧ S7[p]? = some (.lst ((spots T here).map fun (k : Nat) => D.int k)) ∧ S7[w]? = some (.lst (rowsD W')) ∧ S7[q]? = some (.lst (rowsD K')) ∧ S7[f]? = some (.lst (rowsD F1)) ∧ Gr S S7 ∧ EJ T A row here W0 Kn ks W' K' F1)
      ?_ ?_ ?_ ⟨[], W0, Kn, rfl, ⟨_, _, rfl⟩, hp6, hw6, hq6, hf6, gr6, ei.pop eF1⟩
    · rintro kk ρ S7 ⟨ks, W', K', _, _, hp7, _⟩
      exact at_lst hp7
    · rintro kk e mm ρ S7 M hl ⟨ks, W', K', rfl, ⟨x7, x8, rfl⟩, hp7, hw7, hq7, hf7, gr7, ej⟩ hM
      obtain ⟨ks', kx, rest, e1, e2, rfl, e4⟩ := nats_split hl
      have e2' := intD_inj e2
      subst e2'
      have hk : kx ∈ spots T here := by rw [e1]; simp
      obtain ⟨a, x, y, b, res, eh, ea, hg⟩ := spot_split hk
      subst ea
      have hlen : here.length = a.length + b.length + 2 := by rw [eh, List.length_append, List.length_cons, List.length_cons]; omega
      have hres := ok.small.get hg
      refine ⟨_, rfl, _, rfl, _, rfl, ?_⟩
      rw [h12]
      refine spec_use (i, T, a, x, y, b, res) ⟨by rw [eh], gr7.at hi, hg, by omega⟩ fun v S8 ⟨e5, e6⟩ => ?_
      subst e5 e6
      have inA : ∀ z ∈ a ++ res ++ b, z ∈ A := by
        intro z hz
        rcases List.mem_append.mp hz with hz | hz
        · rcases List.mem_append.mp hz with hz | hz
          · exact hr2 z (by rw [eh]; simp [hz])
          · exact ok.res hg z hz
        · exact hr2 z (by rw [eh]; simp [hz])
      have okK : ∀ r ∈ K', ∀ a ∈ r, PyData.strOk a = true := fun r hr a ha => ok.ok a ((ej.rch r hr).2.1 a ha)
      refine ⟨_, rfl, _, rfl, wCmp_notIn (at_lst hq7) (row_flat fun z hz => ok.ok z (inA z hz)) (Nat.le_trans (row_dep _) (by decide)) (rows_flat okK) (fun d hd => by
        obtain ⟨r, _, rfl⟩ := List.mem_map.mp hd
        exact Nat.le_trans (row_dep r) (by decide)) ?_⟩
      by_cases hm : a ++ res ++ b ∈ K'
      · refine .inr ⟨by rw [decide_eq_true (mem_rowsD.mpr hm)]; rfl, ?_⟩
        exact hM _ _ ⟨ks ++ [a.length], W', K', by simp, ⟨_, _, rfl⟩, hp7, hw7, hq7, hf7, gr7, ej.old eh hg hm⟩
      · have ej2 := ej.new ok eh hg hm
        have hKl : K'.length ≤ 1000 := by
          have s1 := ej.szK
          have s2 := ei.szK
          have s3 : ks.length ≤ (spots T here).length := by rw [e1]; simp
          have s4 := spots_len (T := T) (r := here)
          omega
        have hWl : W'.length ≤ 1000 := Nat.le_trans (ej.ndW.length_le_of_subset fun r hr => ej.sub r hr) hKl
        refine .inl ⟨by rw [decide_eq_false (mt mem_rowsD.mp hm)]; rfl, _, rfl, ⟨q, _, rfl, hq7⟩, _, rfl, q, rowsD K', rfl, hq7, by unfold rowsD; rw [List.length_map, sizeLine_eq]; omega, ?_⟩
        have hw8 : (S8.set q (.lst (rowsD K' ++ [rowD (a ++ res ++ b)])))[w]? = some (.lst (rowsD W')) := by rw [List.getElem?_set_ne (Ne.symm wq)]; exact hw7
        refine ⟨_, rfl, ⟨w, _, rfl, hw8⟩, _, rfl, w, rowsD W', rfl, hw8, by unfold rowsD; rw [List.length_map, sizeLine_eq]; omega, ?_⟩
        refine hM _ _ ⟨ks ++ [a.length], W' ++ [a ++ res ++ b], K' ++ [a ++ res ++ b], by simp, ⟨_, _, rfl⟩, ?_, ?_, ?_, ?_, (gr7.set_new lq _).set_new lw _, ej2⟩
        · rw [List.getElem?_set_ne (Ne.symm pw), List.getElem?_set_ne (Ne.symm pq)]; exact hp7
        · rw [List.getElem?_set_self (get_lt hw8)]
          unfold rowsD
          rw [List.map_append]
          rfl
        · rw [List.getElem?_set_ne wq, List.getElem?_set_self (get_lt hq7)]
          unfold rowsD
          rw [List.map_append]
          rfl
        · rw [List.getElem?_set_ne wf, List.getElem?_set_ne qf]; exact hf7
    · rintro ρ S7 ⟨ks, W', K', e, ⟨x7, x8, rfl⟩, hp7, hw7, hq7, hf7, gr7, ej⟩
      have e' := intD_inj e
      subst e'
      obtain ⟨t1, t2⟩ := ej.turn ei hF1
      exact ⟨_, t2, W', K', F1, rfl, ⟨_, _, _, _, rfl⟩, hw7, hq7, hf7, t1, gr7⟩
  rintro ρ S2 ⟨F, ⟨x5, x6, x7, x8, rfl⟩, hf2, d1, d2, gr2⟩
  simp only [wT, wTs, wE]
  exact ⟨_, rfl, k _ _ ⟨f, F, rfl, hf2, d1, d2, gr2⟩⟩
end K03

set_option Elab.async false
set_option linter.all false
set_option maxRecDepth 100000
set_option maxHeartbeats 4000000
/-! K03l: _law_clash, _law_pairs, _law_rules, _law_rows. -/
namespace K03
open PySem Lf
theorem loopL_firstS {α : Type} {chk : Store → Prop} {body : D → Lf.Env → Store → (Lf.Env → Store → Prop) → Prop} {N : Lf.Env → Store → Prop} (f : D → Option α) (I : Lf.Env → Store → Prop) (J : Store → Prop) (out : α → Store → Prop) (hc : ∀ ρ S, I ρ S → chk S) : ∀ {l : List D},
    (∀ d ∈ l, ∀ ρ S (M : Lf.Env → Store → Prop), I ρ S → (f d = none → ∀ ρ' S', I ρ' S' → M ρ' S') → (∀ r, f d = some r → ∀ S', J S' → out r S') → body d ρ S M) → (∀ r, l.findSome? f = some r → ∀ S', J S' → out r S') → (l.findSome? f = none → ∀ ρ S, I ρ S → N ρ S) → ∀ {ρ : Lf.Env} {S : Store}, I ρ S → loopL chk body l ρ S N
  | [], _, _, hn, ρ, S, h => ⟨hc _ _ h, hn rfl ρ S h⟩
  | d :: l, hb, ho, hn, ρ, S, h => by
    refine ⟨hc _ _ h, hb d List.mem_cons_self ρ S _ h (fun e ρ' S' h' => loopL_firstS f I J out hc (fun d' hd => hb d' (List.mem_cons_of_mem _ hd)) (fun r hr => ho r ?_) (fun hr => hn ?_) h') fun r hr => ho r ?_⟩
    · rw [List.findSome?_cons, e]; exact hr
    · rw [List.findSome?_cons, e]; exact hr
    · rw [List.findSome?_cons, hr]
theorem ends_clash {T : Tab} (h : Small T) {x y z : Str} {F : List (List Str)} (nd : F.Nodup) (hF : ∀ r, r ∈ F ↔ Reach T [x, y, z] r ∧ Net T r) : decide ((1 : Int) < (F.length : Int)) = hasClash T x y z := by
  cases hc : hasClash T x y z with
  | true =>
    obtain ⟨m, n, ne, hm, hn⟩ := clash_two h hc
    have h1 := (hF m).mpr hm
    have h2 := (hF n).mpr hn
    match F, h1, h2 with
    | [a], h1, h2 =>
      rw [List.mem_singleton] at h1 h2
      exact absurd (h1.trans h2.symm) ne
    | a :: b :: F, _, _ =>
      rw [decide_eq_true_eq]
      simp
      omega
  | false =>
    rw [decide_eq_false_iff_not]
    intro hl
    match F, nd, hF, hl with
    | a :: b :: F, nd, hF, hl =>
      obtain ⟨a1, a2⟩ := (hF a).mp (by simp)
      obtain ⟨b1, b2⟩ := (hF b).mp (by simp)
      have e := clear_one h hc a1 a2 b1 b2
      subst e
      simp at nd
    | [a], _, _, hl => simp at hl
    | [], _, _, hl => simp at hl
def spLClash : Sp := spec (γ := Nat × Tab × List Str × List Str)
  (fun (i, T, A, names) ds S => ds = [rowD names, .obj i] ∧ S[i]? = some (.dic (tabD T)) ∧ OkT T A ∧ (∀ a ∈ names, a ∈ A))
  (fun (i, T, A, names) S d S' => Gr S S' ∧ d = clD (least T names))
theorem w_14 (G : Nat → Sp) (ns : List Int) (h13 : G 13 = spEnds) : ∀ ds S Q, spLClash.wp ds S Q never → wTs G ns ir_14 (ini N_14.length ds) S (retE Q) := by
  rintro ds S Q ⟨⟨i, T, A, names⟩, ⟨rfl, hi, ok, hn⟩, k⟩
  simp only [ir_14, wTs, wT, wE, wEs, wO, wTg, wIt]
  have kk : ∀ r S', Gr S S' → clD (least T names) = r → Q r S' := fun r S' g e => k _ _ ⟨g, e.symm⟩
  clear k
  refine ⟨_, rfl, names.map D.str, rfl, ?_⟩
  refine loopL_firstS (onStr fun x => names.findSome? fun y => names.findSome? fun z => if hasClash T x y z then some (x, y, z) else none) (fun ρ S' => Gr S S' ∧ ∃ a b c, ρ = [some (rowD names), some (.obj i), a, b, c]) (fun S' => Gr S S') (fun r S' => Q (clD (some r)) S') (fun _ _ _ => trivial) ?_ ?_ ?_ ⟨Gr.refl _, none, none, none, rfl⟩
  · rintro d hd ρ S1 M ⟨g1, a, b, c, rfl⟩ hM hO
    obtain ⟨x, hx, rfl⟩ := List.mem_map.mp hd
    refine ⟨_, rfl, names.map D.str, rfl, ?_⟩
    refine loopL_firstS (onStr fun y => names.findSome? fun z => if hasClash T x y z then some (x, y, z) else none) (fun ρ S' => Gr S S' ∧ ∃ b c, ρ = [some (rowD names), some (.obj i), some (.str x), b, c]) (fun S' => Gr S S') (fun r S' => Q (clD (some r)) S') (fun _ _ _ => trivial) ?_ ?_ ?_ ⟨g1, b, c, rfl⟩
    · rintro d hd ρ S2 M ⟨g2, b, c, rfl⟩ hM hO
      obtain ⟨y, hy, rfl⟩ := List.mem_map.mp hd
      refine ⟨_, rfl, names.map D.str, rfl, ?_⟩
      refine loopL_firstS (onStr fun z => if hasClash T x y z then some (x, y, z) else none) (fun ρ S' => Gr S S' ∧ ∃ c, ρ = [some (rowD names), some (.obj i), some (.str x), some (.str y), c]) (fun S' => Gr S S') (fun r S' => Q (clD (some r)) S') (fun _ _ _ => trivial) ?_ ?_ ?_ ⟨g2, c, rfl⟩
      · rintro d hd ρ S3 M ⟨g3, c, rfl⟩ hM hO
        obtain ⟨z, hz, rfl⟩ := List.mem_map.mp hd
        refine ⟨_, rfl, _, rfl, _, rfl, _, rfl, sz (by simp), ?_⟩
        rw [h13]
        refine spec_use (i, T, A, [x, y, z]) ⟨rfl, g3.at hi, ok, fun a ha => ?_, by simp⟩ fun d S4 ⟨e, F, ed, hF, nd, hm, g4⟩ => ?_
        · simp only [List.mem_cons, List.not_mem_nil, or_false] at ha
          rcases ha with rfl | rfl | rfl
          · exact hn _ hx
          · exact hn _ hy
          · exact hn _ hz
        subst ed
        refine .inr ⟨rowsD F, at_lst hF, _, _, rfl, rfl, ?_⟩
        have el : ((rowsD F).length : Int) = (F.length : Int) := by unfold rowsD; rw [List.length_map]
        rw [el, ends_clash ok.small nd hm]
        cases hc : hasClash T x y z with
        | true =>
          refine .inl ⟨rfl, _, rfl, _, rfl, _, rfl, sz (by simp), ?_⟩
          exact hO (x, y, z) (by simp [onStr, hc]) _ (g3.trans g4)
        | false =>
          exact .inr ⟨rfl, hM (by simp [onStr, hc]) _ _ ⟨g3.trans g4, _, rfl⟩⟩
      · intro r hr
        rw [find_str] at hr
        exact hO r hr
      · rintro hr ρ S' ⟨g', c, rfl⟩
        rw [find_str] at hr
        exact hM hr _ _ ⟨g', _, _, rfl⟩
    · intro r hr
      rw [find_str] at hr
      exact hO r hr
    · rintro hr ρ S' ⟨g', b, c, rfl⟩
      rw [find_str] at hr
      exact hM hr _ _ ⟨g', _, _, _, rfl⟩
  · intro r hr S' g'
    rw [find_str] at hr
    exact kk _ _ g' (congrArg clD hr)
  · rintro hr ρ S' ⟨g', a, b, c, rfl⟩
    rw [find_str] at hr
    exact kk _ _ g' (congrArg clD hr)
/-! _law_pairs -/
def pairs (names : List Str) : List (Str × Str) := names.flatMap fun x => names.map fun y => (x, y)
def pairsD (l : List (Str × Str)) : List D := l.map fun p => keyD p.1 p.2
def spPairs : Sp := spec (γ := List Str)
  (fun names ds S => ds = [rowD names] ∧ names.length ≤ 100)
  (fun names S v S' => ∃ e : Nat, v = .obj e ∧ S'[e]? = some (.lst (pairsD (pairs names))) ∧ Gr S S')
theorem w_15 (G : Nat → Sp) (ns : List Int) : ∀ ds S Q, spPairs.wp ds S Q never → wTs G ns ir_15 (ini N_15.length ds) S (retE Q) := by
  rintro ds S Q ⟨names, ⟨rfl, hz⟩, k⟩
  simp only [ir_15, wTs, wT, wE, wEs, wO, wTg, wIt, wC, Lf.alloc]
  refine ⟨sz (by simp), _, rfl, names.map D.str, rfl, ?_⟩
  have fm : ∀ a : List Str, (a.flatMap fun x => names.map fun y => (x, y)).length = a.length * names.length := by
    intro a
    induction a with
    | nil => simp
    | cons x a ih => rw [List.flatMap_cons, List.length_append, ih, List.length_map, List.length_cons, Nat.add_mul]; omega
  refine loopL_inv (fun done ρ S' => ∃ (a : List Str) (e : Nat), done = a.map D.str ∧ (∃ x y, ρ = [some (rowD names), some (.obj e), x, y]) ∧ S'[e]? = some (.lst (pairsD (a.flatMap fun x => names.map fun y => (x, y)))) ∧ Gr S S') (fun _ _ _ _ => trivial) ?_ ?_ ⟨[], S.length, rfl, ⟨none, none, rfl⟩, by simp [pairsD], Gr.app _ _⟩
  · rintro kk d m ρ S1 M hl ⟨a, e, rfl, ⟨x0, y0, rfl⟩, he, g1⟩ hM
    obtain ⟨a', x, b, e1, e2, rfl, e4⟩ := map_split hl
    have e2' : a = a' := rowD_inj (show rowD a = rowD a' from congrArg D.tup e2)
    subst e2'
    refine ⟨_, rfl, _, rfl, names.map D.str, rfl, sz (by simp; omega), ?_⟩
    refine loopC_inv (fun done acc S2 => S2 = S1 ∧ ∃ b : List Str, done = b.map D.str ∧ acc = pairsD (b.map fun y => (x, y))) (fun _ _ _ _ => trivial) ?_ ?_ ⟨rfl, [], rfl, rfl⟩
    · rintro kk d m acc S2 M2 hl2 ⟨rfl, b2, rfl, rfl⟩ hM2
      obtain ⟨b', y, b3, f1, f2, rfl, f4⟩ := map_split hl2
      have f2' : b2 = b' := rowD_inj (show rowD b2 = rowD b' from congrArg D.tup f2)
      subst f2'
      refine ⟨_, rfl, _, rfl, sz (by simp), ?_⟩
      refine hM2 _ _ ⟨rfl, b2 ++ [y], by simp, ?_⟩
      unfold pairsD
      simp
      rfl
    · rintro acc S2 ⟨rfl, b2, eb, rfl⟩
      have eb' : names = b2 := rowD_inj (show rowD names = rowD b2 from congrArg D.tup eb)
      subst eb'
      have he2 : (S2 ++ [Ob.lst (pairsD (names.map fun y => (x, y)))])[e]? = some (.lst (pairsD (a.flatMap fun x => names.map fun y => (x, y)))) := by rw [List.getElem?_append_left (get_lt he)]; exact he
      have al : a.length + 1 ≤ names.length := by rw [e1, List.length_append, List.length_cons]; omega
      have am : a.length * names.length ≤ 100 * 100 := Nat.mul_le_mul (by omega) hz
      refine ⟨_, pairsD (names.map fun y => (x, y)), he2, by simp, ?_, ?_⟩
      · unfold pairsD
        rw [List.length_map, List.length_map, fm, List.length_map, sizeLine_eq]
        omega
      · refine hM _ _ ⟨a ++ [x], _, by simp, ⟨_, _, rfl⟩, ?_, (g1.trans (Gr.app _ _)).trans (Gr.app _ _)⟩
        rw [List.getElem?_append_right (Nat.le_refl _), Nat.sub_self]
        unfold pairsD
        simp
  · rintro ρ S1 ⟨a, e, ea, ⟨x0, y0, rfl⟩, he, g1⟩
    have ea' : names = a := rowD_inj (show rowD names = rowD a from congrArg D.tup ea)
    subst ea'
    exact ⟨_, rfl, k _ _ ⟨e, rfl, he, g1⟩⟩
end K03

set_option Elab.async false
set_option linter.all false
set_option maxRecDepth 100000
set_option maxHeartbeats 4000000
/-! K03m: _law_rules, _law_asked, _law_rows. -/
namespace K03
open PySem Lf
theorem pairs_split {l : List (Str × Str)} {k : List D} {d : D} {m : List D} (h : pairsD l = k ++ d :: m) : ∃ a e b, l = a ++ e :: b ∧ k = pairsD a ∧ d = keyD e.1 e.2 ∧ m = pairsD b := by
  obtain ⟨a, r, e1, e2, e3⟩ := List.map_eq_append_iff.mp h
  obtain ⟨e, b, e4, e5, e6⟩ := List.map_eq_cons_iff.mp e3
  subst e1 e4
  exact ⟨a, e, b, rfl, e2.symm, e5.symm, e6.symm⟩
theorem pairsD_inj {a b : List (Str × Str)} (h : pairsD a = pairsD b) : a = b := by
  unfold pairsD at h
  revert b
  induction a with
  | nil => intro b h; cases b with
    | nil => rfl
    | cons _ _ => cases h
  | cons p a ih => intro b h; cases b with
    | nil => cases h
    | cons q b =>
      rw [List.map_cons, List.map_cons] at h
      injection h with h1 h2
      obtain ⟨z1, z2⟩ := keyD_inj h1
      rw [Prod.ext z1 z2, ih h2]
theorem mem_pairs {names : List Str} {p : Str × Str} : p ∈ pairs names ↔ p.1 ∈ names ∧ p.2 ∈ names := by
  unfold pairs
  rw [List.mem_flatMap]
  constructor
  · rintro ⟨x, hx, h⟩
    obtain ⟨y, hy, rfl⟩ := List.mem_map.mp h
    exact ⟨hx, hy⟩
  · rintro ⟨hx, hy⟩
    exact ⟨p.1, hx, List.mem_map.mpr ⟨p.2, hy, rfl⟩⟩
theorem pairs_len (names : List Str) : (pairs names).length = names.length * names.length := by
  have : ∀ a : List Str, (a.flatMap fun x => names.map fun y => (x, y)).length = a.length * names.length := by
    intro a
    induction a with
    | nil => simp
    | cons x a ih => rw [List.flatMap_cons, List.length_append, ih, List.length_map, List.length_cons, Nat.add_mul]; omega
  exact this names
theorem pairs_nd {names : List Str} (h : names.Nodup) : (pairs names).Nodup := by
  have : ∀ a : List Str, a.Nodup → (a.flatMap fun x => names.map fun y => (x, y)).Nodup := by
    intro a
    induction a with
    | nil => intro _; simp
    | cons x a ih =>
      intro nd
      rw [List.nodup_cons] at nd
      rw [List.flatMap_cons, List.nodup_append]
      refine ⟨?_, ih nd.2, ?_⟩
      · exact List.Pairwise.map _ (fun p q hpq e => hpq (Prod.mk.inj e).2) h
      · intro p hp q hq
        obtain ⟨y, _, rfl⟩ := List.mem_map.mp hp
        obtain ⟨x', hx', hq⟩ := List.mem_flatMap.mp hq
        obtain ⟨y', _, rfl⟩ := List.mem_map.mp hq
        intro e
        exact nd.1 ((Prod.mk.inj e).1 ▸ hx')
  exact this names h
/-- the rules of a table, in the order of the pairs -/
def rulesOf (T : Tab) (l : List (Str × Str)) : Tab := l.filterMap fun p => (T.get p.1 p.2).map fun r => (p, r)
theorem rulesOf_ok {T : Tab} {names : List Str} (h : Rules T names) : ∀ {l : List (Str × Str)}, l.Nodup → Rules (rulesOf T l) names ∧ (rulesOf T l).length ≤ l.length ∧ ∀ p ∈ (rulesOf T l).map (·.1), p ∈ l
  | [], _ => ⟨Rules.nil _, Nat.le_refl _, by simp [rulesOf]⟩
  | p :: l, nd => by
    rw [List.nodup_cons] at nd
    obtain ⟨h1, h2, h3⟩ := rulesOf_ok h nd.2
    unfold rulesOf at h1 h2 h3 ⊢
    rw [List.filterMap_cons]
    cases e : T.get p.1 p.2 with
    | none => exact ⟨h1, by rw [List.length_cons]; exact Nat.le_succ_of_le h2, fun q hq => List.mem_cons_of_mem _ (h3 q hq)⟩
    | some r =>
      have m := get_mem e
      refine ⟨⟨fun q hq => ?_, fun q hq => ?_, fun q hq => ?_, ?_⟩, ?_, fun q hq => ?_⟩
      · rcases List.mem_cons.mp hq with rfl | hq
        · exact h.keys _ m
        · exact h1.keys q hq
      · rcases List.mem_cons.mp hq with rfl | hq
        · exact h.small _ m
        · exact h1.small q hq
      · rcases List.mem_cons.mp hq with rfl | hq
        · exact h.closed _ m
        · exact h1.closed q hq
      · rw [Option.map_some, List.map_cons, List.nodup_cons]
        exact ⟨fun z => nd.1 (h3 _ z), h1.nd⟩
      · rw [Option.map_some, List.length_cons, List.length_cons]
        exact Nat.succ_le_succ h2
      · rw [Option.map_some, List.map_cons] at hq
        rcases List.mem_cons.mp hq with rfl | hq
        · exact List.mem_cons_self
        · exact List.mem_cons_of_mem _ (h3 q hq)
def spRules : Sp := spec (γ := Nat × Tab × List Str)
  (fun (i, T, names) ds S => ds = [rowD names, .obj i] ∧ S[i]? = some (.dic (tabD T)) ∧ Rules T names ∧ names.Nodup ∧ names.length ≤ 3)
  (fun (i, T, names) S v S' => ∃ rs : Tab, v = .tup (rulesD rs) ∧ Rules rs names ∧ rs.length ≤ 9 ∧ Gr S S')
theorem w_16 (G : Nat → Sp) (ns : List Int) (h15 : G 15 = spPairs) : ∀ ds S Q, spRules.wp ds S Q never → wTs G ns ir_16 (ini N_16.length ds) S (retE Q) := by
  rintro ds S Q ⟨⟨i, T, names⟩, ⟨rfl, hi, hR, nd, hz⟩, k⟩
  simp only [ir_16, wTs, wT, wE, wEs, wO, wTg, wIt, wC, Lf.alloc]
  refine ⟨_, rfl, ?_⟩
  rw [h15]
  refine spec_use names ⟨rfl, by omega⟩ fun v S1 ⟨e, ev, he, g1⟩ => ?_
  subst ev
  have pl : (pairs names).length ≤ 9 := by
    rw [pairs_len]
    have := Nat.mul_le_mul hz hz
    omega
  refine ⟨pairsD (pairs names), at_lst he, sz (by unfold pairsD; rw [List.length_map]; omega), ?_⟩
  refine loopC_inv (fun done acc S2 => S2 = S1 ∧ ∃ a : List (Str × Str), done = pairsD a ∧ acc = rulesD (rulesOf T a)) ?_ ?_ ?_ ⟨rfl, [], rfl, rfl⟩
  · rintro kk a S2 ⟨rfl, _⟩
    exact at_lst he
  · rintro kk d m acc S2 M hl ⟨rfl, a, rfl, rfl⟩ hM
    obtain ⟨a', p, b, e1, e2, rfl, e4⟩ := pairs_split hl
    have e2' := pairsD_inj e2
    subst e2'
    have hi2 := g1.at hi
    have er : rulesOf T (a ++ [p]) = rulesOf T a ++ rulesOf T [p] := by unfold rulesOf; rw [List.filterMap_append]
    refine ⟨_, rfl, _, rfl, wIn_tab hi2 ⟨_, rfl, ?_⟩⟩
    cases hg : T.get p.1 p.2 with
    | none =>
      refine hM _ _ ⟨rfl, a ++ [p], by simp [pairsD], ?_⟩
      rw [er]
      simp [rulesOf, hg]
    | some r =>
      refine ⟨_, rfl, _, rfl, _, rfl, wIx_tab hi2 hg ⟨sz (by simp), ?_⟩⟩
      show [D.str p.1, D.str p.2].length + [rowD r].length ≤ sizeLine ∧ M [.tup ([D.str p.1, D.str p.2] ++ [rowD r])] S2
      refine ⟨sz (by simp), hM _ _ ⟨rfl, a ++ [p], by simp [pairsD], ?_⟩⟩
      rw [er]
      have e5 : rulesOf T [p] = [(p, r)] := by simp [rulesOf, hg]
      rw [e5]
      unfold rulesD
      rw [List.map_append]
      rfl
  · rintro acc S2 ⟨rfl, a, ea, rfl⟩
    have ea' := pairsD_inj ea
    subst ea'
    obtain ⟨r1, r2, _⟩ := rulesOf_ok hR (pairs_nd nd)
    exact ⟨rulesD (rulesOf T (pairs names)), at_lst (by simp), k _ _ ⟨_, rfl, r1, by omega, g1.trans (Gr.app _ _)⟩⟩
/-! _law_asked -/
def spAsked : Sp := spec (γ := Tab × List Str × List Str)
  (fun (T, A, names) ds S => ds = [rowD names, .tup (rulesD T)] ∧ (T.map (·.1)).Nodup ∧ T.length ≤ 8 ∧ OkT T A ∧ (∀ a ∈ names, a ∈ A))
  (fun (T, A, names) S d S' => Gr S S' ∧ d = clD (least T names))
theorem eq_len {a : Int} {b : Int} {S : Store} {Q : Bool → Prop} (q : Q (decide (a = b))) : wCmp .Eq (.int a) (.int b) S Q :=
  wCmp_eq (by simp [D.flat]) (by simp [D.flat]) (by simp [D.dep]) (by simp [D.dep]) (by
    have : decide (D.int a = D.int b) = decide (a = b) := by
      congr 1
      apply propext
      exact ⟨fun h => by injection h, fun h => by rw [h]⟩
    rw [this]
    exact q)
theorem w_17 (G : Nat → Sp) (ns : List Int) (h5 : G 5 = spClash) : ∀ ds S Q, spAsked.wp ds S Q never → wTs G ns ir_17 (ini N_17.length ds) S (retE Q) := by
  rintro ds S Q ⟨⟨T, A, names⟩, ⟨rfl, nd, hz, ok, hn⟩, k⟩
  have go : (G 5).wp (rowD names :: rulesD T) S (retE Q).rt (retE Q).ex := by
    rw [h5]
    refine spec_use (T, A, names) ⟨rfl, nd, by omega, ok, hn⟩ fun v S1 ⟨e1, e2⟩ => ?_
    subst e1 e2
    exact k _ _ ⟨Gr.app _ _, rfl⟩
  clear k
  simp only [ir_17, wTs, wT, wE, wEs]
  match T, hz, go with
  | [], _, go =>
    refine ⟨_, rfl, .inr ⟨_, rfl, eq_len (.inl ⟨rfl, ?_⟩)⟩⟩
    exact ⟨_, rfl, go⟩
  | [r0], _, go =>
    refine ⟨_, rfl, .inr ⟨_, rfl, eq_len (.inr ⟨rfl, ?_⟩)⟩⟩
    refine ⟨_, rfl, .inr ⟨_, rfl, eq_len (.inl ⟨rfl, ?_⟩)⟩⟩
    exact ⟨_, rfl, _, rfl, wIx_tup rfl go⟩
  | [r0, r1], _, go =>
    refine ⟨_, rfl, .inr ⟨_, rfl, eq_len (.inr ⟨rfl, ?_⟩)⟩⟩
    refine ⟨_, rfl, .inr ⟨_, rfl, eq_len (.inr ⟨rfl, ?_⟩)⟩⟩
    refine ⟨_, rfl, .inr ⟨_, rfl, eq_len (.inl ⟨rfl, ?_⟩)⟩⟩
    exact ⟨_, rfl, _, rfl, wIx_tup rfl ⟨_, rfl, wIx_tup rfl go⟩⟩
  | [r0, r1, r2], _, go =>
    refine ⟨_, rfl, .inr ⟨_, rfl, eq_len (.inr ⟨rfl, ?_⟩)⟩⟩
    refine ⟨_, rfl, .inr ⟨_, rfl, eq_len (.inr ⟨rfl, ?_⟩)⟩⟩
    refine ⟨_, rfl, .inr ⟨_, rfl, eq_len (.inr ⟨rfl, ?_⟩)⟩⟩
    refine ⟨_, rfl, .inr ⟨_, rfl, eq_len (.inl ⟨rfl, ?_⟩)⟩⟩
    exact ⟨_, rfl, _, rfl, wIx_tup rfl ⟨_, rfl, wIx_tup rfl ⟨_, rfl, wIx_tup rfl go⟩⟩⟩
  | [r0, r1, r2, r3], _, go =>
    refine ⟨_, rfl, .inr ⟨_, rfl, eq_len (.inr ⟨rfl, ?_⟩)⟩⟩
    refine ⟨_, rfl, .inr ⟨_, rfl, eq_len (.inr ⟨rfl, ?_⟩)⟩⟩
    refine ⟨_, rfl, .inr ⟨_, rfl, eq_len (.inr ⟨rfl, ?_⟩)⟩⟩
    refine ⟨_, rfl, .inr ⟨_, rfl, eq_len (.inr ⟨rfl, ?_⟩)⟩⟩
    refine ⟨_, rfl, .inr ⟨_, rfl, eq_len (.inl ⟨rfl, ?_⟩)⟩⟩
    exact ⟨_, rfl, _, rfl, wIx_tup rfl ⟨_, rfl, wIx_tup rfl ⟨_, rfl, wIx_tup rfl ⟨_, rfl, wIx_tup rfl go⟩⟩⟩⟩
  | [r0, r1, r2, r3, r4], _, go =>
    refine ⟨_, rfl, .inr ⟨_, rfl, eq_len (.inr ⟨rfl, ?_⟩)⟩⟩
    refine ⟨_, rfl, .inr ⟨_, rfl, eq_len (.inr ⟨rfl, ?_⟩)⟩⟩
    refine ⟨_, rfl, .inr ⟨_, rfl, eq_len (.inr ⟨rfl, ?_⟩)⟩⟩
    refine ⟨_, rfl, .inr ⟨_, rfl, eq_len (.inr ⟨rfl, ?_⟩)⟩⟩
    refine ⟨_, rfl, .inr ⟨_, rfl, eq_len (.inr ⟨rfl, ?_⟩)⟩⟩
    refine ⟨_, rfl, .inr ⟨_, rfl, eq_len (.inl ⟨rfl, ?_⟩)⟩⟩
    exact ⟨_, rfl, _, rfl, wIx_tup rfl ⟨_, rfl, wIx_tup rfl ⟨_, rfl, wIx_tup rfl ⟨_, rfl, wIx_tup rfl ⟨_, rfl, wIx_tup rfl go⟩⟩⟩⟩⟩
  | [r0, r1, r2, r3, r4, r5], _, go =>
    refine ⟨_, rfl, .inr ⟨_, rfl, eq_len (.inr ⟨rfl, ?_⟩)⟩⟩
    refine ⟨_, rfl, .inr ⟨_, rfl, eq_len (.inr ⟨rfl, ?_⟩)⟩⟩
    refine ⟨_, rfl, .inr ⟨_, rfl, eq_len (.inr ⟨rfl, ?_⟩)⟩⟩
    refine ⟨_, rfl, .inr ⟨_, rfl, eq_len (.inr ⟨rfl, ?_⟩)⟩⟩
    refine ⟨_, rfl, .inr ⟨_, rfl, eq_len (.inr ⟨rfl, ?_⟩)⟩⟩
    refine ⟨_, rfl, .inr ⟨_, rfl, eq_len (.inr ⟨rfl, ?_⟩)⟩⟩
    refine ⟨_, rfl, .inr ⟨_, rfl, eq_len (.inl ⟨rfl, ?_⟩)⟩⟩
    exact ⟨_, rfl, _, rfl, wIx_tup rfl ⟨_, rfl, wIx_tup rfl ⟨_, rfl, wIx_tup rfl ⟨_, rfl, wIx_tup rfl ⟨_, rfl, wIx_tup rfl ⟨_, rfl, wIx_tup rfl go⟩⟩⟩⟩⟩⟩
  | [r0, r1, r2, r3, r4, r5, r6], _, go =>
    refine ⟨_, rfl, .inr ⟨_, rfl, eq_len (.inr ⟨rfl, ?_⟩)⟩⟩
    refine ⟨_, rfl, .inr ⟨_, rfl, eq_len (.inr ⟨rfl, ?_⟩)⟩⟩
    refine ⟨_, rfl, .inr ⟨_, rfl, eq_len (.inr ⟨rfl, ?_⟩)⟩⟩
    refine ⟨_, rfl, .inr ⟨_, rfl, eq_len (.inr ⟨rfl, ?_⟩)⟩⟩
    refine ⟨_, rfl, .inr ⟨_, rfl, eq_len (.inr ⟨rfl, ?_⟩)⟩⟩
    refine ⟨_, rfl, .inr ⟨_, rfl, eq_len (.inr ⟨rfl, ?_⟩)⟩⟩
    refine ⟨_, rfl, .inr ⟨_, rfl, eq_len (.inr ⟨rfl, ?_⟩)⟩⟩
    refine ⟨_, rfl, .inr ⟨_, rfl, eq_len (.inl ⟨rfl, ?_⟩)⟩⟩
    exact ⟨_, rfl, _, rfl, wIx_tup rfl ⟨_, rfl, wIx_tup rfl ⟨_, rfl, wIx_tup rfl ⟨_, rfl, wIx_tup rfl ⟨_, rfl, wIx_tup rfl ⟨_, rfl, wIx_tup rfl ⟨_, rfl, wIx_tup rfl go⟩⟩⟩⟩⟩⟩⟩
  | [r0, r1, r2, r3, r4, r5, r6, r7], _, go =>
    refine ⟨_, rfl, .inr ⟨_, rfl, eq_len (.inr ⟨rfl, ?_⟩)⟩⟩
    refine ⟨_, rfl, .inr ⟨_, rfl, eq_len (.inr ⟨rfl, ?_⟩)⟩⟩
    refine ⟨_, rfl, .inr ⟨_, rfl, eq_len (.inr ⟨rfl, ?_⟩)⟩⟩
    refine ⟨_, rfl, .inr ⟨_, rfl, eq_len (.inr ⟨rfl, ?_⟩)⟩⟩
    refine ⟨_, rfl, .inr ⟨_, rfl, eq_len (.inr ⟨rfl, ?_⟩)⟩⟩
    refine ⟨_, rfl, .inr ⟨_, rfl, eq_len (.inr ⟨rfl, ?_⟩)⟩⟩
    refine ⟨_, rfl, .inr ⟨_, rfl, eq_len (.inr ⟨rfl, ?_⟩)⟩⟩
    refine ⟨_, rfl, .inr ⟨_, rfl, eq_len (.inr ⟨rfl, ?_⟩)⟩⟩
    exact ⟨_, rfl, _, rfl, wIx_tup rfl ⟨_, rfl, wIx_tup rfl ⟨_, rfl, wIx_tup rfl ⟨_, rfl, wIx_tup rfl ⟨_, rfl, wIx_tup rfl ⟨_, rfl, wIx_tup rfl ⟨_, rfl, wIx_tup rfl ⟨_, rfl, wIx_tup rfl go⟩⟩⟩⟩⟩⟩⟩⟩
  | r0 :: r1 :: r2 :: r3 :: r4 :: r5 :: r6 :: r7 :: r8 :: r, hz, _ => simp at hz
end K03

set_option Elab.async false
set_option linter.all false
set_option maxRecDepth 100000
set_option maxHeartbeats 4000000
/-! K03n: _law_rows. -/
namespace K03
open PySem Lf
theorem rows_split {l : List (List Str)} {k : List D} {d : D} {m : List D} (h : rowsD l = k ++ d :: m) : ∃ a e b, l = a ++ e :: b ∧ k = rowsD a ∧ d = rowD e ∧ m = rowsD b := by
  obtain ⟨a, r, e1, e2, e3⟩ := List.map_eq_append_iff.mp h
  obtain ⟨e, b, e4, e5, e6⟩ := List.map_eq_cons_iff.mp e3
  subst e1 e4
  exact ⟨a, e, b, rfl, e2.symm, e5.symm, e6.symm⟩
/-- rows of n names -/
def RowsOf (names : List Str) (n : Nat) (R : List (List Str)) : Prop := (∀ r ∈ R, r.length = n ∧ ∀ a ∈ r, a ∈ names) ∧ R.length ≤ 3 ^ n
def spRows : Sp := spec (γ := List Str × Nat)
  (fun (names, n) ds S => ds = [rowD names, .int n] ∧ names.length ≤ 3 ∧ n ≤ 4)
  (fun (names, n) S v S' => ∃ (e : Nat) (R : List (List Str)), v = .obj e ∧ S'[e]? = some (.lst (rowsD R)) ∧ RowsOf names n R ∧ Gr S S')
theorem pow_le {n : Nat} (h : n ≤ 4) : 3 ^ n ≤ 81 := by
  have : n = 0 ∨ n = 1 ∨ n = 2 ∨ n = 3 ∨ n = 4 := by omega
  rcases this with rfl | rfl | rfl | rfl | rfl <;> decide
theorem w_18 (G : Nat → Sp) (ns : List Int) : ∀ ds S Q, spRows.wp ds S Q never → wTs G ns ir_18 (ini N_18.length ds) S (retE Q) := by
  rintro ds S Q ⟨⟨names, n⟩, ⟨rfl, hz, hn⟩, k⟩
  simp only [ir_18, wTs, wT, wE, wEs, wO, wTg, wIt, wC, Lf.alloc]
  refine ⟨sz (by simp), sz (by simp), _, rfl, (n : Int), rfl, ⟨by omega, by omega⟩, ?_⟩
  refine loopL_inv (fun done ρ S' => ∃ (e : Nat) (R : List (List Str)), done.length ≤ n ∧ (∃ a b c d, ρ = [some (rowD names), some (.int n), some (.obj e), a, b, c, d]) ∧ S'[e]? = some (.lst (rowsD R)) ∧ RowsOf names done.length R ∧ Gr S S') (fun _ _ _ _ => trivial) ?_ ?_
    ⟨S.length, [[]], by simp, ⟨none, none, none, none, rfl⟩, by simp [rowsD, rowD], ⟨by simp, by simp⟩, Gr.app _ _⟩
  · rintro kk x m ρ S1 M hl ⟨e, R, hk, ⟨a, b, c, d, rfl⟩, he, hR, g1⟩ hM
    have hkn : kk.length + 1 ≤ n := by
      have := congrArg List.length hl
      simp at this
      omega
    have he2 : (S1 ++ [Ob.lst []])[e]? = some (.lst (rowsD R)) := by rw [List.getElem?_append_left (get_lt he)]; exact he
    refine ⟨sz (by simp), _, rfl, rowsD R, at_lst he2, ?_⟩
    refine loopL_inv (fun done ρ S' => ∃ (f : Nat) (P L : List (List Str)), done = rowsD P ∧ (∃ c d, ρ = [some (rowD names), some (.int n), some (.obj e), some x, some (.obj f), c, d]) ∧ S'[e]? = some (.lst (rowsD R)) ∧ S'[f]? = some (.lst (rowsD L)) ∧ (∀ r ∈ L, r.length = kk.length + 1 ∧ ∀ a ∈ r, a ∈ names) ∧ L.length = P.length * names.length ∧ Gr S S') ?_ ?_ ?_
      ⟨S1.length, [], [], rfl, ⟨_, _, rfl⟩, he2, by simp [rowsD], by simp, by simp, g1.trans (Gr.app _ _)⟩
    · rintro _ ρ S' ⟨f, P, L, _, _, h, _⟩
      exact at_lst h
    · rintro kk2 d2 m2 ρ S2 M2 hl2 ⟨f, P, L, rfl, ⟨c, d, rfl⟩, he3, hf3, hL, hLl, g2⟩ hM2
      obtain ⟨P', r, P2, e1, e2, rfl, e4⟩ := rows_split hl2
      have e2' := rowsD_inj e2
      subst e2'
      have hr : r ∈ R := by rw [e1]; simp
      obtain ⟨hr1, hr2⟩ := hR.1 r hr
      have hPl : P.length + 1 ≤ 81 := by
        have h1 : P.length + 1 ≤ R.length := by rw [e1, List.length_append, List.length_cons]; omega
        have h2 := hR.2
        have h3 := pow_le (n := kk.length) (by omega)
        omega
      have hLb : L.length ≤ 243 := by
        rw [hLl]
        have := Nat.mul_le_mul (show P.length ≤ 81 by omega) hz
        omega
      refine ⟨_, rfl, _, rfl, names.map D.str, rfl, sz (by simp; omega), ?_⟩
      refine loopC_inv (fun done acc S3 => S3 = S2 ∧ ∃ b : List Str, done = b.map D.str ∧ acc = rowsD (b.map fun y => r ++ [y])) (fun _ _ _ _ => trivial) ?_ ?_ ⟨rfl, [], rfl, rfl⟩
      · rintro kk3 d3 m3 acc S3 M3 hl3 ⟨rfl, b2, rfl, rfl⟩ hM3
        obtain ⟨b', y, b3, f1, f2, rfl, f4⟩ := map_split hl3
        have f2' : b2 = b' := rowD_inj (show rowD b2 = rowD b' from congrArg D.tup f2)
        subst f2'
        refine ⟨_, rfl, _, rfl, sz (by simp), ?_⟩
        refine wBin_row (m := [y]) (by simp; omega) (hM3 _ _ ⟨rfl, b2 ++ [y], by simp, ?_⟩)
        unfold rowsD
        simp
      · rintro acc S3 ⟨rfl, b2, eb, rfl⟩
        have eb' : names = b2 := rowD_inj (show rowD names = rowD b2 from congrArg D.tup eb)
        subst eb'
        have up : ∀ {j : Nat} {o : Ob}, S3[j]? = some o → (S3 ++ [Ob.lst (rowsD (names.map fun y => r ++ [y]))])[j]? = some o := fun h => by rw [List.getElem?_append_left (get_lt h)]; exact h
        refine ⟨_, rowsD (names.map fun y => r ++ [y]), up hf3, by simp, ?_, ?_⟩
        · unfold rowsD
          rw [List.length_map, List.length_map, List.length_map, sizeLine_eq]
          omega
        · refine hM2 _ _ ⟨_, P ++ [r], L ++ names.map (fun y => r ++ [y]), by simp [rowsD], ⟨_, _, rfl⟩, ?_, ?_, fun s hs => ?_, ?_, (g2.trans (Gr.app _ _)).trans (Gr.app _ _)⟩
          · rw [List.getElem?_append_left (get_lt (up he3))]; exact up he3
          · rw [List.getElem?_append_right (Nat.le_refl _), Nat.sub_self]
            unfold rowsD
            rw [List.map_append]
            rfl
          · rcases List.mem_append.mp hs with hs | hs
            · exact hL s hs
            · obtain ⟨y, hy, rfl⟩ := List.mem_map.mp hs
              refine ⟨by simp [hr1], fun a ha => ?_⟩
              rcases List.mem_append.mp ha with ha | ha
              · exact hr2 a ha
              · rw [List.mem_singleton.mp ha]; exact hy
          · rw [List.length_append, List.length_map, List.length_append, List.length_singleton, Nat.add_mul, hLl]
            omega
    · rintro ρ S2 ⟨f, P, L, eP, ⟨c, d, rfl⟩, he3, hf3, hL, hLl, g2⟩
      have eP' := rowsD_inj eP
      subst eP'
      refine ⟨_, rfl, hM _ _ ⟨f, L, by simp; omega, ⟨_, _, _, _, rfl⟩, hf3, ⟨?_, ?_⟩, g2⟩⟩
      · rw [List.length_append, List.length_singleton]; exact hL
      · rw [List.length_append, List.length_singleton, Nat.pow_succ, hLl]
        exact Nat.mul_le_mul hR.2 hz
  · rintro ρ S1 ⟨e, R, hk, ⟨a, b, c, d, rfl⟩, he, hR, g1⟩
    have el : ((List.range (n : Int).toNat).map fun (k : Nat) => D.int k).length = n := by simp
    rw [el] at hR
    exact ⟨_, rfl, k _ _ ⟨e, R, rfl, he, hR, g1⟩⟩
end K03

set_option Elab.async false
set_option linter.all false
set_option maxRecDepth 100000
set_option maxHeartbeats 4000000
/-! K03o: _law_right. -/
namespace K03
open PySem Lf
theorem mem_get {T : Tab} (nd : (T.map (·.1)).Nodup) {x y : Str} {r : List Str} (h : ((x, y), r) ∈ T) : T.get x y = some r := by
  unfold Tb.get
  induction T with
  | nil => cases h
  | cons p T ih =>
    rw [List.map_cons, List.nodup_cons] at nd
    rw [List.find?_cons]
    by_cases e : p.1 = (x, y)
    · simp only [e, decide_true]
      rcases List.mem_cons.mp h with q | q
      · rw [← q]; rfl
      · exfalso
        exact nd.1 (e ▸ List.mem_map_of_mem (f := fun p : (Str × Str) × List Str => p.1) q)
    · simp only [e, decide_false]
      rcases List.mem_cons.mp h with q | q
      · exact absurd (by rw [← q]) e
      · exact ih nd.2 q
theorem get_rev {T : Tab} (nd : (T.map (·.1)).Nodup) (x y : Str) : Tb.get T.reverse x y = T.get x y := by
  have nd' : (T.reverse.map (·.1)).Nodup := by rw [List.map_reverse]; exact (List.reverse_perm _).nodup_iff.mpr nd
  apply Option.ext
  intro r
  constructor
  · intro h
    exact mem_get nd (List.mem_reverse.mp (get_mem h))
  · intro h
    exact mem_get nd' (List.mem_reverse.mpr (get_mem h))
theorem pb_same {T T' : Tab} (h : ∀ x y, T.get x y = T'.get x y) : ∀ log last : List Str, pb T log last = pb T' log last
  | [], last => by rw [pb, pb]
  | l :: log, [] => by rw [pb, pb]
  | l :: log, e :: m => by
    rw [pb, pb, h]
    cases T'.get l e with
    | none => rfl
    | some r => exact pb_same h log r
theorem net_same {T T' : Tab} (h : ∀ x y, T.get x y = T'.get x y) (row : List Str) : netBy T row = netBy T' row := by
  unfold netBy
  congr 1
  funext log e
  exact pb_same h _ _
theorem least_same {T T' : Tab} (h : ∀ x y, T.get x y = T'.get x y) (names : List Str) : least T names = least T' names := by
  have : ∀ x y z, hasClash T x y z = hasClash T' x y z := by
    intro x y z
    unfold hasClash
    rw [h, h]
    simp only [net_same h]
  unfold least
  simp only [this]
theorem Rules.rev {T : Tab} {names : List Str} (h : Rules T names) : Rules T.reverse names :=
  ⟨fun p hp => h.keys p (List.mem_reverse.mp hp), fun p hp => h.small p (List.mem_reverse.mp hp), fun p hp => h.closed p (List.mem_reverse.mp hp), by rw [List.map_reverse]; exact (List.reverse_perm _).nodup_iff.mpr h.nd⟩
/-- names that can be written -/
def NmOk (names : List Str) : Prop := ∀ a ∈ names, PyData.strOk a = true ∧ (reprText a).length ≤ 20
theorem Rules.ok {T : Tab} {names : List Str} (h : Rules T names) (hn : NmOk names) : OkT T names := ⟨h.small, h.closed, fun a ha => (hn a ha).1⟩
theorem str_fine {a : Str} (h : PyData.strOk a = true ∧ (reprText a).length ≤ 20) : (D.str a).fine = true := by
  rw [D.fine, h.1, decide_eq_true h.2]
  rfl
theorem row_fine {r names : List Str} (hn : NmOk names) (h : ∀ a ∈ r, a ∈ names) : (rowD r).fine = true := by
  unfold rowD
  rw [D.fine]
  refine fines_of fun d hd => ?_
  obtain ⟨a, ha, rfl⟩ := List.mem_map.mp hd
  exact str_fine (hn a (h a ha))
theorem row_big (r : List Str) : (rowD r).big ≤ 3 + 22 * r.length := by
  unfold rowD
  rw [D.big]
  have := bigs_of (l := r.map D.str) (m := 20) fun d hd => by
    obtain ⟨a, ha, rfl⟩ := List.mem_map.mp hd
    rw [D.big]
    exact Nat.le_refl _
  rw [List.length_map] at this
  omega
theorem rule_fine {T : Tab} {names : List Str} (h : Rules T names) (hn : NmOk names) {p : (Str × Str) × List Str} (hp : p ∈ T) : (ruleD p).fine = true := by
  obtain ⟨k1, k2⟩ := h.keys p hp
  unfold ruleD
  rw [D.fine, D.fines, D.fines, D.fines, D.fines, str_fine (hn _ k1), str_fine (hn _ k2), row_fine hn (h.closed p hp)]
  rfl
theorem rule_big {T : Tab} {names : List Str} (h : Rules T names) {p : (Str × Str) × List Str} (hp : p ∈ T) : (ruleD p).big ≤ 80 := by
  have h1 := h.small p hp
  have h2 := row_big p.2
  unfold ruleD
  rw [D.big, D.bigs, D.bigs, D.bigs, D.bigs, D.big, D.big]
  omega
theorem rule_dep (p : (Str × Str) × List Str) : (ruleD p).dep ≤ 2 := by
  have h := row_dep p.2
  unfold ruleD
  rw [D.dep, D.deps, D.deps, D.deps, D.deps]
  simp only [D.dep]
  omega
theorem rules_fine {T : Tab} {names : List Str} (h : Rules T names) (hn : NmOk names) : (D.tup (rulesD T)).fine = true := by
  rw [D.fine]
  refine fines_of fun d hd => ?_
  obtain ⟨p, hp, rfl⟩ := List.mem_map.mp hd
  exact rule_fine h hn hp
theorem rules_big {T : Tab} {names : List Str} (h : Rules T names) : (D.tup (rulesD T)).big ≤ 3 + 82 * T.length := by
  rw [D.big]
  have := bigs_of (l := rulesD T) (m := 80) fun d hd => by
    obtain ⟨p, hp, rfl⟩ := List.mem_map.mp hd
    exact rule_big h hp
  unfold rulesD at this ⊢
  rw [List.length_map] at this
  omega
theorem rules_dep (T : Tab) : (D.tup (rulesD T)).dep ≤ 3 := by
  rw [D.dep]
  have := deps_of (l := rulesD T) (n := 2) fun d hd => by
    obtain ⟨p, hp, rfl⟩ := List.mem_map.mp hd
    exact rule_dep p
  omega
/-- what the law compares: (names, rules) -/
def bothD (names : List Str) (T : Tab) : D := .tup [rowD names, .tup (rulesD T)]
theorem both_fine {T : Tab} {names : List Str} (h : Rules T names) (hn : NmOk names) : (bothD names T).fine = true := by
  unfold bothD
  rw [D.fine, D.fines, D.fines, D.fines, row_fine hn (fun a ha => ha), rules_fine h hn]
  rfl
theorem both_big {T : Tab} {names : List Str} (h : Rules T names) (h1 : names.length ≤ 3) (h2 : T.length ≤ 9) : (bothD names T).big ≤ 100000 := by
  have := row_big names
  have := rules_big h
  unfold bothD
  rw [D.big, D.bigs, D.bigs, D.bigs]
  omega
theorem both_dep (names : List Str) (T : Tab) : (bothD names T).dep ≤ 64 := by
  have := row_dep names
  have := rules_dep T
  unfold bothD
  rw [D.dep, D.deps, D.deps, D.deps]
  omega
theorem least_mem {T : Tab} {names : List Str} {p : Str × Str × Str} (h : least T names = some p) : p.1 ∈ names ∧ p.2.1 ∈ names ∧ p.2.2 ∈ names := by
  unfold least at h
  obtain ⟨x, hx, h⟩ := List.exists_of_findSome?_eq_some h
  obtain ⟨y, hy, h⟩ := List.exists_of_findSome?_eq_some h
  obtain ⟨z, hz, h⟩ := List.exists_of_findSome?_eq_some h
  split at h
  · cases h; exact ⟨hx, hy, hz⟩
  · cases h
theorem cl_fine {T : Tab} {names : List Str} (hn : NmOk names) : (clD (least T names)).fine = true ∧ (clD (least T names)).big ≤ 80 ∧ (clD (least T names)).dep ≤ 1 := by
  cases h : least T names with
  | none => exact ⟨by simp [clD, D.fine], by simp [clD, D.big], by simp [clD, D.dep]⟩
  | some p =>
    obtain ⟨h1, h2, h3⟩ := least_mem h
    obtain ⟨x, y, z⟩ := p
    have e : clD (some (x, y, z)) = rowD [x, y, z] := rfl
    rw [e]
    refine ⟨row_fine hn fun a ha => ?_, Nat.le_trans (row_big _) (by simp), row_dep _⟩
    simp only [List.mem_cons, List.not_mem_nil, or_false] at ha
    rcases ha with rfl | rfl | rfl
    · exact h1
    · exact h2
    · exact h3
theorem fold_tab : ∀ (T U : Tab), ((U ++ T).map (·.1)).Nodup → (tabD T).foldl (fun m p => put m p.1 p.2) (tabD U) = tabD (U ++ T)
  | [], U, _ => by rw [List.append_nil]; rfl
  | p :: T, U, nd => by
    obtain ⟨⟨x, y⟩, r⟩ := p
    have nin : (x, y) ∉ U.map (·.1) := by
      rw [List.map_append, List.map_cons] at nd
      intro z
      exact (List.nodup_append.mp nd).2.2 _ z _ List.mem_cons_self rfl
    show (tabD T).foldl (fun m p => put m p.1 p.2) (put (tabD U) (keyD x y) (rowD r)) = _
    rw [put_new nin, fold_tab T (U ++ [((x, y), r)]) (by simpa using nd)]
    congr 1
    simp
theorem ends_one {T : Tab} {names : List Str} (h : OkT T names) (hc : least T names = none) {row : List Str} (hr : ∀ a ∈ row, a ∈ names) {F : List (List Str)} (nd : F.Nodup) (hF : ∀ r, r ∈ F ↔ Reach T row r ∧ Net T r) : F.length = 1 := by
  obtain ⟨m, h1, h2⟩ := has_net h.small row.length row (Nat.le_refl _)
  have hm := (hF m).mpr ⟨h1, h2⟩
  have one : ∀ r ∈ F, r = m := fun r hr' => by
    obtain ⟨a, b⟩ := (hF r).mp hr'
    exact one_net h.small h.closed (least_none hc) row.length row (Nat.le_refl _) hr a b h1 h2
  match F, nd, hm, one with
  | [a], _, _, _ => rfl
  | a :: b :: F, nd, _, one =>
    have e1 := one a (by simp)
    have e2 := one b (by simp)
    rw [e1, e2] at nd
    simp at nd
def spRight : Sp := spec (γ := Tab × List Str)
  (fun (T, names) ds S => ds = [rowD names, .tup (rulesD T)] ∧ Rules T names ∧ T.length ≤ 8 ∧ NmOk names ∧ names.length ≤ 3)
  (fun (T, names) S v S' => v = .bl true ∧ Gr S S')
theorem w_19 (G : Nat → Sp) (ns : List Int) (h13 : G 13 = spEnds) (h14 : G 14 = spLClash) (h17 : G 17 = spAsked) (h18 : G 18 = spRows) : ∀ ds S Q, spRight.wp ds S Q never → wTs G ns ir_19 (ini N_19.length ds) S (retE Q) := by
  rintro ds S Q ⟨⟨T, names⟩, ⟨rfl, hR, hz, hn, hl⟩, k⟩
  have ok := hR.ok hn
  unfold ir_19
  refine seq_cut (fun ρ S1 => ∃ i : Nat, ρ = [some (rowD names), some (.tup (rulesD T)), some (.obj i), none, none, none, none] ∧ S1[i]? = some (.dic (tabD T)) ∧ Gr S S1) ?_ ?_
  · simp only [wT, wE, wEs, wO, wTg, wIt, wC, Lf.alloc]
    refine ⟨_, rfl, rulesD T, rfl, sz (by unfold rulesD; rw [List.length_map]; omega), ?_⟩
    refine loopC_inv (fun done acc S1 => S1 = S ∧ ∃ a : Tab, done = rulesD a ∧ acc = (tabD a).map fun p => .tup [p.1, p.2]) (fun _ _ _ _ => trivial) ?_ ?_ ⟨rfl, [], rfl, rfl⟩
    · rintro kk d m acc S1 M hlst ⟨rfl, a, rfl, rfl⟩ hM
      obtain ⟨a', p, b, e1, e2, rfl, e4⟩ := rules_split hlst
      have e2' := rulesD_inj e2
      subst e2'
      refine ⟨_, rfl, 2, rfl, ?_⟩
      show ∃ d, _
      refine ⟨_, rfl, wIx_tup (l := [.str p.1.1, .str p.1.2, rowD p.2]) (k := 2) rfl ⟨sz (by simp), ?_⟩⟩
      refine hM _ _ ⟨rfl, a ++ [p], by simp [rulesD], ?_⟩
      unfold tabD
      rw [List.map_append, List.map_append]
      rfl
    · rintro acc S1 ⟨rfl, a, ea, rfl⟩
      have ea' := rulesD_inj ea
      subst ea'
      refine ⟨S1.length, tabD T, rfl, by simp, ?_, by unfold tabD; rw [List.length_map]; omega, ?_⟩
      · unfold tabD
        rw [List.all_map, List.all_eq_true]
        intro p _
        exact keyT_key2 p.1.1 p.1.2
      · have ef := fold_tab T [] (by simpa using hR.nd)
        rw [List.nil_append] at ef
        have ef' : (tabD T).foldl (fun m p => put m p.1 p.2) [] = tabD T := ef
        rw [ef']
        exact ⟨S1.length + 1, by simp; rfl, by simp, (Gr.app _ _).trans (Gr.app _ _)⟩
  rintro ρ S1 ⟨i, rfl, hi, g1⟩
  refine seq_cut (fun ρ S2 => ρ = [some (rowD names), some (.tup (rulesD T)), some (.obj i), none, some (clD (least T names)), some (.str (bothD names T).py.shown), none] ∧ S2[i]? = some (.dic (tabD T)) ∧ Gr S S2) ?_ ?_
  · simp only [wT, wE, wEs]
    refine ⟨_, rfl, _, rfl, ?_⟩
    rw [h14]
    refine spec_use (i, T, names, names) ⟨rfl, hi, ok, fun a ha => ha⟩ fun v S2 ⟨g2, ev⟩ => ?_
    subst ev
    refine ⟨_, rfl, _, rfl, sz (by simp), repr_fine (both_fine hR hn) (both_dep _ _) (both_big hR hl (by omega)) ⟨rfl, rfl, g2.at hi, g1.trans g2⟩⟩
  rintro ρ S2 ⟨rfl, hi2, g2⟩
  obtain ⟨c1, c2, c3⟩ := cl_fine (T := T) hn
  refine seq_cut (fun ρ S3 => ρ = [some (rowD names), some (.tup (rulesD T)), some (.obj i), none, some (clD (least T names)), some (.str (bothD names T).py.shown), none] ∧ S3[i]? = some (.dic (tabD T)) ∧ Gr S S3) ?_ ?_
  · simp only [wT, wTs, wE, wEs, Lf.alloc]
    refine ⟨_, rfl, _, rfl, ?_⟩
    rw [h17]
    refine spec_use (T, names, names) ⟨rfl, hR.nd, hz, ok, fun a ha => ha⟩ fun v S3 ⟨g3, ev⟩ => ?_
    subst ev
    refine ⟨_, rfl, _, rfl, ?_⟩
    have er : (rulesD T).reverse = rulesD T.reverse := by unfold rulesD; rw [List.map_reverse]
    show (spAsked.wp [rowD names, .tup (rulesD T).reverse] S3 _ _)
    rw [er]
    refine spec_use (T.reverse, names, names) ⟨rfl, hR.rev.nd, by rw [List.length_reverse]; exact hz, hR.rev.ok hn, fun a ha => ha⟩ fun v S4 ⟨g4, ev⟩ => ?_
    rw [least_same (get_rev hR.nd) names] at ev
    subst ev
    refine ⟨sz (by simp), repr_two (by simp) c1 c1 (by omega) (by omega) (by omega) (by omega) ⟨_, rfl, _, rfl, sz (by simp), repr_two (by simp) c1 c1 (by omega) (by omega) (by omega) (by omega) (wCmp_ne_str ?_)⟩⟩
    refine .inr ⟨by simp, trivial, ?_, (((g2.trans g3).trans g4).trans (Gr.app _ _)).trans (Gr.app _ _)⟩
    exact (((g3.trans g4).trans (Gr.app _ _)).trans (Gr.app _ _)).at hi2
  rintro ρ S3 ⟨rfl, hi3, g3⟩
  refine seq_cut (fun ρ S4 => ∃ x, ρ = [some (rowD names), some (.tup (rulesD T)), some (.obj i), none, some (clD (least T names)), some (.str (bothD names T).py.shown), x] ∧ Gr S S4) ?_ ?_
  · simp only [wT, wTs, wIt, wE, wEs, wTg]
    refine ⟨_, rfl, rfl, ?_⟩
    cases hc : least T names with
    | some p =>
      obtain ⟨x, y, z⟩ := p
      exact .inr ⟨rfl, none, rfl, g3⟩
    | none =>
      refine .inl ⟨rfl, _, rfl, ?_⟩
      rw [h18]
      refine spec_use (names, 3) ⟨rfl, hl, by decide⟩ fun v S4 ⟨e, R, ev, he, hRw, g4⟩ => ?_
      subst ev
      refine ⟨_, rfl, ?_⟩
      refine spec_use (names, 4) ⟨rfl, hl, by decide⟩ fun v S5 ⟨f, R2, ev, hf, hRw2, g5⟩ => ?_
      subst ev
      have he5 := g5.at he
      refine ⟨rowsD R, rowsD R2, he5, hf, ?_, ?_⟩
      · unfold rowsD
        rw [List.length_map, List.length_map]
        have := hRw.2
        have := hRw2.2
        exact sz (by omega)
      have all : ∀ r ∈ R ++ R2, r.length ≤ 4 ∧ ∀ a ∈ r, a ∈ names := fun r hr => by
        rcases List.mem_append.mp hr with hr | hr
        · exact ⟨by have := (hRw.1 r hr).1; omega, (hRw.1 r hr).2⟩
        · exact ⟨by have := (hRw2.1 r hr).1; omega, (hRw2.1 r hr).2⟩
      have el : rowsD R ++ rowsD R2 = rowsD (R ++ R2) := by unfold rowsD; rw [List.map_append]
      rw [el]
      have hat : (S5 ++ [Ob.lst (rowsD (R ++ R2))])[S5.length]? = some (.lst (rowsD (R ++ R2))) := by simp
      refine ⟨rowsD (R ++ R2), at_lst hat, ?_⟩
      refine loopL_inv (fun done ρ S6 => (∃ x, ρ = [some (rowD names), some (.tup (rulesD T)), some (.obj i), none, some (clD none), some (.str (bothD names T).py.shown), x]) ∧ Gr (S5 ++ [Ob.lst (rowsD (R ++ R2))]) S6) ?_ ?_ ?_ ⟨⟨none, rfl⟩, Gr.refl _⟩
      · rintro _ ρ S6 ⟨_, g6⟩
        exact at_lst (g6.at hat)
      · rintro kk d m ρ S6 M hlst ⟨⟨x, rfl⟩, g6⟩ hM
        obtain ⟨a', r, b, e1, e2, rfl, e4⟩ := rows_split hlst
        have hr : r ∈ R ++ R2 := by rw [e1]; simp
        obtain ⟨r1, r2⟩ := all r hr
        have hi6 : S6[i]? = some (.dic (tabD T)) := (((g4.trans g5).trans (Gr.app _ _)).trans g6).at hi3
        refine ⟨_, rfl, _, rfl, ?_⟩
        rw [h13]
        refine spec_use (i, T, names, r) ⟨rfl, hi6, ok, r2, r1⟩ fun v S7 ⟨e', F, ev, hF, nd, hm, g7⟩ => ?_
        subst ev
        have h1 := ends_one ok hc r2 nd hm
        refine .inr ⟨rowsD F, at_lst hF, ?_⟩
        have el : ((rowsD F).length : Int) = 1 := by unfold rowsD; rw [List.length_map, h1]; rfl
        rw [el]
        refine wCmp_ne (by simp [D.flat]) (by simp [D.flat]) (by simp [D.dep]) (by simp [D.dep]) ?_
        exact .inr ⟨by simp, hM _ _ ⟨⟨_, rfl⟩, g6.trans g7⟩⟩
      · rintro ρ S6 ⟨⟨x, rfl⟩, g6⟩
        exact ⟨x, rfl, ((g3.trans g4).trans g5).trans ((Gr.app _ _).trans g6)⟩
  rintro ρ S4 ⟨x, rfl, g4⟩
  simp only [wT, wTs, wE, wEs]
  refine ⟨_, rfl, _, rfl, sz (by simp), repr_fine (x := bothD names T) (both_fine hR hn) (both_dep _ _) (both_big hR hl (by omega)) ⟨_, rfl, wCmp_eq_str ?_⟩⟩
  exact k _ _ ⟨by simp, g4⟩
end K03

set_option Elab.async false
set_option linter.all false
set_option maxRecDepth 100000
set_option maxHeartbeats 4000000
/-! K03p: _law_by_hand. -/
namespace K03
open PySem Lf
/-- what stands by hand: rules and the clash, for three names -/
abbrev Item (α : Type) := Tb α × Option (α × α × α)
def hand {α : Type} (a b c : α) : List (Item α) :=
  [([], none), ([((a, a), [])], none), ([((a, b), [])], none), ([((a, b), []), ((b, a), [])], none), ([((a, a), [a])], none)] ++
  [([((a, a), [b])], some (a, a, a)), ([((a, b), []), ((b, a), [a])], some (a, b, a)), ([((a, b), []), ((b, c), [])], some (a, b, c))] ++
  [([((a, a), [a]), ((a, b), [b]), ((b, a), [a]), ((b, b), [b])], none), ([((a, a), []), ((a, b), [b])], none)] ++
  [([((a, b), [c]), ((b, c), [a])], some (a, b, c)), ([((a, b), [b]), ((b, c), [c]), ((a, c), [c])], none)] ++
  [([((a, b), [a]), ((b, c), [b])], some (a, b, c)), ([((a, b), [a]), ((b, b), [b])], none)] ++
  [([((a, a), []), ((a, b), [c])], some (a, a, b)), ([((a, b), [a]), ((b, c), [c])], none)]
/-- all of them are right, told of numbers -/
theorem hand_fin : ∀ it ∈ hand (0 : Fin 3) 1 2, least it.1 [0, 1, 2] = it.2 ∧ it.1.length ≤ 8 ∧ (it.1.map (·.1)).Nodup ∧ ∀ p ∈ it.1, p.2.length ≤ 1 := by decide +kernel
def pick3 (a b c : Str) : Fin 3 → Str
  | 0 => a
  | 1 => b
  | 2 => c
theorem pick_inj {a b c : Str} (nd : [a, b, c].Nodup) : ∀ i j, pick3 a b c i = pick3 a b c j → i = j := by
  simp at nd
  obtain ⟨⟨h1, h2⟩, h3⟩ := nd
  intro i j h
  match i, j, h with
  | 0, 0, _ => rfl
  | 1, 1, _ => rfl
  | 2, 2, _ => rfl
  | 0, 1, h => exact absurd h h1
  | 0, 2, h => exact absurd h h2
  | 1, 0, h => exact absurd h.symm h1
  | 1, 2, h => exact absurd h h3
  | 2, 0, h => exact absurd h.symm h2
  | 2, 1, h => exact absurd h.symm h3
theorem hand_map (a b c : Str) : hand a b c = (hand (0 : Fin 3) 1 2).map fun it => (mapT (pick3 a b c) it.1, it.2.map fun p => (pick3 a b c p.1, pick3 a b c p.2.1, pick3 a b c p.2.2)) := rfl
theorem hand_ok {a b c : Str} (nd : [a, b, c].Nodup) : ∀ it ∈ hand a b c, Rules it.1 [a, b, c] ∧ it.1.length ≤ 8 ∧ least it.1 [a, b, c] = it.2 := by
  intro it hit
  rw [hand_map] at hit
  obtain ⟨j, hj, rfl⟩ := List.mem_map.mp hit
  obtain ⟨h1, h2, h3, h4⟩ := hand_fin j hj
  have inj := pick_inj nd
  have hm : ∀ i : Fin 3, pick3 a b c i ∈ [a, b, c] := fun i => by
    match i with
    | 0 => simp [pick3]
    | 1 => simp [pick3]
    | 2 => simp [pick3]
  refine ⟨⟨fun p hp => ?_, fun p hp => ?_, fun p hp => ?_, ?_⟩, by simp [mapT, h2], ?_⟩
  · obtain ⟨q, hq, rfl⟩ := List.mem_map.mp hp
    exact ⟨hm _, hm _⟩
  · obtain ⟨q, hq, rfl⟩ := List.mem_map.mp hp
    show (q.2.map _).length ≤ 1
    rw [List.length_map]
    exact h4 q hq
  · obtain ⟨q, hq, rfl⟩ := List.mem_map.mp hp
    intro e he
    obtain ⟨i, _, rfl⟩ := List.mem_map.mp he
    exact hm i
  · have e : (mapT (pick3 a b c) j.1).map (·.1) = (j.1.map (·.1)).map fun p => (pick3 a b c p.1, pick3 a b c p.2) := by
      unfold mapT
      rw [List.map_map, List.map_map]
      rfl
    show ((mapT (pick3 a b c) j.1).map (·.1)).Nodup
    rw [e]
    exact List.Pairwise.map _ (fun p q hpq z => hpq (Prod.ext (inj _ _ (Prod.mk.inj z).1) (inj _ _ (Prod.mk.inj z).2))) h3
  · have := least_map inj j.1 [0, 1, 2]
    rw [h1] at this
    exact this
/-- an item as it lies in the store -/
def itD (S : Store) (it : Item Str) (d : D) : Prop := ∃ j : Nat, d = .tup [.obj j, clD it.2] ∧ S[j]? = some (.lst (rulesD it.1))
theorem itD.gr {S S' : Store} {it : Item Str} {d : D} (h : itD S it d) (g : Gr S S') : itD S' it d := let ⟨j, e, hj⟩ := h; ⟨j, e, g.at hj⟩
/-- the items of a list -/
inductive Its (S : Store) : List (Item Str) → List D → Prop
  | nil : Its S [] []
  | cons {it d l m} : itD S it d → Its S l m → Its S (it :: l) (d :: m)
theorem Its.gr {S S' : Store} (g : Gr S S') : ∀ {l : List (Item Str)} {m : List D}, Its S l m → Its S' l m
  | _, _, .nil => .nil
  | _, _, .cons h t => .cons (h.gr g) (Its.gr g t)
theorem Its.app {S : Store} : ∀ {l l' : List (Item Str)} {m m' : List D}, Its S l m → Its S l' m' → Its S (l ++ l') (m ++ m')
  | _, _, _, _, .nil, h => h
  | _, _, _, _, .cons a t, h => .cons a (t.app h)
/-- a list of items -/
def FIt (S : Store) (items : List (Item Str)) (v : D) : Prop := ∃ (j : Nat) (l : List D), v = .obj j ∧ S[j]? = some (.lst l) ∧ Its S items l
theorem Its.len {S : Store} : ∀ {l : List (Item Str)} {m : List D}, Its S l m → m.length = l.length
  | _, _, .nil => rfl
  | _, _, .cons _ t => by rw [List.length_cons, List.length_cons, t.len]
theorem Its.get {S : Store} : ∀ {l : List (Item Str)} {m : List D} {i : Nat} {d : D}, Its S l m → m[i]? = some d → ∃ it, l[i]? = some it ∧ itD S it d
  | _, _, _, _, .nil, h => by simp at h
  | _, _, 0, _, .cons a t, h => by
    simp at h
    subst h
    exact ⟨_, rfl, a⟩
  | _, _, i + 1, _, .cons a t, h => by
    obtain ⟨it, h1, h2⟩ := t.get (i := i) (by simpa using h)
    exact ⟨it, by simpa using h1, h2⟩
/-- the slots of _law_by_hand -/
def slots (d : Nat) (x y z : Str) (v : Option D) : Lf.Env := [some (.obj d), some (.str x), some (.str y), some (.str z), some (ruleD ((x, y), [])), some (ruleD ((x, x), [])), v, none, none]
theorem add_items {G : Nat → Sp} {ns : List Int} {d : Nat} {x y z : Str} {S : Store} {v : D} {i0 i1 : List (Item Str)} {e : E} {X : K1} (h0 : FIt S i0 v) (hz : i0.length + i1.length ≤ 1000)
    (h : wE G ns e (slots d x y z (some v)) S (fun w S' => FIt S' i1 w ∧ Gr S S') X) : wE G ns (.bin .Add (.var 6) e) (slots d x y z (some v)) S (fun w S' => FIt S' (i0 ++ i1) w) X := by
  rw [wE, wE]
  refine ⟨v, rfl, wE_le e h (fun w S' q => ?_) fun _ _ z => z⟩
  obtain ⟨⟨j, l, rfl, hj, hl⟩, g⟩ := q
  obtain ⟨j0, l0, rfl, hj0, hl0⟩ := h0
  refine ⟨l0, l, g.at hj0, hj, sz (by rw [hl0.len, hl.len]; omega), S'.length, l0 ++ l, rfl, by simp, ?_⟩
  exact ((hl0.gr g).app hl).gr (Gr.app _ _)
theorem lit_0 (G : Nat → Sp) (ns : List Int) (d : Nat) (x y z : Str) (v : Option D) (S : Store) (X : K1) : wE G ns (.lst (.cons (.tup (.cons (.lst .nil) (.cons (.con .non) .nil))) (.cons (.tup (.cons (.lst (.cons (.var 5) .nil)) (.cons (.con .non) .nil))) (.cons (.tup (.cons (.lst (.cons (.var 4) .nil)) (.cons (.con .non) .nil))) (.cons (.tup (.cons (.lst (.cons (.var 4) (.cons (.tup (.cons (.var 2) (.cons (.var 1) (.cons (.tup .nil) .nil)))) .nil))) (.cons (.con .non) .nil))) (.cons (.tup (.cons (.lst (.cons (.tup (.cons (.var 1) (.cons (.var 1) (.cons (.tup (.cons (.var 1) .nil)) .nil)))) .nil)) (.cons (.con .non) .nil))) .nil)))))) (slots d x y z v) S (fun w S' => FIt S' [([], none), ([((x, x), [])], none), ([((x, y), [])], none), ([((x, y), []), ((y, x), [])], none), ([((x, x), [x])], none)] w ∧ Gr S S') X := by
  have sl : ∀ {n : Nat}, n ≤ 1000 → n ≤ sizeLine := fun h => sz (by omega)
  simp only [wE, wEs, Lf.alloc, slots]
  simp [sl, FIt]
  refine ⟨?_, Gr.app _ _⟩
  exact (.cons ⟨_, rfl, by simp [rulesD, ruleD, rowD]⟩ (.cons ⟨_, rfl, by simp [rulesD, ruleD, rowD]⟩ (.cons ⟨_, rfl, by simp [rulesD, ruleD, rowD]⟩ (.cons ⟨_, rfl, by simp [rulesD, ruleD, rowD]⟩ (.cons ⟨_, rfl, by simp [rulesD, ruleD, rowD]⟩ .nil)))))
theorem lit_1 (G : Nat → Sp) (ns : List Int) (d : Nat) (x y z : Str) (v : Option D) (S : Store) (X : K1) : wE G ns (.lst (.cons (.tup (.cons (.lst (.cons (.tup (.cons (.var 1) (.cons (.var 1) (.cons (.tup (.cons (.var 2) .nil)) .nil)))) .nil)) (.cons (.tup (.cons (.var 1) (.cons (.var 1) (.cons (.var 1) .nil)))) .nil))) (.cons (.tup (.cons (.lst (.cons (.var 4) (.cons (.tup (.cons (.var 2) (.cons (.var 1) (.cons (.tup (.cons (.var 1) .nil)) .nil)))) .nil))) (.cons (.tup (.cons (.var 1) (.cons (.var 2) (.cons (.var 1) .nil)))) .nil))) (.cons (.tup (.cons (.lst (.cons (.var 4) (.cons (.tup (.cons (.var 2) (.cons (.var 3) (.cons (.tup .nil) .nil)))) .nil))) (.cons (.tup (.cons (.var 1) (.cons (.var 2) (.cons (.var 3) .nil)))) .nil))) .nil)))) (slots d x y z v) S (fun w S' => FIt S' [([((x, x), [y])], some (x, x, x)), ([((x, y), []), ((y, x), [x])], some (x, y, x)), ([((x, y), []), ((y, z), [])], some (x, y, z))] w ∧ Gr S S') X := by
  have sl : ∀ {n : Nat}, n ≤ 1000 → n ≤ sizeLine := fun h => sz (by omega)
  simp only [wE, wEs, Lf.alloc, slots]
  simp [sl, FIt]
  refine ⟨?_, Gr.app _ _⟩
  exact (.cons ⟨_, rfl, by simp [rulesD, ruleD, rowD]⟩ (.cons ⟨_, rfl, by simp [rulesD, ruleD, rowD]⟩ (.cons ⟨_, rfl, by simp [rulesD, ruleD, rowD]⟩ .nil)))
theorem lit_2 (G : Nat → Sp) (ns : List Int) (d : Nat) (x y z : Str) (v : Option D) (S : Store) (X : K1) : wE G ns (.lst (.cons (.tup (.cons (.lst (.cons (.tup (.cons (.var 1) (.cons (.var 1) (.cons (.tup (.cons (.var 1) .nil)) .nil)))) (.cons (.tup (.cons (.var 1) (.cons (.var 2) (.cons (.tup (.cons (.var 2) .nil)) .nil)))) (.cons (.tup (.cons (.var 2) (.cons (.var 1) (.cons (.tup (.cons (.var 1) .nil)) .nil)))) (.cons (.tup (.cons (.var 2) (.cons (.var 2) (.cons (.tup (.cons (.var 2) .nil)) .nil)))) .nil))))) (.cons (.con .non) .nil))) (.cons (.tup (.cons (.lst (.cons (.var 5) (.cons (.tup (.cons (.var 1) (.cons (.var 2) (.cons (.tup (.cons (.var 2) .nil)) .nil)))) .nil))) (.cons (.con .non) .nil))) .nil))) (slots d x y z v) S (fun w S' => FIt S' [([((x, x), [x]), ((x, y), [y]), ((y, x), [x]), ((y, y), [y])], none), ([((x, x), []), ((x, y), [y])], none)] w ∧ Gr S S') X := by
  have sl : ∀ {n : Nat}, n ≤ 1000 → n ≤ sizeLine := fun h => sz (by omega)
  simp only [wE, wEs, Lf.alloc, slots]
  simp [sl, FIt]
  refine ⟨?_, Gr.app _ _⟩
  exact (.cons ⟨_, rfl, by simp [rulesD, ruleD, rowD]⟩ (.cons ⟨_, rfl, by simp [rulesD, ruleD, rowD]⟩ .nil))
theorem lit_3 (G : Nat → Sp) (ns : List Int) (d : Nat) (x y z : Str) (v : Option D) (S : Store) (X : K1) : wE G ns (.lst (.cons (.tup (.cons (.lst (.cons (.tup (.cons (.var 1) (.cons (.var 2) (.cons (.tup (.cons (.var 3) .nil)) .nil)))) (.cons (.tup (.cons (.var 2) (.cons (.var 3) (.cons (.tup (.cons (.var 1) .nil)) .nil)))) .nil))) (.cons (.tup (.cons (.var 1) (.cons (.var 2) (.cons (.var 3) .nil)))) .nil))) (.cons (.tup (.cons (.lst (.cons (.tup (.cons (.var 1) (.cons (.var 2) (.cons (.tup (.cons (.var 2) .nil)) .nil)))) (.cons (.tup (.cons (.var 2) (.cons (.var 3) (.cons (.tup (.cons (.var 3) .nil)) .nil)))) (.cons (.tup (.cons (.var 1) (.cons (.var 3) (.cons (.tup (.cons (.var 3) .nil)) .nil)))) .nil)))) (.cons (.con .non) .nil))) .nil))) (slots d x y z v) S (fun w S' => FIt S' [([((x, y), [z]), ((y, z), [x])], some (x, y, z)), ([((x, y), [y]), ((y, z), [z]), ((x, z), [z])], none)] w ∧ Gr S S') X := by
  have sl : ∀ {n : Nat}, n ≤ 1000 → n ≤ sizeLine := fun h => sz (by omega)
  simp only [wE, wEs, Lf.alloc, slots]
  simp [sl, FIt]
  refine ⟨?_, Gr.app _ _⟩
  exact (.cons ⟨_, rfl, by simp [rulesD, ruleD, rowD]⟩ (.cons ⟨_, rfl, by simp [rulesD, ruleD, rowD]⟩ .nil))
theorem lit_4 (G : Nat → Sp) (ns : List Int) (d : Nat) (x y z : Str) (v : Option D) (S : Store) (X : K1) : wE G ns (.lst (.cons (.tup (.cons (.lst (.cons (.tup (.cons (.var 1) (.cons (.var 2) (.cons (.tup (.cons (.var 1) .nil)) .nil)))) (.cons (.tup (.cons (.var 2) (.cons (.var 3) (.cons (.tup (.cons (.var 2) .nil)) .nil)))) .nil))) (.cons (.tup (.cons (.var 1) (.cons (.var 2) (.cons (.var 3) .nil)))) .nil))) (.cons (.tup (.cons (.lst (.cons (.tup (.cons (.var 1) (.cons (.var 2) (.cons (.tup (.cons (.var 1) .nil)) .nil)))) (.cons (.tup (.cons (.var 2) (.cons (.var 2) (.cons (.tup (.cons (.var 2) .nil)) .nil)))) .nil))) (.cons (.con .non) .nil))) .nil))) (slots d x y z v) S (fun w S' => FIt S' [([((x, y), [x]), ((y, z), [y])], some (x, y, z)), ([((x, y), [x]), ((y, y), [y])], none)] w ∧ Gr S S') X := by
  have sl : ∀ {n : Nat}, n ≤ 1000 → n ≤ sizeLine := fun h => sz (by omega)
  simp only [wE, wEs, Lf.alloc, slots]
  simp [sl, FIt]
  refine ⟨?_, Gr.app _ _⟩
  exact (.cons ⟨_, rfl, by simp [rulesD, ruleD, rowD]⟩ (.cons ⟨_, rfl, by simp [rulesD, ruleD, rowD]⟩ .nil))
theorem lit_5 (G : Nat → Sp) (ns : List Int) (d : Nat) (x y z : Str) (v : Option D) (S : Store) (X : K1) : wE G ns (.lst (.cons (.tup (.cons (.lst (.cons (.var 5) (.cons (.tup (.cons (.var 1) (.cons (.var 2) (.cons (.tup (.cons (.var 3) .nil)) .nil)))) .nil))) (.cons (.tup (.cons (.var 1) (.cons (.var 1) (.cons (.var 2) .nil)))) .nil))) (.cons (.tup (.cons (.lst (.cons (.tup (.cons (.var 1) (.cons (.var 2) (.cons (.tup (.cons (.var 1) .nil)) .nil)))) (.cons (.tup (.cons (.var 2) (.cons (.var 3) (.cons (.tup (.cons (.var 3) .nil)) .nil)))) .nil))) (.cons (.con .non) .nil))) .nil))) (slots d x y z v) S (fun w S' => FIt S' [([((x, x), []), ((x, y), [z])], some (x, x, y)), ([((x, y), [x]), ((y, z), [z])], none)] w ∧ Gr S S') X := by
  have sl : ∀ {n : Nat}, n ≤ 1000 → n ≤ sizeLine := fun h => sz (by omega)
  simp only [wE, wEs, Lf.alloc, slots]
  simp [sl, FIt]
  refine ⟨?_, Gr.app _ _⟩
  exact (.cons ⟨_, rfl, by simp [rulesD, ruleD, rowD]⟩ (.cons ⟨_, rfl, by simp [rulesD, ruleD, rowD]⟩ .nil))
def spHand : Sp := spec (γ := Nat × Nat × Int)
  (fun (d, c, n) ds S => ds = [.obj d] ∧ Deck d c n S ∧ n < 900000)
  (fun (d, c, n) S v S' => ∃ (e : Nat) (x y z : Str), [x, y, z].Nodup ∧ (∀ a ∈ [x, y, z], a ∈ poolS) ∧ v = .obj e ∧ S'[e]? = some (.lst ((hand x y z).map fun it => .tup [rowD [x, y, z], .tup (rulesD it.1), clD it.2])))
theorem w_20 (G : Nat → Sp) (ns : List Int) (h9 : G 9 = spNames) : ∀ ds S Q, spHand.wp ds S Q never → wTs G ns ir_20 (ini N_20.length ds) S (retE Q) := by
  rintro ds S Q ⟨⟨d, c, n⟩, ⟨rfl, dk, hn⟩, k⟩
  unfold ir_20
  refine seq_cut (fun ρ S1 => ∃ x y z : Str, [x, y, z].Nodup ∧ (∀ a ∈ [x, y, z], a ∈ poolS) ∧ ρ = [some (.obj d), some (.str x), some (.str y), some (.str z), none, none, none, none, none]) ?_ ?_
  · simp only [wT, wE, wEs, wTg, wTgs]
    refine ⟨_, rfl, ?_⟩
    rw [h9]
    refine spec_use (d, c, n, 3) ⟨rfl, dk, by decide, hn⟩ fun v S1 ⟨names, ev, hl, nd, hp, dk1, fr⟩ => ?_
    subst ev
    match names, hl, nd, hp with
    | [x, y, z], _, nd, hp => exact ⟨_, rfl, _, _, rfl, _, _, rfl, _, _, rfl, rfl, x, y, z, nd, hp, rfl⟩
  rintro ρ S1 ⟨x, y, z, nd, hp, rfl⟩
  refine seq_cut (fun ρ S2 => S2 = S1 ∧ ρ = [some (.obj d), some (.str x), some (.str y), some (.str z), some (ruleD ((x, y), [])), some (ruleD ((x, x), [])), none, none, none]) ?_ ?_
  · simp only [wT, wE, wEs]
    exact ⟨_, rfl, _, rfl, sz (by simp), sz (by simp), _, rfl, _, rfl, sz (by simp), sz (by simp), rfl, trivial, rfl⟩
  rintro ρ S2 ⟨rfl, rfl⟩
  refine seq_cut (fun ρ S3 => ∃ v, ρ = slots d x y z (some v) ∧ FIt S3 [([], none), ([((x, x), [])], none), ([((x, y), [])], none), ([((x, y), []), ((y, x), [])], none), ([((x, x), [x])], none)] v) ?_ ?_
  · simp only [wT, wTg]
    exact e_cut _ (lit_0 G ns d x y z none S2 _) fun v S3 ⟨h, _⟩ => ⟨v, rfl, h⟩
  rintro ρ S3 ⟨v, rfl, hv⟩
  refine seq_cut (fun ρ S3 => ∃ v, ρ = slots d x y z (some v) ∧ FIt S3 ([([], none), ([((x, x), [])], none), ([((x, y), [])], none), ([((x, y), []), ((y, x), [])], none), ([((x, x), [x])], none)] ++ [([((x, x), [y])], some (x, x, x)), ([((x, y), []), ((y, x), [x])], some (x, y, x)), ([((x, y), []), ((y, z), [])], some (x, y, z))]) v) ?_ ?_
  · simp only [wT.eq_1, wTg]
    exact e_cut _ (add_items hv (by simp) (lit_1 G ns d x y z _ _ _)) fun v S3 h => ⟨v, rfl, h⟩
  rintro ρ S4 ⟨v, rfl, hv⟩
  refine seq_cut (fun ρ S3 => ∃ v, ρ = slots d x y z (some v) ∧ FIt S3 (([([], none), ([((x, x), [])], none), ([((x, y), [])], none), ([((x, y), []), ((y, x), [])], none), ([((x, x), [x])], none)] ++ [([((x, x), [y])], some (x, x, x)), ([((x, y), []), ((y, x), [x])], some (x, y, x)), ([((x, y), []), ((y, z), [])], some (x, y, z))]) ++ [([((x, x), [x]), ((x, y), [y]), ((y, x), [x]), ((y, y), [y])], none), ([((x, x), []), ((x, y), [y])], none)]) v) ?_ ?_
  · simp only [wT.eq_1, wTg]
    exact e_cut _ (add_items hv (by simp) (lit_2 G ns d x y z _ _ _)) fun v S3 h => ⟨v, rfl, h⟩
  rintro ρ S5 ⟨v, rfl, hv⟩
  refine seq_cut (fun ρ S3 => ∃ v, ρ = slots d x y z (some v) ∧ FIt S3 ((([([], none), ([((x, x), [])], none), ([((x, y), [])], none), ([((x, y), []), ((y, x), [])], none), ([((x, x), [x])], none)] ++ [([((x, x), [y])], some (x, x, x)), ([((x, y), []), ((y, x), [x])], some (x, y, x)), ([((x, y), []), ((y, z), [])], some (x, y, z))]) ++ [([((x, x), [x]), ((x, y), [y]), ((y, x), [x]), ((y, y), [y])], none), ([((x, x), []), ((x, y), [y])], none)]) ++ [([((x, y), [z]), ((y, z), [x])], some (x, y, z)), ([((x, y), [y]), ((y, z), [z]), ((x, z), [z])], none)]) v) ?_ ?_
  · simp only [wT.eq_1, wTg]
    exact e_cut _ (add_items hv (by simp) (lit_3 G ns d x y z _ _ _)) fun v S3 h => ⟨v, rfl, h⟩
  rintro ρ S6 ⟨v, rfl, hv⟩
  refine seq_cut (fun ρ S3 => ∃ v, ρ = slots d x y z (some v) ∧ FIt S3 (((([([], none), ([((x, x), [])], none), ([((x, y), [])], none), ([((x, y), []), ((y, x), [])], none), ([((x, x), [x])], none)] ++ [([((x, x), [y])], some (x, x, x)), ([((x, y), []), ((y, x), [x])], some (x, y, x)), ([((x, y), []), ((y, z), [])], some (x, y, z))]) ++ [([((x, x), [x]), ((x, y), [y]), ((y, x), [x]), ((y, y), [y])], none), ([((x, x), []), ((x, y), [y])], none)]) ++ [([((x, y), [z]), ((y, z), [x])], some (x, y, z)), ([((x, y), [y]), ((y, z), [z]), ((x, z), [z])], none)]) ++ [([((x, y), [x]), ((y, z), [y])], some (x, y, z)), ([((x, y), [x]), ((y, y), [y])], none)]) v) ?_ ?_
  · simp only [wT.eq_1, wTg]
    exact e_cut _ (add_items hv (by simp) (lit_4 G ns d x y z _ _ _)) fun v S3 h => ⟨v, rfl, h⟩
  rintro ρ S7 ⟨v, rfl, hv⟩
  refine seq_cut (fun ρ S3 => ∃ v, ρ = slots d x y z (some v) ∧ FIt S3 ((((([([], none), ([((x, x), [])], none), ([((x, y), [])], none), ([((x, y), []), ((y, x), [])], none), ([((x, x), [x])], none)] ++ [([((x, x), [y])], some (x, x, x)), ([((x, y), []), ((y, x), [x])], some (x, y, x)), ([((x, y), []), ((y, z), [])], some (x, y, z))]) ++ [([((x, x), [x]), ((x, y), [y]), ((y, x), [x]), ((y, y), [y])], none), ([((x, x), []), ((x, y), [y])], none)]) ++ [([((x, y), [z]), ((y, z), [x])], some (x, y, z)), ([((x, y), [y]), ((y, z), [z]), ((x, z), [z])], none)]) ++ [([((x, y), [x]), ((y, z), [y])], some (x, y, z)), ([((x, y), [x]), ((y, y), [y])], none)]) ++ [([((x, x), []), ((x, y), [z])], some (x, x, y)), ([((x, y), [x]), ((y, z), [z])], none)]) v) ?_ ?_
  · simp only [wT.eq_1, wTg]
    exact e_cut _ (add_items hv (by simp) (lit_5 G ns d x y z _ _ _)) fun v S3 h => ⟨v, rfl, h⟩
  rintro ρ S8 ⟨v, rfl, hv⟩
  have hv : FIt S8 (hand x y z) v := hv
  obtain ⟨e, l, rfl, he, hl⟩ := hv
  simp only [wT, wTs, wIt, wE, wEs, wTg, wTgs, wC, Lf.alloc]
  refine ⟨_, rfl, l, at_lst he, sz (by rw [hl.len]; simp [hand]), ?_⟩
  refine loopC_inv (fun done acc S9 => S9 = S8 ∧ acc = ((hand x y z).take done.length).map fun it => .tup [rowD [x, y, z], .tup (rulesD it.1), clD it.2]) ?_ ?_ ?_ ⟨rfl, rfl⟩
  · rintro _ _ S9 ⟨rfl, _⟩
    exact at_lst he
  · rintro kk dd mm acc S9 M el ⟨rfl, rfl⟩ hM
    have hd : l[kk.length]? = some dd := by rw [el]; simp
    obtain ⟨it, hit, j, rfl, hj⟩ := hl.get hd
    refine ⟨_, rfl, _, _, rfl, _, _, rfl, rfl, _, rfl, _, rfl, _, rfl, sz (by simp), _, rfl, rulesD it.1, at_lst hj, _, rfl, sz (by simp), ?_⟩
    refine hM _ _ ⟨rfl, ?_⟩
    rw [List.length_append, List.length_singleton, List.take_add_one, hit, List.map_append]
    rfl
  · rintro acc S9 ⟨rfl, rfl⟩
    refine k _ _ ⟨S9.length, x, y, z, nd, hp, rfl, ?_⟩
    rw [hl.len, List.take_length]
    simp
end K03

set_option Elab.async false
set_option linter.all false
set_option maxRecDepth 100000
set_option maxHeartbeats 4000000
/-! K03q: law. -/
namespace K03
open PySem Lf
theorem pool_nm : ∀ a ∈ poolS, PyData.strOk a = true ∧ (reprText a).length ≤ 20 := by decide +kernel
theorem Rules.erase {T : Tab} {names : List Str} (h : Rules T names) (k : Nat) : Rules (T.eraseIdx k) names := by
  have s := List.eraseIdx_sublist T k
  exact ⟨fun p hp => h.keys p (s.subset hp), fun p hp => h.small p (s.subset hp), fun p hp => h.closed p (s.subset hp), (s.map (·.1)).nodup h.nd⟩
def spLaw : Sp := spec (γ := Unit) (fun _ ds S => ds = [.scr]) (fun _ S v S' => v = .bl true)
theorem w_21 (G : Nat → Sp) (ns : List Int) (h5 : G 5 = spClash) (h6 : G 6 = spDeck) (h7 : G 7 = spDraw) (h8 : G 8 = spPick) (h9 : G 9 = spNames) (h10 : G 10 = spTab) (h16 : G 16 = spRules) (h17 : G 17 = spAsked) (h19 : G 19 = spRight) (h20 : G 20 = spHand) :
    ∀ ds S Q, spLaw.wp ds S Q never → wTs G ns ir_21 (ini N_21.length ds) S (retE Q) := by
  rintro ds S Q ⟨⟨⟩, rfl, k⟩
  unfold ir_21
  refine seq_cut (fun ρ S1 => ∃ d c : Nat, ρ = [some .scr, some (.obj d), none, none, none, none] ∧ Deck d c 0 S1) ?_ ?_
  · simp only [wT, wE, wEs, wTg]
    refine ⟨_, rfl, ?_⟩
    rw [h6]
    exact spec_use () rfl fun v S1 ⟨d, c, ev, dk⟩ => by
      subst ev
      exact ⟨d, c, rfl, dk⟩
  rintro ρ S1 ⟨d, c, rfl, dk⟩
  refine seq_cut (fun ρ S2 => ∃ n, (∃ a b e f, ρ = [some .scr, some (.obj d), a, b, e, f]) ∧ Deck d c n S2 ∧ n ≤ 800) ?_ ?_
  · rw [wT.eq_9, wIt, wE]
    refine ⟨8, rfl, ⟨by decide, by decide⟩, ?_⟩
    refine loopL_inv (fun done ρ S2 => ∃ n, (∃ a b e f, ρ = [some .scr, some (.obj d), a, b, e, f]) ∧ Deck d c n S2 ∧ n ≤ 100 * done.length) (fun _ _ _ _ => trivial) ?_ ?_ ⟨0, ⟨_, _, _, _, rfl⟩, dk, by simp⟩
    · rintro kk t mm ρ S2 M hlst ⟨n, ⟨a, b, e, f, rfl⟩, dk2, hn⟩ hM
      have hk : kk.length ≤ 8 := by
        have := congrArg List.length hlst
        simp at this
        omega
      rw [wTg]
      -- names
      refine seq_cut (fun ρ S3 => ∃ (names : List Str) (n' : Int), ρ = [some .scr, some (.obj d), some t, some (rowD names), e, f] ∧ 1 ≤ names.length ∧ names.length ≤ 3 ∧ names.Nodup ∧ NmOk names ∧ Deck d c n' S3 ∧ n' ≤ n + 4) ?_ ?_
      · simp only [wT, wE, wEs, wTg]
        refine ⟨_, rfl, _, rfl, ?_⟩
        rw [h7]
        refine spec_use (d, c, n, 3) ⟨rfl, dk2, by decide, by decide, by omega⟩ fun v S3 ⟨⟨r, ev, r0, r1⟩, dk3, _⟩ => ?_
        subst ev
        show (G 9).wp [.obj d, .int (1 + r)] S3 _ _
        rw [h9]
        have er : (1 + r) = ((1 + r).toNat : Int) := by omega
        refine spec_use (d, c, n + 1, (1 + r).toNat) ⟨by rw [← er], dk3, by omega, by omega⟩ fun v S4 ⟨names, ev, hl, nd, hp, dk4, _⟩ => ?_
        subst ev
        exact ⟨names, _, rfl, by omega, by omega, nd, fun a ha => pool_nm a (hp a ha), dk4, by omega⟩
      rintro ρ S3 ⟨names, n', rfl, l1, l2, nd, hnm, dk3, hn'⟩
      -- some
      refine seq_cut (fun ρ S4 => ∃ (g : Nat) (rs : Tab) (n2 : Int), ρ = [some .scr, some (.obj d), some t, some (rowD names), some (.obj g), f] ∧ S4[g]? = some (.lst (rulesD rs)) ∧ Rules rs names ∧ rs.length ≤ 9 ∧ g ≠ d ∧ g ≠ c ∧ Deck d c n2 S4 ∧ n2 ≤ n' + 30) ?_ ?_
      · simp only [wT, wE, wEs, wTg, Lf.alloc]
        refine ⟨_, rfl, _, rfl, _, rfl, _, rfl, sz (by simp), ?_⟩
        obtain ⟨mm1, hd3, _⟩ := dk3.hd
        obtain ⟨cc1, hc3, _⟩ := dk3.hc
        have ld := get_lt hd3
        have lc := get_lt hc3
        rw [h8]
        refine spec_use (d, c, n', .obj S3.length, [.int 2, .int 2, .int 3, .int 9]) ⟨rfl, at_lst (by simp), by simp, by simp, fun j hj => ?_, dk3.app _, by omega⟩ fun v S4 ⟨hv, dk4, _⟩ => ?_
        · injection hj with hj
          omega
        obtain ⟨part, rfl, p0, p1⟩ : ∃ part : Int, v = .int part ∧ 0 < part ∧ part < 1000 := by
          simp only [List.mem_cons, List.not_mem_nil, or_false] at hv
          rcases hv with rfl | rfl | rfl | rfl
          · exact ⟨2, rfl, by decide, by decide⟩
          · exact ⟨2, rfl, by decide, by decide⟩
          · exact ⟨3, rfl, by decide, by decide⟩
          · exact ⟨9, rfl, by decide, by decide⟩
        rw [h10]
        refine spec_use (d, c, n' + 1, names, part) ⟨rfl, dk4, p0, p1, nd, (by intro z; rw [z] at l1; simp at l1), l2, by omega⟩ fun v S5 ⟨i, T, n2, ev, hi, hR, hT, dk5, hn2, fr5, li⟩ => ?_
        subst ev
        rw [h16]
        refine spec_use (i, T, names) ⟨rfl, hi, hR, nd, l2⟩ fun v S6 ⟨rs, ev, hRs, hrs, g6⟩ => ?_
        subst ev
        obtain ⟨mm2, hd5, _⟩ := dk5.hd
        obtain ⟨cc2, hc5, _⟩ := dk5.hc
        have ld5 := get_lt hd5
        have lc5 := get_lt hc5
        have gl := g6.len
        have dk6 : Deck d c n2 S6 := by
          obtain ⟨m, q1, q2⟩ := dk5.hd
          obtain ⟨cells, q3, q4⟩ := dk5.hc
          exact ⟨dk5.ne, ⟨m, g6.at q1, q2⟩, ⟨cells, g6.at q3, q4⟩, dk5.n0⟩
        exact ⟨rulesD rs, rfl, S6.length, rs, n2, rfl, by simp, hRs, hrs, by omega, by omega, dk6.app _, by omega⟩
      rintro ρ S4 ⟨g, rs, n2, rfl, hg, hR, hl, gd, gc, dk4, hn2⟩
      -- while
      refine seq_cut (fun ρ S5 => ∃ (rs : Tab) (n3 : Int), ρ = [some .scr, some (.obj d), some t, some (rowD names), some (.obj g), f] ∧ S5[g]? = some (.lst (rulesD rs)) ∧ Rules rs names ∧ rs.length ≤ 8 ∧ Deck d c n3 S5 ∧ n3 ≤ n2 + 10) ?_ ?_
      · refine whl_inv (n := rs.length) (fun m ρ S5 => ∃ (rs : Tab) (n3 : Int), m = rs.length ∧ ρ = [some .scr, some (.obj d), some t, some (rowD names), some (.obj g), f] ∧ S5[g]? = some (.lst (rulesD rs)) ∧ Rules rs names ∧ rs.length ≤ 9 ∧ Deck d c n3 S5 ∧ n3 + rs.length ≤ n2 + 10) ⟨rs, n2, rfl, rfl, hg, hR, hl, dk4, by omega⟩ ?_
        rintro m ρ S5 ⟨rs, n3, rfl, rfl, hg5, hR5, hl5, dk5, hn3⟩
        simp only [wT, wTs, wE, wEs]
        refine ⟨_, rfl, .inr ⟨rulesD rs, at_lst hg5, _, _, rfl, rfl, ?_⟩⟩
        have el : ((rulesD rs).length : Int) = rs.length := by unfold rulesD; rw [List.length_map]
        rw [el]
        by_cases h : (8 : Int) < rs.length
        · rw [decide_eq_true h]
          refine .inl ⟨rfl, _, rfl, ⟨g, _, rfl, hg5⟩, _, rfl, _, rfl, .inr ⟨rulesD rs, at_lst hg5, ?_⟩⟩
          rw [h7, el]
          refine spec_use (d, c, n3, (rs.length : Int)) ⟨rfl, dk5, by omega, by omega, by omega⟩ fun v S6 ⟨⟨r, ev, r0, r1⟩, dk6, fr6⟩ => ?_
          subst ev
          have hg6 := fr6.at hg5 gd gc
          have hr : r.toNat < rs.length := by omega
          have er : ((r.toNat : Nat) : Int) = r := Int.toNat_of_nonneg r0
          refine ⟨g, rulesD rs, r.toNat, ruleD rs[r.toNat], rfl, by rw [er], hg6, by unfold rulesD; rw [List.length_map]; exact sz (by omega), ?_, ?_⟩
          · unfold rulesD
            rw [List.getElem?_map, List.getElem?_eq_getElem hr]
            rfl
          refine ⟨(rs.eraseIdx r.toNat).length, by rw [List.length_eraseIdx_of_lt hr]; omega, rs.eraseIdx r.toNat, n3 + 1, rfl, trivial, ?_, hR5.erase _, by rw [List.length_eraseIdx_of_lt hr]; omega, dk6.set _ gd gc, by rw [List.length_eraseIdx_of_lt hr]; omega⟩
          rw [List.getElem?_set_self (get_lt hg6)]
          unfold rulesD
          rw [erase_map]
        · rw [decide_eq_false h]
          exact .inr ⟨rfl, rs, n3, trivial, hg5, hR5, by omega, dk5, by omega⟩
      rintro ρ S5 ⟨rs, n3, rfl, hg5, hR5, hl5, dk5, hn3⟩
      simp only [wT, wTs, wE, wEs]
      refine ⟨_, rfl, _, rfl, rulesD rs, at_lst hg5, ?_⟩
      rw [h19]
      refine spec_use (rs, names) ⟨rfl, hR5, hl5, hnm, l2⟩ fun v S6 ⟨ev, g6⟩ => ?_
      subst ev
      have dk6 : Deck d c n3 S6 := by
        obtain ⟨m, q1, q2⟩ := dk5.hd
        obtain ⟨cells, q3, q4⟩ := dk5.hc
        exact ⟨dk5.ne, ⟨m, g6.at q1, q2⟩, ⟨cells, g6.at q3, q4⟩, dk5.n0⟩
      refine ⟨true, rfl, .inr ⟨rfl, hM _ _ ⟨n3, ⟨_, _, _, _, rfl⟩, dk6, by simp; omega⟩⟩⟩
    · rintro ρ S2 ⟨n, hρ, dk2, hn⟩
      refine ⟨n, hρ, dk2, ?_⟩
      have e8 : ((List.range (8 : Int).toNat).map fun (k : Nat) => D.int k).length = 8 := rfl
      rw [e8] at hn
      omega
  rintro ρ S2 ⟨n, ⟨a, b, e, f, rfl⟩, dk2, hn⟩
  refine seq_cut (fun ρ S3 => True) ?_ ?_
  · simp only [wT, wTs, wIt, wE, wEs, wTg, wTgs]
    refine ⟨_, rfl, ?_⟩
    rw [h20]
    refine spec_use (d, c, n) ⟨rfl, dk2, by omega⟩ fun v S3 ⟨g, x, y, z, nd, hp, ev, hg⟩ => ?_
    subst ev
    have hnm : NmOk [x, y, z] := fun a ha => pool_nm a (hp a ha)
    refine ⟨_, at_lst hg, ?_⟩
    refine loopL_inv (fun done ρ S4 => (∃ a b e f, ρ = [some .scr, some (.obj d), a, b, e, f]) ∧ Gr S3 S4) ?_ ?_ (fun _ _ _ => trivial) ⟨⟨_, _, _, _, rfl⟩, Gr.refl _⟩
    · rintro _ ρ S4 ⟨_, g4⟩
      exact at_lst (g4.at hg)
    · rintro kk t mm ρ S4 M hlst ⟨⟨a, b, e, f, rfl⟩, g4⟩ hM
      obtain ⟨it, hit, rfl⟩ := List.mem_map.mp (show t ∈ (hand x y z).map _ by rw [hlst]; simp)
      obtain ⟨hR, hl, hle⟩ := hand_ok nd it hit
      have cf := cl_fine (T := it.1) hnm
      rw [hle] at cf
      obtain ⟨c1, c2, c3⟩ := cf
      refine ⟨_, rfl, _, _, rfl, _, _, rfl, _, _, rfl, rfl, _, rfl, _, rfl, ?_⟩
      rw [h17]
      refine spec_use (it.1, [x, y, z], [x, y, z]) ⟨rfl, hR.nd, hl, hR.ok hnm, fun a ha => ha⟩ fun v S5 ⟨g5, ev⟩ => ?_
      rw [hle] at ev
      subst ev
      refine repr_fine c1 (by omega) (by omega) ⟨_, rfl, repr_fine c1 (by omega) (by omega) (wCmp_ne_str ?_)⟩
      refine .inl ⟨by simp, _, rfl, _, rfl, ?_⟩
      rw [h19]
      refine spec_use (it.1, [x, y, z]) ⟨rfl, hR, hl, hnm, by simp⟩ fun v S6 ⟨ev, g6⟩ => ?_
      subst ev
      exact ⟨true, rfl, ⟨_, rfl⟩, .inr ⟨rfl, hM _ _ ⟨⟨_, _, _, _, rfl⟩, (g4.trans g5).trans g6⟩⟩⟩
  rintro ρ S3 _
  simp only [wT, wTs, wE, wEs]
  refine ⟨sz (by simp), ?_⟩
  rw [h5]
  have hle : least ([] : Tab) ["a", "b"] = none := by decide +kernel
  refine spec_use ([], ["a", "b"], ["a", "b"]) ⟨rfl, by simp, by simp, ⟨(fun p hp => by cases hp), (fun p hp => by cases hp), by decide +kernel⟩, fun a ha => ha⟩ fun v S4 ⟨e1, e2⟩ => ?_
  subst e1 e2
  rw [hle]
  refine repr_fine (by simp [clD, D.fine]) (by simp [clD, D.dep]) (by simp [clD, D.big]) (wCmp_eq_str ?_)
  refine k _ _ ?_
  show D.bl _ = D.bl true
  have e : ((clD none).py).shown = ("None" : Str) := by show (D.non.py).shown = _; rw [D.py, PyData.shown]
  rw [e, decide_eq_true rfl]
end K03

set_option Elab.async false
set_option linter.all false
set_option maxRecDepth 100000
set_option maxHeartbeats 0
/-! K03z: the defs put together; the law. -/
namespace K03
open PySem Lf L2
def G : Nat → Lf.Sp
  | 0 => spTable
  | 1 => spPut
  | 2 => spNet
  | 3 => spHas
  | 4 => spLeast
  | 5 => spClash
  | 6 => spDeck
  | 7 => spDraw
  | 8 => spPick
  | 9 => spNames
  | 10 => spTab
  | 11 => spSpots
  | 12 => spOnce
  | 13 => spEnds
  | 14 => spLClash
  | 15 => spPairs
  | 16 => spRules
  | 17 => spAsked
  | 18 => spRows
  | 19 => spRight
  | 20 => spHand
  | 21 => spLaw
  | _ => spLaw
theorem defs_succ {g : Wd} {mg : Str → Option Value} {base : Heap} {j : Nat} {x : Str} {a : Addr} (h : Defs g mg base (pg G j) j) (hx : fns[j]? = some x) (hm : mg x = some (.ref a)) (hk : PySem.W.keepIn g.K (.ref a) = true) (F : FnG g mg base (pat j) (j + 1) a (G j)) : Defs g mg base (pg G (j + 1)) (j + 1) := by
  refine ⟨fun f y hf0 => ?_, h.blt⟩
  have hf : (fns.take (j + 1))[f]? = some y := hf0
  clear hf0
  rw [List.getElem?_take] at hf
  split at hf
  · rename_i lt
    by_cases e : f = j
    · subst e
      rw [hx] at hf
      cases hf
      exact ⟨a, hm, hk, F⟩
    · have hf' : (pg G j).fn[f]? = some y := by
        show (fns.take j)[f]? = some y
        rw [List.getElem?_take, if_pos (by omega)]
        exact hf
      obtain ⟨b, h1, h2, h3⟩ := h.fns f y hf'
      exact ⟨b, h1, h2, h3.mono (by omega)⟩
  · cases hf
theorem hb_0 {K : PySem.W.Frag} {x : Str} {f : Addr} {fd : FuncData} (F : At K x st_0 f fd) : ∀ args us, Acc (pat 0) args us → us.length = (["rules"] : List Str).length → bindArgs fd args = pure ((["rules"] : List Str).zip us) := by
  obtain ⟨oc, od, kV, doc, pm, an, cdv, ct, osl, rfl, _⟩ := F.ex
  rintro args us (rfl | ⟨_, _, _, _, _, h, _⟩) hl
  · match us, hl with
    | [_], _ => rfl
  · cases h
theorem f_0 {g : Wd} {mg : Str → Option Value} {base : Heap} {x : Str} {f : Addr} {fd : FuncData} (F : At g.K x st_0 f fd) (Ds : Defs g mg base (pg G 0) 0) : FnG g mg base (pat 0) (0 + 1) f (G 0) :=
  fnG_of (ps := ["rules"]) Ds F sc_0 (cc_0 G) (hb_0 F) (by rintro ds S Q X ⟨_, ⟨rfl, _⟩, _⟩; rfl) (w_0 G g.ns)
theorem hb_1 {K : PySem.W.Frag} {x : Str} {f : Addr} {fd : FuncData} (F : At K x st_1 f fd) : ∀ args us, Acc (pat 1) args us → us.length = (["table", "log", "entry"] : List Str).length → bindArgs fd args = pure ((["table", "log", "entry"] : List Str).zip us) := by
  obtain ⟨oc, od, kV, doc, pm, an, cdv, ct, osl, rfl, _⟩ := F.ex
  rintro args us (rfl | ⟨_, _, _, _, _, h, _⟩) hl
  · match us, hl with
    | [_, _, _], _ => rfl
  · cases h
theorem f_1 {g : Wd} {mg : Str → Option Value} {base : Heap} {x : Str} {f : Addr} {fd : FuncData} (F : At g.K x st_1 f fd) (Ds : Defs g mg base (pg G 1) 1) : FnG g mg base (pat 1) (1 + 1) f (G 1) :=
  fnG_of (ps := ["table", "log", "entry"]) Ds F sc_1 (cc_1 G) (hb_1 F) (by rintro ds S Q X ⟨⟨_, _, _, _, _⟩, ⟨rfl, _⟩, _⟩; rfl) (w_1 G g.ns)
theorem hb_2 {K : PySem.W.Frag} {x : Str} {f : Addr} {fd : FuncData} (F : At K x st_2 f fd) : ∀ args us, Acc (pat 2) args us → us.length = (["table", "row"] : List Str).length → bindArgs fd args = pure ((["table", "row"] : List Str).zip us) := by
  obtain ⟨oc, od, kV, doc, pm, an, cdv, ct, osl, rfl, _⟩ := F.ex
  rintro args us (rfl | ⟨_, _, _, _, _, h, _⟩) hl
  · match us, hl with
    | [_, _], _ => rfl
  · cases h
theorem f_2 {g : Wd} {mg : Str → Option Value} {base : Heap} {x : Str} {f : Addr} {fd : FuncData} (F : At g.K x st_2 f fd) (Ds : Defs g mg base (pg G 2) 2) : FnG g mg base (pat 2) (2 + 1) f (G 2) :=
  fnG_of (ps := ["table", "row"]) Ds F sc_2 (cc_2 G) (hb_2 F) (by rintro ds S Q X ⟨⟨_, _, _, _⟩, ⟨rfl, _⟩, _⟩; rfl) (w_2 G g.ns rfl)
theorem hb_3 {K : PySem.W.Frag} {x : Str} {f : Addr} {fd : FuncData} (F : At K x st_3 f fd) : ∀ args us, Acc (pat 3) args us → us.length = (["table", "x", "y", "z"] : List Str).length → bindArgs fd args = pure ((["table", "x", "y", "z"] : List Str).zip us) := by
  obtain ⟨oc, od, kV, doc, pm, an, cdv, ct, osl, rfl, _⟩ := F.ex
  rintro args us (rfl | ⟨_, _, _, _, _, h, _⟩) hl
  · match us, hl with
    | [_, _, _, _], _ => rfl
  · cases h
theorem f_3 {g : Wd} {mg : Str → Option Value} {base : Heap} {x : Str} {f : Addr} {fd : FuncData} (F : At g.K x st_3 f fd) (Ds : Defs g mg base (pg G 3) 3) : FnG g mg base (pat 3) (3 + 1) f (G 3) :=
  fnG_of (ps := ["table", "x", "y", "z"]) Ds F sc_3 (cc_3 G) (hb_3 F) (by rintro ds S Q X ⟨⟨_, _, _, _, _, _⟩, ⟨rfl, _⟩, _⟩; rfl) (w_3 G g.ns rfl)
theorem hb_4 {K : PySem.W.Frag} {x : Str} {f : Addr} {fd : FuncData} (F : At K x st_4 f fd) : ∀ args us, Acc (pat 4) args us → us.length = (["entries", "table"] : List Str).length → bindArgs fd args = pure ((["entries", "table"] : List Str).zip us) := by
  obtain ⟨oc, od, kV, doc, pm, an, cdv, ct, osl, rfl, _⟩ := F.ex
  rintro args us (rfl | ⟨_, _, _, _, _, h, _⟩) hl
  · match us, hl with
    | [_, _], _ => rfl
  · cases h
theorem f_4 {g : Wd} {mg : Str → Option Value} {base : Heap} {x : Str} {f : Addr} {fd : FuncData} (F : At g.K x st_4 f fd) (Ds : Defs g mg base (pg G 4) 4) : FnG g mg base (pat 4) (4 + 1) f (G 4) :=
  fnG_of (ps := ["entries", "table"]) Ds F sc_4 (cc_4 G) (hb_4 F) (by rintro ds S Q X ⟨⟨_, _, _, _⟩, ⟨rfl, _⟩, _⟩; rfl) (w_4 G g.ns rfl)
theorem f_5 {g : Wd} {mg : Str → Option Value} {base : Heap} {x : Str} {f : Addr} {fd : FuncData} (F : At g.K x st_5 f fd) (Ds : Defs g mg base (pg G 5) 5) : FnG g mg base (pat 5) (5 + 1) f (G 5) := by
  refine fnG_star (ps := ["entries"]) (pv := "rules") Ds F sc_5 (cc_5 G) ?_ ?_ (w_5 G g.ns rfl rfl)
  · obtain ⟨oc, od, kV, doc, pm, an, cdv, ct, osl, rfl, _⟩ := F.ex
    rintro args us u1 rest ha eu hl
    subst eu
    match u1, hl with
    | [a], _ =>
      rcases ha with rfl | ⟨v1, v2, ks, e1, rfl, h, h2⟩
      · cases rest with
        | nil => rfl
        | cons c r => rfl
      · simp only [pat, List.mem_singleton, Prod.mk.injEq] at h
        obtain ⟨h3, rfl⟩ := h
        match v1, v2, h2, e1, h3 with
        | [], [b], _, e1, _ =>
          injection e1 with e2 e3
          subst e2
          cases rest with
          | nil => rfl
          | cons c r => cases e3
  · rintro ds S Q X ⟨⟨T, A, names⟩, ⟨rfl, _, hz, _⟩, _⟩
    exact ⟨by simp, sz (by simp [rulesD]; omega)⟩
theorem hb_6 {K : PySem.W.Frag} {x : Str} {f : Addr} {fd : FuncData} (F : At K x st_6 f fd) : ∀ args us, Acc (pat 6) args us → us.length = (["_law_script"] : List Str).length → bindArgs fd args = pure ((["_law_script"] : List Str).zip us) := by
  obtain ⟨oc, od, kV, doc, pm, an, cdv, ct, osl, rfl, _⟩ := F.ex
  rintro args us (rfl | ⟨_, _, _, _, _, h, _⟩) hl
  · match us, hl with
    | [_], _ => rfl
  · cases h
theorem f_6 {g : Wd} {mg : Str → Option Value} {base : Heap} {x : Str} {f : Addr} {fd : FuncData} (F : At g.K x st_6 f fd) (Ds : Defs g mg base (pg G 6) 6) : FnG g mg base (pat 6) (6 + 1) f (G 6) :=
  fnG_of (ps := ["_law_script"]) Ds F sc_6 (cc_6 G) (hb_6 F) (by rintro ds S Q X ⟨_, rfl, _⟩; rfl) (w_6 G g.ns)
theorem hb_7 {K : PySem.W.Frag} {x : Str} {f : Addr} {fd : FuncData} (F : At K x st_7 f fd) : ∀ args us, Acc (pat 7) args us → us.length = (["_law_deck_here", "_law_many"] : List Str).length → bindArgs fd args = pure ((["_law_deck_here", "_law_many"] : List Str).zip us) := by
  obtain ⟨oc, od, kV, doc, pm, an, cdv, ct, osl, rfl, _⟩ := F.ex
  rintro args us (rfl | ⟨_, _, _, _, _, h, _⟩) hl
  · match us, hl with
    | [_, _], _ => rfl
  · cases h
theorem f_7 {g : Wd} {mg : Str → Option Value} {base : Heap} {x : Str} {f : Addr} {fd : FuncData} (F : At g.K x st_7 f fd) (Ds : Defs g mg base (pg G 7) 7) : FnG g mg base (pat 7) (7 + 1) f (G 7) :=
  fnG_of (ps := ["_law_deck_here", "_law_many"]) Ds F sc_7 (cc_7 G) (hb_7 F) (by rintro ds S Q X ⟨⟨_, _, _, _⟩, ⟨rfl, _⟩, _⟩; rfl) (w_7 G g.ns)
theorem hb_8 {K : PySem.W.Frag} {x : Str} {f : Addr} {fd : FuncData} (F : At K x st_8 f fd) : ∀ args us, Acc (pat 8) args us → us.length = (["_law_deck_here", "_law_some"] : List Str).length → bindArgs fd args = pure ((["_law_deck_here", "_law_some"] : List Str).zip us) := by
  obtain ⟨oc, od, kV, doc, pm, an, cdv, ct, osl, rfl, _⟩ := F.ex
  rintro args us (rfl | ⟨_, _, _, _, _, h, _⟩) hl
  · match us, hl with
    | [_, _], _ => rfl
  · cases h
theorem f_8 {g : Wd} {mg : Str → Option Value} {base : Heap} {x : Str} {f : Addr} {fd : FuncData} (F : At g.K x st_8 f fd) (Ds : Defs g mg base (pg G 8) 8) : FnG g mg base (pat 8) (8 + 1) f (G 8) :=
  fnG_of (ps := ["_law_deck_here", "_law_some"]) Ds F sc_8 (cc_8 G) (hb_8 F) (by rintro ds S Q X ⟨⟨_, _, _, _, _⟩, ⟨rfl, _⟩, _⟩; rfl) (w_8 G g.ns rfl)
theorem hb_9 {K : PySem.W.Frag} {x : Str} {f : Addr} {fd : FuncData} (F : At K x st_9 f fd) : ∀ args us, Acc (pat 9) args us → us.length = (["_law_deck_here", "_law_many"] : List Str).length → bindArgs fd args = pure ((["_law_deck_here", "_law_many"] : List Str).zip us) := by
  obtain ⟨oc, od, kV, doc, pm, an, cdv, ct, osl, rfl, _⟩ := F.ex
  rintro args us (rfl | ⟨_, _, _, _, _, h, _⟩) hl
  · match us, hl with
    | [_, _], _ => rfl
  · cases h
theorem f_9 {g : Wd} {mg : Str → Option Value} {base : Heap} {x : Str} {f : Addr} {fd : FuncData} (F : At g.K x st_9 f fd) (Ds : Defs g mg base (pg G 9) 9) : FnG g mg base (pat 9) (9 + 1) f (G 9) :=
  fnG_of (ps := ["_law_deck_here", "_law_many"]) Ds F sc_9 (cc_9 G) (hb_9 F) (by rintro ds S Q X ⟨⟨_, _, _, _⟩, ⟨rfl, _⟩, _⟩; rfl) (w_9 G g.ns rfl)
theorem hb_10 {K : PySem.W.Frag} {x : Str} {f : Addr} {fd : FuncData} (F : At K x st_10 f fd) : ∀ args us, Acc (pat 10) args us → us.length = (["_law_deck_here", "_law_names_here", "_law_part"] : List Str).length → bindArgs fd args = pure ((["_law_deck_here", "_law_names_here", "_law_part"] : List Str).zip us) := by
  obtain ⟨oc, od, kV, doc, pm, an, cdv, ct, osl, rfl, _⟩ := F.ex
  rintro args us (rfl | ⟨_, _, _, _, _, h, _⟩) hl
  · match us, hl with
    | [_, _, _], _ => rfl
  · cases h
theorem f_10 {g : Wd} {mg : Str → Option Value} {base : Heap} {x : Str} {f : Addr} {fd : FuncData} (F : At g.K x st_10 f fd) (Ds : Defs g mg base (pg G 10) 10) : FnG g mg base (pat 10) (10 + 1) f (G 10) :=
  fnG_of (ps := ["_law_deck_here", "_law_names_here", "_law_part"]) Ds F sc_10 (cc_10 G) (hb_10 F) (by rintro ds S Q X ⟨⟨_, _, _, _, _⟩, ⟨rfl, _⟩, _⟩; rfl) (w_10 G g.ns rfl rfl)
theorem hb_11 {K : PySem.W.Frag} {x : Str} {f : Addr} {fd : FuncData} (F : At K x st_11 f fd) : ∀ args us, Acc (pat 11) args us → us.length = (["_law_table_here", "_law_row"] : List Str).length → bindArgs fd args = pure ((["_law_table_here", "_law_row"] : List Str).zip us) := by
  obtain ⟨oc, od, kV, doc, pm, an, cdv, ct, osl, rfl, _⟩ := F.ex
  rintro args us (rfl | ⟨_, _, _, _, _, h, _⟩) hl
  · match us, hl with
    | [_, _], _ => rfl
  · cases h
theorem f_11 {g : Wd} {mg : Str → Option Value} {base : Heap} {x : Str} {f : Addr} {fd : FuncData} (F : At g.K x st_11 f fd) (Ds : Defs g mg base (pg G 11) 11) : FnG g mg base (pat 11) (11 + 1) f (G 11) :=
  fnG_of (ps := ["_law_table_here", "_law_row"]) Ds F sc_11 (cc_11 G) (hb_11 F) (by rintro ds S Q X ⟨⟨_, _, _⟩, ⟨rfl, _⟩, _⟩; rfl) (w_11 G g.ns)
theorem hb_12 {K : PySem.W.Frag} {x : Str} {f : Addr} {fd : FuncData} (F : At K x st_12 f fd) : ∀ args us, Acc (pat 12) args us → us.length = (["_law_table_here", "_law_row", "_law_k"] : List Str).length → bindArgs fd args = pure ((["_law_table_here", "_law_row", "_law_k"] : List Str).zip us) := by
  obtain ⟨oc, od, kV, doc, pm, an, cdv, ct, osl, rfl, _⟩ := F.ex
  rintro args us (rfl | ⟨_, _, _, _, _, h, _⟩) hl
  · match us, hl with
    | [_, _, _], _ => rfl
  · cases h
theorem f_12 {g : Wd} {mg : Str → Option Value} {base : Heap} {x : Str} {f : Addr} {fd : FuncData} (F : At g.K x st_12 f fd) (Ds : Defs g mg base (pg G 12) 12) : FnG g mg base (pat 12) (12 + 1) f (G 12) :=
  fnG_of (ps := ["_law_table_here", "_law_row", "_law_k"]) Ds F sc_12 (cc_12 G) (hb_12 F) (by rintro ds S Q X ⟨⟨_, _, _, _, _, _, _⟩, ⟨rfl, _⟩, _⟩; rfl) (w_12 G g.ns)
theorem hb_13 {K : PySem.W.Frag} {x : Str} {f : Addr} {fd : FuncData} (F : At K x st_13 f fd) : ∀ args us, Acc (pat 13) args us → us.length = (["_law_table_here", "_law_row"] : List Str).length → bindArgs fd args = pure ((["_law_table_here", "_law_row"] : List Str).zip us) := by
  obtain ⟨oc, od, kV, doc, pm, an, cdv, ct, osl, rfl, _⟩ := F.ex
  rintro args us (rfl | ⟨_, _, _, _, _, h, _⟩) hl
  · match us, hl with
    | [_, _], _ => rfl
  · cases h
theorem f_13 {g : Wd} {mg : Str → Option Value} {base : Heap} {x : Str} {f : Addr} {fd : FuncData} (F : At g.K x st_13 f fd) (Ds : Defs g mg base (pg G 13) 13) : FnG g mg base (pat 13) (13 + 1) f (G 13) :=
  fnG_of (ps := ["_law_table_here", "_law_row"]) Ds F sc_13 (cc_13 G) (hb_13 F) (by rintro ds S Q X ⟨⟨_, _, _, _⟩, ⟨rfl, _⟩, _⟩; rfl) (w_13 G g.ns rfl rfl)
theorem hb_14 {K : PySem.W.Frag} {x : Str} {f : Addr} {fd : FuncData} (F : At K x st_14 f fd) : ∀ args us, Acc (pat 14) args us → us.length = (["_law_names_here", "_law_table_here"] : List Str).length → bindArgs fd args = pure ((["_law_names_here", "_law_table_here"] : List Str).zip us) := by
  obtain ⟨oc, od, kV, doc, pm, an, cdv, ct, osl, rfl, _⟩ := F.ex
  rintro args us (rfl | ⟨_, _, _, _, _, h, _⟩) hl
  · match us, hl with
    | [_, _], _ => rfl
  · cases h
theorem f_14 {g : Wd} {mg : Str → Option Value} {base : Heap} {x : Str} {f : Addr} {fd : FuncData} (F : At g.K x st_14 f fd) (Ds : Defs g mg base (pg G 14) 14) : FnG g mg base (pat 14) (14 + 1) f (G 14) :=
  fnG_of (ps := ["_law_names_here", "_law_table_here"]) Ds F sc_14 (cc_14 G) (hb_14 F) (by rintro ds S Q X ⟨⟨_, _, _, _⟩, ⟨rfl, _⟩, _⟩; rfl) (w_14 G g.ns rfl)
theorem hb_15 {K : PySem.W.Frag} {x : Str} {f : Addr} {fd : FuncData} (F : At K x st_15 f fd) : ∀ args us, Acc (pat 15) args us → us.length = (["_law_names_here"] : List Str).length → bindArgs fd args = pure ((["_law_names_here"] : List Str).zip us) := by
  obtain ⟨oc, od, kV, doc, pm, an, cdv, ct, osl, rfl, _⟩ := F.ex
  rintro args us (rfl | ⟨_, _, _, _, _, h, _⟩) hl
  · match us, hl with
    | [_], _ => rfl
  · cases h
theorem f_15 {g : Wd} {mg : Str → Option Value} {base : Heap} {x : Str} {f : Addr} {fd : FuncData} (F : At g.K x st_15 f fd) (Ds : Defs g mg base (pg G 15) 15) : FnG g mg base (pat 15) (15 + 1) f (G 15) :=
  fnG_of (ps := ["_law_names_here"]) Ds F sc_15 (cc_15 G) (hb_15 F) (by rintro ds S Q X ⟨_, ⟨rfl, _⟩, _⟩; rfl) (w_15 G g.ns)
theorem hb_16 {K : PySem.W.Frag} {x : Str} {f : Addr} {fd : FuncData} (F : At K x st_16 f fd) : ∀ args us, Acc (pat 16) args us → us.length = (["_law_names_here", "_law_table_here"] : List Str).length → bindArgs fd args = pure ((["_law_names_here", "_law_table_here"] : List Str).zip us) := by
  obtain ⟨oc, od, kV, doc, pm, an, cdv, ct, osl, rfl, _⟩ := F.ex
  rintro args us (rfl | ⟨_, _, _, _, _, h, _⟩) hl
  · match us, hl with
    | [_, _], _ => rfl
  · cases h
theorem f_16 {g : Wd} {mg : Str → Option Value} {base : Heap} {x : Str} {f : Addr} {fd : FuncData} (F : At g.K x st_16 f fd) (Ds : Defs g mg base (pg G 16) 16) : FnG g mg base (pat 16) (16 + 1) f (G 16) :=
  fnG_of (ps := ["_law_names_here", "_law_table_here"]) Ds F sc_16 (cc_16 G) (hb_16 F) (by rintro ds S Q X ⟨⟨_, _, _⟩, ⟨rfl, _⟩, _⟩; rfl) (w_16 G g.ns rfl)
theorem hb_17 {K : PySem.W.Frag} {x : Str} {f : Addr} {fd : FuncData} (F : At K x st_17 f fd) : ∀ args us, Acc (pat 17) args us → us.length = (["_law_names_here", "_law_some"] : List Str).length → bindArgs fd args = pure ((["_law_names_here", "_law_some"] : List Str).zip us) := by
  obtain ⟨oc, od, kV, doc, pm, an, cdv, ct, osl, rfl, _⟩ := F.ex
  rintro args us (rfl | ⟨_, _, _, _, _, h, _⟩) hl
  · match us, hl with
    | [_, _], _ => rfl
  · cases h
theorem f_17 {g : Wd} {mg : Str → Option Value} {base : Heap} {x : Str} {f : Addr} {fd : FuncData} (F : At g.K x st_17 f fd) (Ds : Defs g mg base (pg G 17) 17) : FnG g mg base (pat 17) (17 + 1) f (G 17) :=
  fnG_of (ps := ["_law_names_here", "_law_some"]) Ds F sc_17 (cc_17 G) (hb_17 F) (by rintro ds S Q X ⟨⟨_, _, _⟩, ⟨rfl, _⟩, _⟩; rfl) (w_17 G g.ns rfl)
theorem hb_18 {K : PySem.W.Frag} {x : Str} {f : Addr} {fd : FuncData} (F : At K x st_18 f fd) : ∀ args us, Acc (pat 18) args us → us.length = (["_law_names_here", "_law_many"] : List Str).length → bindArgs fd args = pure ((["_law_names_here", "_law_many"] : List Str).zip us) := by
  obtain ⟨oc, od, kV, doc, pm, an, cdv, ct, osl, rfl, _⟩ := F.ex
  rintro args us (rfl | ⟨_, _, _, _, _, h, _⟩) hl
  · match us, hl with
    | [_, _], _ => rfl
  · cases h
theorem f_18 {g : Wd} {mg : Str → Option Value} {base : Heap} {x : Str} {f : Addr} {fd : FuncData} (F : At g.K x st_18 f fd) (Ds : Defs g mg base (pg G 18) 18) : FnG g mg base (pat 18) (18 + 1) f (G 18) :=
  fnG_of (ps := ["_law_names_here", "_law_many"]) Ds F sc_18 (cc_18 G) (hb_18 F) (by rintro ds S Q X ⟨⟨_, _⟩, ⟨rfl, _⟩, _⟩; rfl) (w_18 G g.ns)
theorem hb_19 {K : PySem.W.Frag} {x : Str} {f : Addr} {fd : FuncData} (F : At K x st_19 f fd) : ∀ args us, Acc (pat 19) args us → us.length = (["_law_names_here", "_law_some"] : List Str).length → bindArgs fd args = pure ((["_law_names_here", "_law_some"] : List Str).zip us) := by
  obtain ⟨oc, od, kV, doc, pm, an, cdv, ct, osl, rfl, _⟩ := F.ex
  rintro args us (rfl | ⟨_, _, _, _, _, h, _⟩) hl
  · match us, hl with
    | [_, _], _ => rfl
  · cases h
theorem f_19 {g : Wd} {mg : Str → Option Value} {base : Heap} {x : Str} {f : Addr} {fd : FuncData} (F : At g.K x st_19 f fd) (Ds : Defs g mg base (pg G 19) 19) : FnG g mg base (pat 19) (19 + 1) f (G 19) :=
  fnG_of (ps := ["_law_names_here", "_law_some"]) Ds F sc_19 (cc_19 G) (hb_19 F) (by rintro ds S Q X ⟨⟨_, _⟩, ⟨rfl, _⟩, _⟩; rfl) (w_19 G g.ns rfl rfl rfl rfl)
theorem hb_20 {K : PySem.W.Frag} {x : Str} {f : Addr} {fd : FuncData} (F : At K x st_20 f fd) : ∀ args us, Acc (pat 20) args us → us.length = (["_law_deck_here"] : List Str).length → bindArgs fd args = pure ((["_law_deck_here"] : List Str).zip us) := by
  obtain ⟨oc, od, kV, doc, pm, an, cdv, ct, osl, rfl, _⟩ := F.ex
  rintro args us (rfl | ⟨_, _, _, _, _, h, _⟩) hl
  · match us, hl with
    | [_], _ => rfl
  · cases h
theorem f_20 {g : Wd} {mg : Str → Option Value} {base : Heap} {x : Str} {f : Addr} {fd : FuncData} (F : At g.K x st_20 f fd) (Ds : Defs g mg base (pg G 20) 20) : FnG g mg base (pat 20) (20 + 1) f (G 20) :=
  fnG_of (ps := ["_law_deck_here"]) Ds F sc_20 (cc_20 G) (hb_20 F) (by rintro ds S Q X ⟨⟨_, _, _⟩, ⟨rfl, _⟩, _⟩; rfl) (w_20 G g.ns rfl)
theorem hb_21 {K : PySem.W.Frag} {x : Str} {f : Addr} {fd : FuncData} (F : At K x st_21 f fd) : ∀ args us, Acc (pat 21) args us → us.length = (["_law_script"] : List Str).length → bindArgs fd args = pure ((["_law_script"] : List Str).zip us) := by
  obtain ⟨oc, od, kV, doc, pm, an, cdv, ct, osl, rfl, _⟩ := F.ex
  rintro args us (rfl | ⟨_, _, _, _, _, h, _⟩) hl
  · match us, hl with
    | [_], _ => rfl
  · cases h
theorem f_21 {g : Wd} {mg : Str → Option Value} {base : Heap} {x : Str} {f : Addr} {fd : FuncData} (F : At g.K x st_21 f fd) (Ds : Defs g mg base (pg G 21) 21) : FnG g mg base (pat 21) (21 + 1) f (G 21) :=
  fnG_of (ps := ["_law_script"]) Ds F sc_21 (cc_21 G) (hb_21 F) (by rintro ds S Q X ⟨_, rfl, _⟩; rfl) (w_21 G g.ns rfl rfl rfl rfl rfl rfl rfl rfl rfl rfl)
theorem all_mk {K : PySem.W.Frag} {h : Heap} {mg : Str → Option Value} {fa : Addr} (X : K.In h) (GN : h.Ns mainGlobals mg) (hfa : mg "law" = some (.ref fa))
    {fa_0 : Addr} {od_0 an_0 : Option Addr} {sl_0 : Array (Option Value)} {oc_0 kV_0 dc_0 pm_0 cd_0 ct_0 : Value} (a_0 : PySem.W.nsIn K mainGlobals "table_of" = some (some (.ref fa_0))) (l_0 : K.lookup fa_0 = some ⟨oc_0, od_0, .func (PySem.W.fnOf "table_of" "table_of" (dArgs st_0) (dBody st_0) (dScope st_0) .none kV_0 dc_0 pm_0 an_0 cd_0 ct_0), sl_0⟩) (c_0 : PySem.W.codeIn K cd_0 "table_of" = true) (k_0 : PySem.W.keepIn K (.ref fa_0) = true)
    {fa_1 : Addr} {od_1 an_1 : Option Addr} {sl_1 : Array (Option Value)} {oc_1 kV_1 dc_1 pm_1 cd_1 ct_1 : Value} (a_1 : PySem.W.nsIn K mainGlobals "put_behind" = some (some (.ref fa_1))) (l_1 : K.lookup fa_1 = some ⟨oc_1, od_1, .func (PySem.W.fnOf "put_behind" "put_behind" (dArgs st_1) (dBody st_1) (dScope st_1) .none kV_1 dc_1 pm_1 an_1 cd_1 ct_1), sl_1⟩) (c_1 : PySem.W.codeIn K cd_1 "put_behind" = true) (k_1 : PySem.W.keepIn K (.ref fa_1) = true)
    {fa_2 : Addr} {od_2 an_2 : Option Addr} {sl_2 : Array (Option Value)} {oc_2 kV_2 dc_2 pm_2 cd_2 ct_2 : Value} (a_2 : PySem.W.nsIn K mainGlobals "net_by" = some (some (.ref fa_2))) (l_2 : K.lookup fa_2 = some ⟨oc_2, od_2, .func (PySem.W.fnOf "net_by" "net_by" (dArgs st_2) (dBody st_2) (dScope st_2) .none kV_2 dc_2 pm_2 an_2 cd_2 ct_2), sl_2⟩) (c_2 : PySem.W.codeIn K cd_2 "net_by" = true) (k_2 : PySem.W.keepIn K (.ref fa_2) = true)
    {fa_3 : Addr} {od_3 an_3 : Option Addr} {sl_3 : Array (Option Value)} {oc_3 kV_3 dc_3 pm_3 cd_3 ct_3 : Value} (a_3 : PySem.W.nsIn K mainGlobals "has_clash" = some (some (.ref fa_3))) (l_3 : K.lookup fa_3 = some ⟨oc_3, od_3, .func (PySem.W.fnOf "has_clash" "has_clash" (dArgs st_3) (dBody st_3) (dScope st_3) .none kV_3 dc_3 pm_3 an_3 cd_3 ct_3), sl_3⟩) (c_3 : PySem.W.codeIn K cd_3 "has_clash" = true) (k_3 : PySem.W.keepIn K (.ref fa_3) = true)
    {fa_4 : Addr} {od_4 an_4 : Option Addr} {sl_4 : Array (Option Value)} {oc_4 kV_4 dc_4 pm_4 cd_4 ct_4 : Value} (a_4 : PySem.W.nsIn K mainGlobals "least_clash" = some (some (.ref fa_4))) (l_4 : K.lookup fa_4 = some ⟨oc_4, od_4, .func (PySem.W.fnOf "least_clash" "least_clash" (dArgs st_4) (dBody st_4) (dScope st_4) .none kV_4 dc_4 pm_4 an_4 cd_4 ct_4), sl_4⟩) (c_4 : PySem.W.codeIn K cd_4 "least_clash" = true) (k_4 : PySem.W.keepIn K (.ref fa_4) = true)
    {fa_5 : Addr} {od_5 an_5 : Option Addr} {sl_5 : Array (Option Value)} {oc_5 kV_5 dc_5 pm_5 cd_5 ct_5 : Value} (a_5 : PySem.W.nsIn K mainGlobals "clash_of" = some (some (.ref fa_5))) (l_5 : K.lookup fa_5 = some ⟨oc_5, od_5, .func (PySem.W.fnOf "clash_of" "clash_of" (dArgs st_5) (dBody st_5) (dScope st_5) .none kV_5 dc_5 pm_5 an_5 cd_5 ct_5), sl_5⟩) (c_5 : PySem.W.codeIn K cd_5 "clash_of" = true) (k_5 : PySem.W.keepIn K (.ref fa_5) = true)
    {fa_6 : Addr} {od_6 an_6 : Option Addr} {sl_6 : Array (Option Value)} {oc_6 kV_6 dc_6 pm_6 cd_6 ct_6 : Value} (a_6 : PySem.W.nsIn K mainGlobals "_law_deck" = some (some (.ref fa_6))) (l_6 : K.lookup fa_6 = some ⟨oc_6, od_6, .func (PySem.W.fnOf "_law_deck" "_law_deck" (dArgs st_6) (dBody st_6) (dScope st_6) .none kV_6 dc_6 pm_6 an_6 cd_6 ct_6), sl_6⟩) (c_6 : PySem.W.codeIn K cd_6 "_law_deck" = true) (k_6 : PySem.W.keepIn K (.ref fa_6) = true)
    {fa_7 : Addr} {od_7 an_7 : Option Addr} {sl_7 : Array (Option Value)} {oc_7 kV_7 dc_7 pm_7 cd_7 ct_7 : Value} (a_7 : PySem.W.nsIn K mainGlobals "_law_draw" = some (some (.ref fa_7))) (l_7 : K.lookup fa_7 = some ⟨oc_7, od_7, .func (PySem.W.fnOf "_law_draw" "_law_draw" (dArgs st_7) (dBody st_7) (dScope st_7) .none kV_7 dc_7 pm_7 an_7 cd_7 ct_7), sl_7⟩) (c_7 : PySem.W.codeIn K cd_7 "_law_draw" = true) (k_7 : PySem.W.keepIn K (.ref fa_7) = true)
    {fa_8 : Addr} {od_8 an_8 : Option Addr} {sl_8 : Array (Option Value)} {oc_8 kV_8 dc_8 pm_8 cd_8 ct_8 : Value} (a_8 : PySem.W.nsIn K mainGlobals "_law_pick" = some (some (.ref fa_8))) (l_8 : K.lookup fa_8 = some ⟨oc_8, od_8, .func (PySem.W.fnOf "_law_pick" "_law_pick" (dArgs st_8) (dBody st_8) (dScope st_8) .none kV_8 dc_8 pm_8 an_8 cd_8 ct_8), sl_8⟩) (c_8 : PySem.W.codeIn K cd_8 "_law_pick" = true) (k_8 : PySem.W.keepIn K (.ref fa_8) = true)
    {fa_9 : Addr} {od_9 an_9 : Option Addr} {sl_9 : Array (Option Value)} {oc_9 kV_9 dc_9 pm_9 cd_9 ct_9 : Value} (a_9 : PySem.W.nsIn K mainGlobals "_law_names" = some (some (.ref fa_9))) (l_9 : K.lookup fa_9 = some ⟨oc_9, od_9, .func (PySem.W.fnOf "_law_names" "_law_names" (dArgs st_9) (dBody st_9) (dScope st_9) .none kV_9 dc_9 pm_9 an_9 cd_9 ct_9), sl_9⟩) (c_9 : PySem.W.codeIn K cd_9 "_law_names" = true) (k_9 : PySem.W.keepIn K (.ref fa_9) = true)
    {fa_10 : Addr} {od_10 an_10 : Option Addr} {sl_10 : Array (Option Value)} {oc_10 kV_10 dc_10 pm_10 cd_10 ct_10 : Value} (a_10 : PySem.W.nsIn K mainGlobals "_law_table" = some (some (.ref fa_10))) (l_10 : K.lookup fa_10 = some ⟨oc_10, od_10, .func (PySem.W.fnOf "_law_table" "_law_table" (dArgs st_10) (dBody st_10) (dScope st_10) .none kV_10 dc_10 pm_10 an_10 cd_10 ct_10), sl_10⟩) (c_10 : PySem.W.codeIn K cd_10 "_law_table" = true) (k_10 : PySem.W.keepIn K (.ref fa_10) = true)
    {fa_11 : Addr} {od_11 an_11 : Option Addr} {sl_11 : Array (Option Value)} {oc_11 kV_11 dc_11 pm_11 cd_11 ct_11 : Value} (a_11 : PySem.W.nsIn K mainGlobals "_law_spots" = some (some (.ref fa_11))) (l_11 : K.lookup fa_11 = some ⟨oc_11, od_11, .func (PySem.W.fnOf "_law_spots" "_law_spots" (dArgs st_11) (dBody st_11) (dScope st_11) .none kV_11 dc_11 pm_11 an_11 cd_11 ct_11), sl_11⟩) (c_11 : PySem.W.codeIn K cd_11 "_law_spots" = true) (k_11 : PySem.W.keepIn K (.ref fa_11) = true)
    {fa_12 : Addr} {od_12 an_12 : Option Addr} {sl_12 : Array (Option Value)} {oc_12 kV_12 dc_12 pm_12 cd_12 ct_12 : Value} (a_12 : PySem.W.nsIn K mainGlobals "_law_once" = some (some (.ref fa_12))) (l_12 : K.lookup fa_12 = some ⟨oc_12, od_12, .func (PySem.W.fnOf "_law_once" "_law_once" (dArgs st_12) (dBody st_12) (dScope st_12) .none kV_12 dc_12 pm_12 an_12 cd_12 ct_12), sl_12⟩) (c_12 : PySem.W.codeIn K cd_12 "_law_once" = true) (k_12 : PySem.W.keepIn K (.ref fa_12) = true)
    {fa_13 : Addr} {od_13 an_13 : Option Addr} {sl_13 : Array (Option Value)} {oc_13 kV_13 dc_13 pm_13 cd_13 ct_13 : Value} (a_13 : PySem.W.nsIn K mainGlobals "_law_ends" = some (some (.ref fa_13))) (l_13 : K.lookup fa_13 = some ⟨oc_13, od_13, .func (PySem.W.fnOf "_law_ends" "_law_ends" (dArgs st_13) (dBody st_13) (dScope st_13) .none kV_13 dc_13 pm_13 an_13 cd_13 ct_13), sl_13⟩) (c_13 : PySem.W.codeIn K cd_13 "_law_ends" = true) (k_13 : PySem.W.keepIn K (.ref fa_13) = true)
    {fa_14 : Addr} {od_14 an_14 : Option Addr} {sl_14 : Array (Option Value)} {oc_14 kV_14 dc_14 pm_14 cd_14 ct_14 : Value} (a_14 : PySem.W.nsIn K mainGlobals "_law_clash" = some (some (.ref fa_14))) (l_14 : K.lookup fa_14 = some ⟨oc_14, od_14, .func (PySem.W.fnOf "_law_clash" "_law_clash" (dArgs st_14) (dBody st_14) (dScope st_14) .none kV_14 dc_14 pm_14 an_14 cd_14 ct_14), sl_14⟩) (c_14 : PySem.W.codeIn K cd_14 "_law_clash" = true) (k_14 : PySem.W.keepIn K (.ref fa_14) = true)
    {fa_15 : Addr} {od_15 an_15 : Option Addr} {sl_15 : Array (Option Value)} {oc_15 kV_15 dc_15 pm_15 cd_15 ct_15 : Value} (a_15 : PySem.W.nsIn K mainGlobals "_law_pairs" = some (some (.ref fa_15))) (l_15 : K.lookup fa_15 = some ⟨oc_15, od_15, .func (PySem.W.fnOf "_law_pairs" "_law_pairs" (dArgs st_15) (dBody st_15) (dScope st_15) .none kV_15 dc_15 pm_15 an_15 cd_15 ct_15), sl_15⟩) (c_15 : PySem.W.codeIn K cd_15 "_law_pairs" = true) (k_15 : PySem.W.keepIn K (.ref fa_15) = true)
    {fa_16 : Addr} {od_16 an_16 : Option Addr} {sl_16 : Array (Option Value)} {oc_16 kV_16 dc_16 pm_16 cd_16 ct_16 : Value} (a_16 : PySem.W.nsIn K mainGlobals "_law_rules" = some (some (.ref fa_16))) (l_16 : K.lookup fa_16 = some ⟨oc_16, od_16, .func (PySem.W.fnOf "_law_rules" "_law_rules" (dArgs st_16) (dBody st_16) (dScope st_16) .none kV_16 dc_16 pm_16 an_16 cd_16 ct_16), sl_16⟩) (c_16 : PySem.W.codeIn K cd_16 "_law_rules" = true) (k_16 : PySem.W.keepIn K (.ref fa_16) = true)
    {fa_17 : Addr} {od_17 an_17 : Option Addr} {sl_17 : Array (Option Value)} {oc_17 kV_17 dc_17 pm_17 cd_17 ct_17 : Value} (a_17 : PySem.W.nsIn K mainGlobals "_law_asked" = some (some (.ref fa_17))) (l_17 : K.lookup fa_17 = some ⟨oc_17, od_17, .func (PySem.W.fnOf "_law_asked" "_law_asked" (dArgs st_17) (dBody st_17) (dScope st_17) .none kV_17 dc_17 pm_17 an_17 cd_17 ct_17), sl_17⟩) (c_17 : PySem.W.codeIn K cd_17 "_law_asked" = true) (k_17 : PySem.W.keepIn K (.ref fa_17) = true)
    {fa_18 : Addr} {od_18 an_18 : Option Addr} {sl_18 : Array (Option Value)} {oc_18 kV_18 dc_18 pm_18 cd_18 ct_18 : Value} (a_18 : PySem.W.nsIn K mainGlobals "_law_rows" = some (some (.ref fa_18))) (l_18 : K.lookup fa_18 = some ⟨oc_18, od_18, .func (PySem.W.fnOf "_law_rows" "_law_rows" (dArgs st_18) (dBody st_18) (dScope st_18) .none kV_18 dc_18 pm_18 an_18 cd_18 ct_18), sl_18⟩) (c_18 : PySem.W.codeIn K cd_18 "_law_rows" = true) (k_18 : PySem.W.keepIn K (.ref fa_18) = true)
    {fa_19 : Addr} {od_19 an_19 : Option Addr} {sl_19 : Array (Option Value)} {oc_19 kV_19 dc_19 pm_19 cd_19 ct_19 : Value} (a_19 : PySem.W.nsIn K mainGlobals "_law_right" = some (some (.ref fa_19))) (l_19 : K.lookup fa_19 = some ⟨oc_19, od_19, .func (PySem.W.fnOf "_law_right" "_law_right" (dArgs st_19) (dBody st_19) (dScope st_19) .none kV_19 dc_19 pm_19 an_19 cd_19 ct_19), sl_19⟩) (c_19 : PySem.W.codeIn K cd_19 "_law_right" = true) (k_19 : PySem.W.keepIn K (.ref fa_19) = true)
    {fa_20 : Addr} {od_20 an_20 : Option Addr} {sl_20 : Array (Option Value)} {oc_20 kV_20 dc_20 pm_20 cd_20 ct_20 : Value} (a_20 : PySem.W.nsIn K mainGlobals "_law_by_hand" = some (some (.ref fa_20))) (l_20 : K.lookup fa_20 = some ⟨oc_20, od_20, .func (PySem.W.fnOf "_law_by_hand" "_law_by_hand" (dArgs st_20) (dBody st_20) (dScope st_20) .none kV_20 dc_20 pm_20 an_20 cd_20 ct_20), sl_20⟩) (c_20 : PySem.W.codeIn K cd_20 "_law_by_hand" = true) (k_20 : PySem.W.keepIn K (.ref fa_20) = true)
    {fa_21 : Addr} {od_21 an_21 : Option Addr} {sl_21 : Array (Option Value)} {oc_21 kV_21 dc_21 pm_21 cd_21 ct_21 : Value} (a_21 : PySem.W.nsIn K mainGlobals "law" = some (some (.ref fa_21))) (l_21 : K.lookup fa_21 = some ⟨oc_21, od_21, .func (PySem.W.fnOf "law" "law" (dArgs st_21) (dBody st_21) (dScope st_21) .none kV_21 dc_21 pm_21 an_21 cd_21 ct_21), sl_21⟩) (c_21 : PySem.W.codeIn K cd_21 "law" = true) (k_21 : PySem.W.keepIn K (.ref fa_21) = true)
    (z_0 : PySem.W.nsIn K mainGlobals "len" = some none) (z_1 : PySem.W.nsIn K mainGlobals "sorted" = some none) (z_2 : PySem.W.nsIn K mainGlobals "repr" = some none) (z_3 : PySem.W.nsIn K mainGlobals "list" = some none) (z_4 : PySem.W.nsIn K mainGlobals "tuple" = some none) (z_5 : PySem.W.nsIn K mainGlobals "str" = some none) (z_6 : PySem.W.nsIn K mainGlobals "int" = some none) (z_7 : PySem.W.nsIn K mainGlobals "dict" = some none) (z_8 : PySem.W.nsIn K mainGlobals "range" = some none)
    : ∀ (P : Program) (w : World) (a : Addr) (ns : List Int) (base : Heap), ∃ sp : Lf.Sp, FnG ⟨P, w, K, a, ns⟩ mg base [] 22 fa sp ∧ sp.wp [.scr] [] (fun d _ => d = .bl true) never := by
  intro P w a ns base
  have e := hfa.symm.trans (PySem.W.mg_of X GN a_21)
  cases e
  have D0 : Defs ⟨P, w, K, a, ns⟩ mg base (pg G 0) 0 := by
    refine ⟨fun f x hf => by simp [fns] at hf, fun x hx => ?_⟩
    have hx : x ∈ bn := hx
    simp only [bn, List.mem_cons, List.not_mem_nil, or_false] at hx
    rcases hx with rfl | rfl | rfl | rfl | rfl | rfl | rfl | rfl | rfl
    · exact PySem.W.mg_none_of X GN z_0
    · exact PySem.W.mg_none_of X GN z_1
    · exact PySem.W.mg_none_of X GN z_2
    · exact PySem.W.mg_none_of X GN z_3
    · exact PySem.W.mg_none_of X GN z_4
    · exact PySem.W.mg_none_of X GN z_5
    · exact PySem.W.mg_none_of X GN z_6
    · exact PySem.W.mg_none_of X GN z_7
    · exact PySem.W.mg_none_of X GN z_8
  have A0 : At K "table_of" st_0 fa_0 _ := ⟨⟨_, _, _, _, _, _, _, _, _, rfl, l_0, c_0⟩, k_0⟩
  have D1 := defs_succ D0 rfl (PySem.W.mg_of X GN a_0) k_0 (f_0 (g := ⟨P, w, K, a, ns⟩) A0 D0)
  have A1 : At K "put_behind" st_1 fa_1 _ := ⟨⟨_, _, _, _, _, _, _, _, _, rfl, l_1, c_1⟩, k_1⟩
  have D2 := defs_succ D1 rfl (PySem.W.mg_of X GN a_1) k_1 (f_1 (g := ⟨P, w, K, a, ns⟩) A1 D1)
  have A2 : At K "net_by" st_2 fa_2 _ := ⟨⟨_, _, _, _, _, _, _, _, _, rfl, l_2, c_2⟩, k_2⟩
  have D3 := defs_succ D2 rfl (PySem.W.mg_of X GN a_2) k_2 (f_2 (g := ⟨P, w, K, a, ns⟩) A2 D2)
  have A3 : At K "has_clash" st_3 fa_3 _ := ⟨⟨_, _, _, _, _, _, _, _, _, rfl, l_3, c_3⟩, k_3⟩
  have D4 := defs_succ D3 rfl (PySem.W.mg_of X GN a_3) k_3 (f_3 (g := ⟨P, w, K, a, ns⟩) A3 D3)
  have A4 : At K "least_clash" st_4 fa_4 _ := ⟨⟨_, _, _, _, _, _, _, _, _, rfl, l_4, c_4⟩, k_4⟩
  have D5 := defs_succ D4 rfl (PySem.W.mg_of X GN a_4) k_4 (f_4 (g := ⟨P, w, K, a, ns⟩) A4 D4)
  have A5 : At K "clash_of" st_5 fa_5 _ := ⟨⟨_, _, _, _, _, _, _, _, _, rfl, l_5, c_5⟩, k_5⟩
  have D6 := defs_succ D5 rfl (PySem.W.mg_of X GN a_5) k_5 (f_5 (g := ⟨P, w, K, a, ns⟩) A5 D5)
  have A6 : At K "_law_deck" st_6 fa_6 _ := ⟨⟨_, _, _, _, _, _, _, _, _, rfl, l_6, c_6⟩, k_6⟩
  have D7 := defs_succ D6 rfl (PySem.W.mg_of X GN a_6) k_6 (f_6 (g := ⟨P, w, K, a, ns⟩) A6 D6)
  have A7 : At K "_law_draw" st_7 fa_7 _ := ⟨⟨_, _, _, _, _, _, _, _, _, rfl, l_7, c_7⟩, k_7⟩
  have D8 := defs_succ D7 rfl (PySem.W.mg_of X GN a_7) k_7 (f_7 (g := ⟨P, w, K, a, ns⟩) A7 D7)
  have A8 : At K "_law_pick" st_8 fa_8 _ := ⟨⟨_, _, _, _, _, _, _, _, _, rfl, l_8, c_8⟩, k_8⟩
  have D9 := defs_succ D8 rfl (PySem.W.mg_of X GN a_8) k_8 (f_8 (g := ⟨P, w, K, a, ns⟩) A8 D8)
  have A9 : At K "_law_names" st_9 fa_9 _ := ⟨⟨_, _, _, _, _, _, _, _, _, rfl, l_9, c_9⟩, k_9⟩
  have D10 := defs_succ D9 rfl (PySem.W.mg_of X GN a_9) k_9 (f_9 (g := ⟨P, w, K, a, ns⟩) A9 D9)
  have A10 : At K "_law_table" st_10 fa_10 _ := ⟨⟨_, _, _, _, _, _, _, _, _, rfl, l_10, c_10⟩, k_10⟩
  have D11 := defs_succ D10 rfl (PySem.W.mg_of X GN a_10) k_10 (f_10 (g := ⟨P, w, K, a, ns⟩) A10 D10)
  have A11 : At K "_law_spots" st_11 fa_11 _ := ⟨⟨_, _, _, _, _, _, _, _, _, rfl, l_11, c_11⟩, k_11⟩
  have D12 := defs_succ D11 rfl (PySem.W.mg_of X GN a_11) k_11 (f_11 (g := ⟨P, w, K, a, ns⟩) A11 D11)
  have A12 : At K "_law_once" st_12 fa_12 _ := ⟨⟨_, _, _, _, _, _, _, _, _, rfl, l_12, c_12⟩, k_12⟩
  have D13 := defs_succ D12 rfl (PySem.W.mg_of X GN a_12) k_12 (f_12 (g := ⟨P, w, K, a, ns⟩) A12 D12)
  have A13 : At K "_law_ends" st_13 fa_13 _ := ⟨⟨_, _, _, _, _, _, _, _, _, rfl, l_13, c_13⟩, k_13⟩
  have D14 := defs_succ D13 rfl (PySem.W.mg_of X GN a_13) k_13 (f_13 (g := ⟨P, w, K, a, ns⟩) A13 D13)
  have A14 : At K "_law_clash" st_14 fa_14 _ := ⟨⟨_, _, _, _, _, _, _, _, _, rfl, l_14, c_14⟩, k_14⟩
  have D15 := defs_succ D14 rfl (PySem.W.mg_of X GN a_14) k_14 (f_14 (g := ⟨P, w, K, a, ns⟩) A14 D14)
  have A15 : At K "_law_pairs" st_15 fa_15 _ := ⟨⟨_, _, _, _, _, _, _, _, _, rfl, l_15, c_15⟩, k_15⟩
  have D16 := defs_succ D15 rfl (PySem.W.mg_of X GN a_15) k_15 (f_15 (g := ⟨P, w, K, a, ns⟩) A15 D15)
  have A16 : At K "_law_rules" st_16 fa_16 _ := ⟨⟨_, _, _, _, _, _, _, _, _, rfl, l_16, c_16⟩, k_16⟩
  have D17 := defs_succ D16 rfl (PySem.W.mg_of X GN a_16) k_16 (f_16 (g := ⟨P, w, K, a, ns⟩) A16 D16)
  have A17 : At K "_law_asked" st_17 fa_17 _ := ⟨⟨_, _, _, _, _, _, _, _, _, rfl, l_17, c_17⟩, k_17⟩
  have D18 := defs_succ D17 rfl (PySem.W.mg_of X GN a_17) k_17 (f_17 (g := ⟨P, w, K, a, ns⟩) A17 D17)
  have A18 : At K "_law_rows" st_18 fa_18 _ := ⟨⟨_, _, _, _, _, _, _, _, _, rfl, l_18, c_18⟩, k_18⟩
  have D19 := defs_succ D18 rfl (PySem.W.mg_of X GN a_18) k_18 (f_18 (g := ⟨P, w, K, a, ns⟩) A18 D18)
  have A19 : At K "_law_right" st_19 fa_19 _ := ⟨⟨_, _, _, _, _, _, _, _, _, rfl, l_19, c_19⟩, k_19⟩
  have D20 := defs_succ D19 rfl (PySem.W.mg_of X GN a_19) k_19 (f_19 (g := ⟨P, w, K, a, ns⟩) A19 D19)
  have A20 : At K "_law_by_hand" st_20 fa_20 _ := ⟨⟨_, _, _, _, _, _, _, _, _, rfl, l_20, c_20⟩, k_20⟩
  have D21 := defs_succ D20 rfl (PySem.W.mg_of X GN a_20) k_20 (f_20 (g := ⟨P, w, K, a, ns⟩) A20 D20)
  have A21 : At K "law" st_21 fa _ := ⟨⟨_, _, _, _, _, _, _, _, _, rfl, l_21, c_21⟩, k_21⟩
  exact ⟨G 21, f_21 (g := ⟨P, w, K, a, ns⟩) A21 D21, (), rfl, fun d S h => h⟩
end K03
open PySem PySem.W PyProof.Rows
set_option maxRecDepth 100000 in
set_option maxHeartbeats 0 in
theorem PySem.Challenge.cw_logfolds_k03_clashes_beside_all_orders_holds : PySem.Challenge.rw_logfolds_k03_clashes_beside_all_orders.Holds := by
  w_on; o_law; k_head; (case hw => w_witness2)
  k_fill
  refine Lf.head_of (l := PySem.Challenge.rw_logfolds_k03_clashes_beside_all_orders) (n := 63) (k := 22) rfl (by decide) rfl ⟨rfl, by decide, by decide⟩ (fun w h Y => PySem.W.kIn_of Y) ?F
  case F =>
    intro w mg fa h KX GN hmg a ns _ _ base _ _
    refine' K03.all_mk KX GN hmg ?a_0 ?l_0 ?c_0 ?k_0 ?a_1 ?l_1 ?c_1 ?k_1 ?a_2 ?l_2 ?c_2 ?k_2 ?a_3 ?l_3 ?c_3 ?k_3 ?a_4 ?l_4 ?c_4 ?k_4 ?a_5 ?l_5 ?c_5 ?k_5 ?a_6 ?l_6 ?c_6 ?k_6 ?a_7 ?l_7 ?c_7 ?k_7 ?a_8 ?l_8 ?c_8 ?k_8 ?a_9 ?l_9 ?c_9 ?k_9 ?a_10 ?l_10 ?c_10 ?k_10 ?a_11 ?l_11 ?c_11 ?k_11 ?a_12 ?l_12 ?c_12 ?k_12 ?a_13 ?l_13 ?c_13 ?k_13 ?a_14 ?l_14 ?c_14 ?k_14 ?a_15 ?l_15 ?c_15 ?k_15 ?a_16 ?l_16 ?c_16 ?k_16 ?a_17 ?l_17 ?c_17 ?k_17 ?a_18 ?l_18 ?c_18 ?k_18 ?a_19 ?l_19 ?c_19 ?k_19 ?a_20 ?l_20 ?c_20 ?k_20 ?a_21 ?l_21 ?c_21 ?k_21 ?z_0 ?z_1 ?z_2 ?z_3 ?z_4 ?z_5 ?z_6 ?z_7 ?z_8 _ _ a ns base
    (case a_0 => k_is); (case l_0 => k_is); (case c_0 => k_is); (case k_0 => k_is)
    (case a_1 => k_is); (case l_1 => k_is); (case c_1 => k_is); (case k_1 => k_is)
    (case a_2 => k_is); (case l_2 => k_is); (case c_2 => k_is); (case k_2 => k_is)
    (case a_3 => k_is); (case l_3 => k_is); (case c_3 => k_is); (case k_3 => k_is)
    (case a_4 => k_is); (case l_4 => k_is); (case c_4 => k_is); (case k_4 => k_is)
    (case a_5 => k_is); (case l_5 => k_is); (case c_5 => k_is); (case k_5 => k_is)
    (case a_6 => k_is); (case l_6 => k_is); (case c_6 => k_is); (case k_6 => k_is)
    (case a_7 => k_is); (case l_7 => k_is); (case c_7 => k_is); (case k_7 => k_is)
    (case a_8 => k_is); (case l_8 => k_is); (case c_8 => k_is); (case k_8 => k_is)
    (case a_9 => k_is); (case l_9 => k_is); (case c_9 => k_is); (case k_9 => k_is)
    (case a_10 => k_is); (case l_10 => k_is); (case c_10 => k_is); (case k_10 => k_is)
    (case a_11 => k_is); (case l_11 => k_is); (case c_11 => k_is); (case k_11 => k_is)
    (case a_12 => k_is); (case l_12 => k_is); (case c_12 => k_is); (case k_12 => k_is)
    (case a_13 => k_is); (case l_13 => k_is); (case c_13 => k_is); (case k_13 => k_is)
    (case a_14 => k_is); (case l_14 => k_is); (case c_14 => k_is); (case k_14 => k_is)
    (case a_15 => k_is); (case l_15 => k_is); (case c_15 => k_is); (case k_15 => k_is)
    (case a_16 => k_is); (case l_16 => k_is); (case c_16 => k_is); (case k_16 => k_is)
    (case a_17 => k_is); (case l_17 => k_is); (case c_17 => k_is); (case k_17 => k_is)
    (case a_18 => k_is); (case l_18 => k_is); (case c_18 => k_is); (case k_18 => k_is)
    (case a_19 => k_is); (case l_19 => k_is); (case c_19 => k_is); (case k_19 => k_is)
    (case a_20 => k_is); (case l_20 => k_is); (case c_20 => k_is); (case k_20 => k_is)
    (case a_21 => k_is); (case l_21 => k_is); (case c_21 => k_is); (case k_21 => k_is)
    (case z_0 => k_is); (case z_1 => k_is); (case z_2 => k_is); (case z_3 => k_is); (case z_4 => k_is); (case z_5 => k_is); (case z_6 => k_is); (case z_7 => k_is); (case z_8 => k_is)
#print axioms PySem.Challenge.cw_logfolds_k03_clashes_beside_all_orders_holds

