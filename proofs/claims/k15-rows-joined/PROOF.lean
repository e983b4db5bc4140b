import PyProof.Rows.All
import Wide.All
import OpenK.AllK
import Wide.FinOn
import HandS.ForMost
import HandS.Exc
import HandS.ExcOwn
import HandS.WordsExc
import HandS.TupAny
import HandS.Defaults
import HandS.Flow
import HandS.Head0
import HandS.Head1
import HandS.Head2
import HandS.HeadEnd
import HandS.HeadHook1
import HandS.HeadHook2
import HandS.Ends
import HandS.EndBits
import PySem.Challenge.RW_growntexts_k15_rows_joined
import PyProof.StrLawsRepr
import PyProof.P3Eq
section
set_option Elab.async false
set_option linter.all false
set_option maxRecDepth 100000
/-! Di: a small interpreter over data values and a store -/
namespace Di
abbrev Tx := List Nat
inductive D where
  | non
  | bl (b : Bool)
  | int (i : Int)
  | str (s : Tx)
  | tup (ds : List D)
  | ref (i : Nat)
inductive MO where
  | lst (xs : List D)
  | rol (xs : List D)
  | dct (kvs : List (D × D))
  | ins (c : Nat) (fs : List (Nat × D))
inductive Tr where
  | nil
  | node (v : Option MO) (l r : Tr)
def Tr.get : Tr → Nat → Option MO
  | .nil, _ => none
  | .node v _ _, 0 => v
  | .node _ l r, k + 1 => cond (Nat.beq (k % 2) 0) (l.get (k / 2)) (r.get (k / 2))
def Tr.put : Nat → Tr → Nat → MO → Tr
  | 0, t, _, _ => t
  | _ + 1, .nil, 0, o => .node (some o) .nil .nil
  | _ + 1, .node _ l r, 0, o => .node (some o) l r
  | f + 1, .nil, k + 1, o => cond (Nat.beq (k % 2) 0) (.node none (Tr.put f .nil (k / 2) o) .nil) (.node none .nil (Tr.put f .nil (k / 2) o))
  | f + 1, .node v l r, k + 1, o => cond (Nat.beq (k % 2) 0) (.node v (Tr.put f l (k / 2) o) r) (.node v l (Tr.put f r (k / 2) o))
theorem half_inj {j k : Nat} (h1 : j % 2 = k % 2) (h2 : j / 2 = k / 2) : j = k := by omega
theorem Tr.get_nil (k : Nat) : Tr.get .nil k = none := by unfold Tr.get; rfl
theorem Tr.put_get : ∀ (f : Nat) (t : Tr) (k j : Nat) (o : MO), k < f → Tr.get (Tr.put f t k o) j = if j = k then some o else Tr.get t j := by
  intro f
  induction f with
  | zero => intro t k j o h; omega
  | succ f ih =>
    intro t k j o h
    cases k with
    | zero =>
      cases t with
      | nil => cases j with
        | zero => rfl
        | succ j =>
          show cond _ (Tr.get .nil _) (Tr.get .nil _) = _
          rw [Tr.get_nil, Tr.get_nil, if_neg (by omega)]
          cases Nat.beq (j % 2) 0 <;> rfl
      | node v l r => cases j with
        | zero => rfl
        | succ j => rw [if_neg (by omega)]; rfl
    | succ k =>
      have hk : k / 2 < f := by omega
      have key : ∀ (v : Option MO) (l r : Tr), Tr.get (cond (Nat.beq (k % 2) 0) (.node v (Tr.put f l (k / 2) o) r) (.node v l (Tr.put f r (k / 2) o))) j = if j = k + 1 then some o else Tr.get (.node v l r) j := by
        intro v l r
        cases j with
        | zero =>
          rw [if_neg (by omega)]
          cases Nat.beq (k % 2) 0 <;> rfl
        | succ j =>
          simp only [Nat.add_right_cancel_iff]
          cases ek : Nat.beq (k % 2) 0 with
          | true =>
            have k0 : k % 2 = 0 := Nat.eq_of_beq_eq_true ek
            show cond (Nat.beq (j % 2) 0) (Tr.get (Tr.put f l (k / 2) o) (j / 2)) (Tr.get r (j / 2)) = if j = k then some o else cond (Nat.beq (j % 2) 0) (Tr.get l (j / 2)) (Tr.get r (j / 2))
            rw [ih l (k / 2) (j / 2) o hk]
            cases ej : Nat.beq (j % 2) 0 with
            | true =>
              have j0 : j % 2 = 0 := Nat.eq_of_beq_eq_true ej
              show (if j / 2 = k / 2 then some o else Tr.get l (j / 2)) = if j = k then some o else Tr.get l (j / 2)
              by_cases hjk : j = k
              · rw [if_pos hjk, if_pos (by rw [hjk])]
              · rw [if_neg hjk, if_neg (fun q => hjk (half_inj (by omega) q))]
            | false =>
              show Tr.get r (j / 2) = if j = k then some o else Tr.get r (j / 2)
              rw [if_neg]
              intro q
              rw [q, ek] at ej
              cases ej
          | false =>
            show cond (Nat.beq (j % 2) 0) (Tr.get l (j / 2)) (Tr.get (Tr.put f r (k / 2) o) (j / 2)) = if j = k then some o else cond (Nat.beq (j % 2) 0) (Tr.get l (j / 2)) (Tr.get r (j / 2))
            rw [ih r (k / 2) (j / 2) o hk]
            cases ej : Nat.beq (j % 2) 0 with
            | true =>
              show Tr.get l (j / 2) = if j = k then some o else Tr.get l (j / 2)
              rw [if_neg]
              intro q
              rw [q, ek] at ej
              cases ej
            | false =>
              have k1 : k % 2 ≠ 0 := fun q => by rw [q] at ek; cases ek
              have j1 : j % 2 ≠ 0 := fun q => by rw [q] at ej; cases ej
              show (if j / 2 = k / 2 then some o else Tr.get r (j / 2)) = if j = k then some o else Tr.get r (j / 2)
              by_cases hjk : j = k
              · rw [if_pos hjk, if_pos (by rw [hjk])]
              · rw [if_neg hjk, if_neg (fun q => hjk (half_inj (by omega) q))]
      cases t with
      | nil =>
        have q := key none .nil .nil
        have e : Tr.get (.node none .nil .nil) j = Tr.get .nil j := by
          cases j with
          | zero => rfl
          | succ j =>
            show cond _ (Tr.get .nil _) (Tr.get .nil _) = _
            rw [Tr.get_nil, Tr.get_nil]
            cases Nat.beq (j % 2) 0 <;> rfl
        rw [← e]
        exact q
      | node v l r => exact key v l r

structure Sto where
  n : Nat
  t : Tr
def Sto.get (S : Sto) (i : Nat) : Option MO := S.t.get i
def Sto.set (S : Sto) (i : Nat) (o : MO) : Sto := ⟨S.n, S.t.put (i + 1) i o⟩
def Sto.push (S : Sto) (o : MO) : Sto := ⟨S.n + 1, S.t.put (S.n + 1) S.n o⟩
theorem Sto.get_set (S : Sto) (i j : Nat) (o : MO) : (S.set i o).get j = if j = i then some o else S.get j := Tr.put_get _ _ _ _ _ (by omega)
theorem Sto.get_push (S : Sto) (j : Nat) (o : MO) : (S.push o).get j = if j = S.n then some o else S.get j := Tr.put_get _ _ _ _ _ (by omega)
@[simp] theorem Sto.n_set (S : Sto) (i : Nat) (o : MO) : (S.set i o).n = S.n := rfl
@[simp] theorem Sto.n_push (S : Sto) (o : MO) : (S.push o).n = S.n + 1 := rfl

abbrev Env := List (Option D)
inductive R (α : Type) where
  | ok (a : α) (S : Sto)
  | exc (e : D) (S : Sto)
  | bad
inductive O where
  | nx (ρ : Env) (S : Sto)
  | rt (d : D) (S : Sto)
  | bk (ρ : Env) (S : Sto)
  | ct (ρ : Env) (S : Sto)
  | exc (e : D) (ρ : Env) (S : Sto)
  | bad

inductive Bo where
  | add | sub | mul | fdiv | mod | pow
inductive Co where
  | eq | ne | lt | le | gt | ge | isN | notN | in_ | notIn
inductive Pr where
  | len | abs | int | max2 | min2 | list | tuple | repr | join | append
inductive Tg where
  | name (i : Nat)
  | tup (ts : List Tg)
mutual
inductive Ex where
  | lit (d : D)
  | var (i : Nat)
  | bin (o : Bo) (a b : Ex)
  | cmp (o : Co) (a b : Ex)
  | not (a : Ex)
  | and (a b : Ex)
  | or (a b : Ex)
  | ite (c a b : Ex)
  | tup (es : List Ex)
  | lst (es : List Ex)
  | idx (a i : Ex)
  | rev (a : Ex)
  | prim (p : Pr) (es : List Ex)
  | mth (p : Pr) (o : Ex) (es : List Ex)
  | call (f : Fn) (es : List Ex)
  | comp (own : List Nat) (tg : Tg) (src : Sr) (tests : List Ex) (elt : Ex)
inductive Sr where
  | seq (e : Ex)
  | rng1 (e : Ex)
inductive Sx where
  | asg (t : Tg) (e : Ex)
  | asgI (o i e : Ex)
  | expr (e : Ex)
  | ret (e : Ex)
  | ifs (c : Ex) (a b : List Sx)
  | forI (t : Tg) (src : Sr) (body : List Sx)
  | brk
  | cnt
  | skip
inductive Fn where
  | mk (np ns : Nat) (body : List Sx)
end
def Fn.np : Fn → Nat
  | .mk a _ _ => a
def Fn.ns : Fn → Nat
  | .mk _ b _ => b
def Fn.body : Fn → List Sx
  | .mk _ _ c => c

/-! values -/
def cap : Nat := 1000000
def truth (S : Sto) : D → Option Bool
  | .non => some false
  | .bl b => some b
  | .int i => some (i != 0)
  | .str s => cond (Nat.ble s.length cap) (some (!s.isEmpty)) none
  | .tup ds => some (!ds.isEmpty)
  | .ref i => match S.get i with
    | some (.lst xs) => some (!xs.isEmpty)
    | some (.rol xs) => some (!xs.isEmpty)
    | _ => none
/-- the items of a list or a tuple -/
def items (S : Sto) : D → Option (List D)
  | .tup ds => some ds
  | .ref i => match S.get i with
    | some (.lst xs) => some xs
    | some (.rol xs) => some xs
    | _ => none
  | _ => none
def isNon : D → Bool
  | .non => true
  | _ => false
def mulOk (i j : Int) : Bool := (decide (-(2 ^ 64) < i) && decide (i < 2 ^ 64)) || (decide (-(2 ^ 64) < j) && decide (j < 2 ^ 64))
open PySem (PyData)
def allO {α β : Type} (f : α → Option β) : List α → Option (List β)
  | [] => some []
  | x :: r => match f x with
    | some y => (match allO f r with
      | some ys => some (y :: ys)
      | none => none)
    | none => none
/-- a value as data, lists read off the store; a depth -/
def toPD (S : Sto) : Nat → D → Option PyData
  | 0, _ => none
  | k + 1, d => match d with
    | .non => some .none
    | .bl b => some (.bool b)
    | .int i => some (.int i)
    | .str s => some (.str ⟨s.toArray⟩)
    | .tup ds => (match allO (toPD S k) ds with
      | some ys => some (.tuple ys)
      | none => none)
    | .ref i => match S.get i with
      | some (.lst xs) => (match allO (toPD S k) xs with
        | some ys => some (.list ys)
        | none => none)
      | some (.rol xs) => (match allO (toPD S k) xs with
        | some ys => some (.list ys)
        | none => none)
      | _ => none

/-- equality of scalars where it is plain -/
def scalEq : D → D → Option Bool
  | .int i, .int j => some (decide (i = j))
  | .str s, .str t => some (decide (s = t))
  | .bl a, .bl b => some (a == b)
  | .non, .non => some true
  | .non, .int _ => some false
  | .int _, .non => some false
  | .non, .bl _ => some false
  | .bl _, .non => some false
  | .non, .str _ => some false
  | .str _, .non => some false
  | .int _, .str _ => some false
  | .str _, .int _ => some false
  | .bl _, .str _ => some false
  | .str _, .bl _ => some false
  | _, _ => none
def dataEq (S : Sto) (x y : D) : Option Bool := match toPD S 12 x, toPD S 12 y with
  | some a, some b => cond (PySem.SeqAt.shaped a && PySem.SeqAt.shaped b) (some (PyData.eqv a b)) none
  | _, _ => none
def eqD (S : Sto) (x y : D) : Option Bool := match scalEq x y with
  | some b => some b
  | none => dataEq S x y
/-- a flat value -/
def flat : D → Bool
  | .non => true
  | .bl _ => true
  | .int _ => true
  | .str _ => true
  | _ => false
def eqFlat : D → D → Bool
  | .non, .non => true
  | .bl a, .bl b => a == b
  | .bl a, .int j => (if a then 1 else 0) == j
  | .int i, .bl b => i == (if b then 1 else 0)
  | .int i, .int j => i == j
  | .str x, .str y => x == y
  | _, _ => false
def seqIn (x : D) (xs : List D) : Option Bool := cond (flat x && xs.all flat) (some (xs.any fun y => eqFlat y x)) none
def inD (S : Sto) (x y : D) : Option Bool := match y with
  | .str t => (match x with
    | .str [c] => some (decide (c ∈ t))
    | _ => none)
  | y => match items S y with
    | some xs => seqIn x xs
    | none => none
abbrev Pd := Option (D × Sto)
def okB (b : Option Bool) (S : Sto) : Pd := match b with
  | some b => some (.bl b, S)
  | none => none
def okN (b : Option Bool) (S : Sto) : Pd := match b with
  | some b => some (.bl (!b), S)
  | none => none
def cmpI (p : Int → Int → Bool) (x y : D) (S : Sto) : Pd := match x with
  | .int i => (match y with
    | .int j => some (.bl (p i j), S)
    | _ => none)
  | _ => none
def cmpo (o : Co) (x y : D) (S : Sto) : Pd := match o with
  | .eq => okB (eqD S x y) S
  | .ne => okN (eqD S x y) S
  | .lt => cmpI (fun i j => decide (i < j)) x y S
  | .le => cmpI (fun i j => decide (i ≤ j)) x y S
  | .gt => cmpI (fun i j => decide (j < i)) x y S
  | .ge => cmpI (fun i j => decide (j ≤ i)) x y S
  | .isN => cond (isNon y) (some (.bl (isNon x), S)) none
  | .notN => cond (isNon y) (some (.bl (!isNon x), S)) none
  | .in_ => okB (inD S x y) S
  | .notIn => okN (inD S x y) S
def newL (xs : List D) (S : Sto) : Pd := cond (Nat.ble xs.length cap) (some (.ref S.n, S.push (.lst xs))) none
def addD (x y : D) (S : Sto) : Pd := match x with
  | .int i => (match y with
    | .int j => some (.int (i + j), S)
    | _ => none)
  | .str s => (match y with
    | .str t => cond (Nat.ble (s.length + t.length) cap) (some (.str (s ++ t), S)) none
    | _ => none)
  | .tup a => (match y with
    | .tup b => cond (Nat.ble (a.length + b.length) cap) (some (.tup (a ++ b), S)) none
    | _ => none)
  | .ref i => (match y with
    | .ref j => (match S.get i with
      | some (.lst a) => (match S.get j with
        | some (.lst b) => newL (a ++ b) S
        | _ => none)
      | _ => none)
    | _ => none)
  | _ => none
def intB (f : Int → Int → Option Int) (x y : D) (S : Sto) : Pd := match x with
  | .int i => (match y with
    | .int j => (match f i j with
      | some k => some (.int k, S)
      | none => none)
    | _ => none)
  | _ => none
def bino (o : Bo) (x y : D) (S : Sto) : Pd := match o with
  | .add => addD x y S
  | .sub => intB (fun i j => some (i - j)) x y S
  | .mul => intB (fun i j => cond (mulOk i j) (some (i * j)) none) x y S
  | .fdiv => intB (fun i j => cond (decide (0 < j) && decide (j < 1073741824)) (some (i / j)) none) x y S
  | .mod => intB (fun i j => cond (decide (0 < j)) (some (i % j)) none) x y S
  | .pow => intB (fun i j => cond (decide (0 ≤ j) && decide (j ≤ 1000000) && decide (i.natAbs < 2 ^ 64)) (some (i ^ j.toNat)) none) x y S
/-- the place of an index -/
def seqIx (n : Nat) (i : Int) : Option Nat := match i with
  | .ofNat k => cond (Nat.blt k n) (some k) none
  | .negSucc k => cond (Nat.blt k n) (some (n - 1 - k)) none
def atD {α : Type} (xs : List α) (k : Int) : Option α := match seqIx xs.length k with
  | some j => xs[j]?
  | none => none
def idxD (S : Sto) (x i : D) : Pd := match i with
  | .int k => (match x with
    | .str s => (match atD s k with
      | some c => cond (Nat.ble s.length cap) (some (.str [c], S)) none
      | none => none)
    | x => match items S x with
      | some xs => (match atD xs k with
        | some d => some (d, S)
        | none => none)
      | none => none)
  | _ => none
/-- a list of texts -/
def txts : List D → Option (List Tx)
  | [] => some []
  | .str s :: r => (match txts r with
    | some l => some (s :: l)
    | none => none)
  | _ :: _ => none
def joinT (sep : Tx) : List Tx → Tx
  | [] => []
  | [x] => x
  | x :: y :: r => x ++ sep ++ joinT sep (y :: r)
def sumLen : List Tx → Nat
  | [] => 0
  | s :: l => s.length + sumLen l
def reprD : D → Option Tx
  | .str s => (match (PyData.str ⟨s.toArray⟩).shown with
    | ⟨a⟩ => cond (Nat.ble a.size cap) (some a.toList) none)
  | .non => (match PyData.none.shown with
    | ⟨a⟩ => some a.toList)
  | _ => none
def prim (p : Pr) (ds : List D) (S : Sto) : Pd := match p with
  | .len => (match ds with
    | [.str s] => cond (Nat.ble s.length cap) (some (.int s.length, S)) none
    | [d] => (match items S d with
      | some xs => some (.int xs.length, S)
      | none => none)
    | _ => none)
  | .abs => (match ds with
    | [.int i] => some (.int (if i < 0 then -i else i), S)
    | _ => none)
  | .int => (match ds with
    | [.int i] => some (.int i, S)
    | _ => none)
  | .max2 => (match ds with
    | [.int i, .int j] => some (.int (if j > i then j else i), S)
    | _ => none)
  | .min2 => (match ds with
    | [.int i, .int j] => some (.int (if j < i then j else i), S)
    | _ => none)
  | .list => (match ds with
    | [.str s] => newL (s.map fun c => .str [c]) S
    | [d] => (match items S d with
      | some xs => newL xs S
      | none => none)
    | _ => none)
  | .tuple => (match ds with
    | [d] => (match items S d with
      | some xs => some (.tup xs, S)
      | none => none)
    | _ => none)
  | .repr => (match ds with
    | [d] => (match reprD d with
      | some s => some (.str s, S)
      | none => none)
    | _ => none)
  | .join => (match ds with
    | [.str s, d] => (match items S d with
      | some xs => (match txts xs with
        | some ts => cond (Nat.ble (sumLen ts + ts.length * s.length) cap) (some (.str (joinT s ts), S)) none
        | none => none)
      | none => none)
    | _ => none)
  | .append => (match ds with
    | [.ref i, d] => (match S.get i with
      | some (.lst xs) => cond (Nat.blt xs.length cap) (some (.non, S.set i (.lst (xs ++ [d])))) none
      | _ => none)
    | _ => none)
def isStr : D → Bool
  | .str _ => true
  | _ => false
def isLst (S : Sto) : D → Bool
  | .ref i => (match S.get i with
    | some (.lst _) => true
    | some (.rol _) => true
    | _ => false)
  | _ => false
/-- the receiver's kind -/
def recv (p : Pr) (d : D) (S : Sto) : Bool := match p with
  | .append => isLst S d
  | _ => isStr d
def revD (x : D) (S : Sto) : Pd := match x with
  | .str s => cond (Nat.ble s.length cap) (some (.str s.reverse, S)) none
  | _ => none
def putD (x y d : D) (S : Sto) : Option Sto := match x with
  | .ref a => (match S.get a with
    | some (.lst xs) => (match y with
      | .int k => (match seqIx xs.length k with
        | some j => some (S.set a (.lst (xs.set j d)))
        | none => none)
      | _ => none)
    | _ => none)
  | _ => none
def liftO (p : Pd) : R D := match p with
  | some (d, S) => .ok d S
  | none => .bad
/-! targets -/
mutual
def bindT : Tg → D → Env → Option Env
  | .name i, d, ρ => some (ρ.set i (some d))
  | .tup ts, d, ρ => match d with
    | .tup ds => bindTs ts ds ρ
    | _ => none
def bindTs : List Tg → List D → Env → Option Env
  | [], [], ρ => some ρ
  | t :: ts, d :: ds, ρ => (match bindT t d ρ with
    | some ρ => bindTs ts ds ρ
    | none => none)
  | _, _, _ => none
end
def wipe (ρ : Env) : List Nat → Env
  | [] => ρ
  | v :: vs => (wipe ρ vs).set v none
/-! what is walked -/
inductive Src where
  | items (xs : List D)
  | live (i : Nat)
  | rng (lo : Int) (n : Nat)
/-- none: stuck; some none: the end -/
def Src.at (S : Sto) : Src → Nat → Option (Option D)
  | .items xs, k => some xs[k]?
  | .live i, k => (match S.get i with
    | some (.lst xs) => some xs[k]?
    | some (.rol xs) => some xs[k]?
    | _ => none)
  | .rng lo n, k => some (cond (Nat.blt k n) (some (.int (lo + k))) none)
/-! the machine -/
structure Ev where
  e : Ex → Env → Sto → R D
  s : Sx → Env → Sto → O
  f : Fn → List D → Sto → R D
def bindR {α β : Type} (r : R α) (k : α → Sto → R β) : R β := match r with
  | .ok a S => k a S
  | .exc e S => .exc e S
  | .bad => .bad
def evL (f : Ex → Env → Sto → R D) : List Ex → Env → Sto → R (List D)
  | [], _, S => .ok [] S
  | e :: es, ρ, S => bindR (f e ρ S) fun d S => bindR (evL f es ρ S) fun ds S => .ok (d :: ds) S
/-- a test -/
def evT (f : Ex → Env → Sto → R D) (e : Ex) (ρ : Env) (S : Sto) : R Bool := bindR (f e ρ S) fun d S => match truth S d with
  | some b => .ok b S
  | none => .bad
def evTs (f : Ex → Env → Sto → R D) : List Ex → Env → Sto → R Bool
  | [], _, S => .ok true S
  | [e], ρ, S => evT f e ρ S
  | _, _, _ => .bad
def srcOf (S : Sto) : D → Option Src
  | .tup ds => some (.items ds)
  | .str s => some (.items (s.map fun c => .str [c]))
  | .ref i => (match S.get i with
    | some (.lst _) => some (.live i)
    | some (.rol _) => some (.live i)
    | _ => none)
  | _ => none
def evSr (f : Ex → Env → Sto → R D) (sr : Sr) (ρ : Env) (S : Sto) : R Src := match sr with
  | .seq e => bindR (f e ρ S) fun d S => (match srcOf S d with
    | some s => .ok s S
    | none => .bad)
  | .rng1 e => bindR (f e ρ S) fun d S => match d with
    | .int j => cond (decide (-(2 ^ 62) ≤ j) && decide (j < 2 ^ 62)) (.ok (.rng 0 j.toNat) S) .bad
    | _ => .bad
def far : Nat := 100000000
/-- a loop's turns -/
def loopI (body : Env → Sto → O) (tg : Tg) (src : Src) : Nat → Nat → Env → Sto → O
  | 0, _, _, _ => .bad
  | k + 1, i, ρ, S => match src.at S i with
    | none => .bad
    | some none => .nx ρ S
    | some (some d) => (match bindT tg d ρ with
      | none => .bad
      | some ρ => (match body ρ S with
        | .nx ρ S => loopI body tg src k (i + 1) ρ S
        | .ct ρ S => loopI body tg src k (i + 1) ρ S
        | .bk ρ S => .nx ρ S
        | .rt d S => .rt d S
        | .exc e ρ S => .exc e ρ S
        | .bad => .bad))
/-- a comprehension's turns; its list stands at D -/
def loopC (f : Ex → Env → Sto → R D) (tg : Tg) (src : Src) (tests : List Ex) (elt : Ex) (own : List Nat) (ρ : Env) (D : Nat) : Nat → Nat → Sto → R Unit
  | 0, _, _ => .bad
  | k + 1, i, S => match src.at S i with
    | none => .bad
    | some none => .ok () S
    | some (some d) => (match bindT tg d (wipe ρ own) with
      | none => .bad
      | some ρ2 => (match evTs f tests ρ2 S with
        | .ok true S => (match f elt ρ2 S with
          | .ok y S => (match S.get D with
            | some (.lst acc) => cond (Nat.blt acc.length cap) (loopC f tg src tests elt own ρ D k (i + 1) (S.set D (.lst (acc ++ [y])))) .bad
            | _ => .bad)
          | _ => .bad)
        | .ok false S => loopC f tg src tests elt own ρ D k (i + 1) S
        | _ => .bad))
def ev (E : Ev) (x : Ex) (ρ : Env) (S : Sto) : R D := match x with
  | .lit d => .ok d S
  | .var i => (match ρ[i]? with
    | some (some d) => .ok d S
    | _ => .bad)
  | .bin o a b => bindR (E.e a ρ S) fun x S => bindR (E.e b ρ S) fun y S => liftO (bino o x y S)
  | .cmp o a b => bindR (E.e a ρ S) fun x S => bindR (E.e b ρ S) fun y S => liftO (cmpo o x y S)
  | .not a => bindR (evT E.e a ρ S) fun b S => .ok (.bl (!b)) S
  | .and a b => bindR (E.e a ρ S) fun x S => (match truth S x with
    | some true => E.e b ρ S
    | some false => .ok x S
    | none => .bad)
  | .or a b => bindR (E.e a ρ S) fun x S => (match truth S x with
    | some true => .ok x S
    | some false => E.e b ρ S
    | none => .bad)
  | .ite c a b => bindR (evT E.e c ρ S) fun k S => cond k (E.e a ρ S) (E.e b ρ S)
  | .tup es => bindR (evL E.e es ρ S) fun ds S => cond (Nat.ble ds.length cap) (.ok (.tup ds) S) .bad
  | .lst es => bindR (evL E.e es ρ S) fun ds S => liftO (newL ds S)
  | .idx a i => bindR (E.e a ρ S) fun x S => bindR (E.e i ρ S) fun y S => liftO (idxD S x y)
  | .rev a => bindR (E.e a ρ S) fun x S => liftO (revD x S)
  | .prim p es => bindR (evL E.e es ρ S) fun ds S => liftO (prim p ds S)
  | .mth p o es => bindR (E.e o ρ S) fun d S => cond (recv p d S) (bindR (evL E.e es ρ S) fun ds S => liftO (prim p (d :: ds) S)) .bad
  | .call f es => bindR (evL E.e es ρ S) fun ds S => E.f f ds S
  | .comp own tg src tests elt => bindR (evSr E.e src ρ S) fun s S0 => (match loopC E.e tg s tests elt own ρ S0.n far 0 (S0.push (.lst [])) with
    | .ok _ S => .ok (.ref S0.n) S
    | _ => .bad)
def run (f : Sx → Env → Sto → O) : List Sx → Env → Sto → O
  | [], ρ, S => .nx ρ S
  | x :: r, ρ, S => match f x ρ S with
    | .nx ρ S => run f r ρ S
    | o => o
def ofR {α : Type} (r : R α) (ρ : Env) (k : α → Sto → O) : O := match r with
  | .ok a S => k a S
  | .exc e S => .exc e ρ S
  | .bad => .bad
def ex (E : Ev) (x : Sx) (ρ : Env) (S : Sto) : O := match x with
  | .asg t e => ofR (E.e e ρ S) ρ fun d S => (match bindT t d ρ with
    | some ρ => .nx ρ S
    | none => .bad)
  | .asgI o i e => ofR (E.e e ρ S) ρ fun d S => ofR (E.e o ρ S) ρ fun x S => ofR (E.e i ρ S) ρ fun y S => (match putD x y d S with
    | some S => .nx ρ S
    | none => .bad)
  | .expr e => ofR (E.e e ρ S) ρ fun _ S => .nx ρ S
  | .ret e => ofR (E.e e ρ S) ρ fun d S => .rt d S
  | .ifs c a b => ofR (evT E.e c ρ S) ρ fun k S => cond k (run E.s a ρ S) (run E.s b ρ S)
  | .forI t src body => ofR (evSr E.e src ρ S) ρ fun s S => loopI (run E.s body) t s far 0 ρ S
  | .brk => .bk ρ S
  | .cnt => .ct ρ S
  | .skip => .nx ρ S
def start (n : Nat) (ds : List D) : Env := ds.map some ++ List.replicate (n - ds.length) none
def fnc (E : Ev) (f : Fn) (ds : List D) (S : Sto) : R D := cond (Nat.beq ds.length f.np) (match run E.s f.body (start f.ns ds) S with
  | .nx _ S => .ok .non S
  | .rt d S => .ok d S
  | .exc e _ S => .exc e S
  | _ => .bad) .bad
def step (E : Ev) : Ev := ⟨ev E, ex E, fnc E⟩
def evs (n : Nat) : Ev := Nat.rec (motive := fun _ => Ev) ⟨fun _ _ _ => .bad, fun _ _ _ => .bad, fun _ _ _ => .bad⟩ (fun _ E => step E) n
theorem evs_succ (n : Nat) : evs (n + 1) = step (evs n) := rfl
end Di
end

section
set_option Elab.async false
set_option linter.all false
set_option maxRecDepth 100000
/-! what a Di run promises: rules from behind -/
namespace Di
def W {α : Type} (r : R α) (Q : α → Sto → Prop) (X : D → Sto → Prop) : Prop := match r with
  | .ok a S => Q a S
  | .exc e S => X e S
  | .bad => False
structure Dn where
  nx : Env → Sto → Prop
  rt : D → Sto → Prop
  bk : Env → Sto → Prop := fun _ _ => False
  ct : Env → Sto → Prop := fun _ _ => False
  ex : D → Env → Sto → Prop := fun _ _ _ => False
def WO (o : O) (D : Dn) : Prop := match o with
  | .nx ρ S => D.nx ρ S
  | .rt d S => D.rt d S
  | .bk ρ S => D.bk ρ S
  | .ct ρ S => D.ct ρ S
  | .exc e ρ S => D.ex e ρ S
  | .bad => False
def Wd (p : Pd) (Q : D → Sto → Prop) : Prop := match p with
  | some (d, S) => Q d S
  | none => False
def WE (n : Nat) (x : Ex) (ρ : Env) (S : Sto) (Q : D → Sto → Prop) (X : D → Sto → Prop) : Prop := W ((evs n).e x ρ S) Q X
def WA (n : Nat) (x : List Ex) (ρ : Env) (S : Sto) (Q : List D → Sto → Prop) (X : D → Sto → Prop) : Prop := W (evL (evs n).e x ρ S) Q X
def WT (n : Nat) (x : Ex) (ρ : Env) (S : Sto) (Q : Bool → Sto → Prop) (X : D → Sto → Prop) : Prop := W (evT (evs n).e x ρ S) Q X
def WF (n : Nat) (f : Fn) (ds : List D) (S : Sto) (Q : D → Sto → Prop) (X : D → Sto → Prop) : Prop := W ((evs n).f f ds S) Q X
def WS (n : Nat) (x : Sx) (ρ : Env) (S : Sto) (D : Dn) : Prop := WO ((evs n).s x ρ S) D
def WB (n : Nat) (x : List Sx) (ρ : Env) (S : Sto) (D : Dn) : Prop := WO (run (evs n).s x ρ S) D
section
variable {n : Nat} {ρ : Env} {S : Sto} {Q : D → Sto → Prop} {X : D → Sto → Prop} {α β : Type}
theorem W_bind {r : R α} {f : α → Sto → R β} {Q : β → Sto → Prop} : W (bindR r f) Q X ↔ W r (fun a S => W (f a S) Q X) X := by cases r <;> exact Iff.rfl
theorem W.mono {r : R α} {Q Q' : α → Sto → Prop} {X X' : D → Sto → Prop} (h : W r Q X) (hq : ∀ a S, Q a S → Q' a S) (hx : ∀ e S, X e S → X' e S) : W r Q' X' := by
  cases r with
  | bad => exact h
  | ok a S => exact hq a S h
  | exc e S => exact hx e S h
theorem W.imp {r : R α} {Q Q' : α → Sto → Prop} {X : D → Sto → Prop} (h : W r Q X) (hq : ∀ a S, Q a S → Q' a S) : W r Q' X := h.mono hq fun _ _ z => z
theorem WF.imp {f : Fn} {ds : List D} {Q' : D → Sto → Prop} (h : WF n f ds S Q X) (hq : ∀ a S, Q a S → Q' a S) : WF n f ds S Q' X := W.imp h hq
theorem WF.mono {f : Fn} {ds : List D} {Q' X' : D → Sto → Prop} (h : WF n f ds S Q X) (hq : ∀ a S, Q a S → Q' a S) (hx : ∀ e S, X e S → X' e S) : WF n f ds S Q' X' := W.mono h hq hx
theorem W_lift {p : Pd} : W (liftO p) Q X ↔ Wd p Q := by cases p <;> exact Iff.rfl
theorem Wd_some {d : D} {S : Sto} : Wd (some (d, S)) Q ↔ Q d S := Iff.rfl
theorem Wd_cond {b : Bool} {d : D} {S : Sto} : Wd (cond b (some (d, S)) none) Q ↔ (b = true ∧ Q d S) := by
  cases b with
  | true => exact ⟨fun h => ⟨rfl, h⟩, fun h => h.2⟩
  | false => exact ⟨fun h => h.elim, fun h => nomatch h.1⟩
/-! expressions -/
theorem e_lit {d : D} : WE (n + 1) (.lit d) ρ S Q X ↔ Q d S := Iff.rfl
theorem e_var {i : Nat} : WE (n + 1) (.var i) ρ S Q X ↔ (match ρ[i]? with
    | some (some d) => Q d S
    | _ => False) := by
  show W (match ρ[i]? with
    | some (some d) => R.ok d S
    | _ => .bad) Q X ↔ _
  cases ρ[i]? with
  | none => exact Iff.rfl
  | some o => cases o <;> exact Iff.rfl
theorem e_bin {o : Bo} {a b : Ex} : WE (n + 1) (.bin o a b) ρ S Q X ↔ WE n a ρ S (fun x S => WE n b ρ S (fun y S => Wd (bino o x y S) Q) X) X := by
  show W (bindR _ _) Q X ↔ _
  rw [W_bind]
  unfold WE
  refine Iff.of_eq (congrArg (fun f => W _ f X) (funext fun x => funext fun S => propext ?_))
  rw [W_bind]
  refine Iff.of_eq (congrArg (fun f => W _ f X) (funext fun y => funext fun S => propext W_lift))
theorem e_cmp {o : Co} {a b : Ex} : WE (n + 1) (.cmp o a b) ρ S Q X ↔ WE n a ρ S (fun x S => WE n b ρ S (fun y S => Wd (cmpo o x y S) Q) X) X := by
  show W (bindR _ _) Q X ↔ _
  rw [W_bind]
  unfold WE
  refine Iff.of_eq (congrArg (fun f => W _ f X) (funext fun x => funext fun S => propext ?_))
  rw [W_bind]
  refine Iff.of_eq (congrArg (fun f => W _ f X) (funext fun y => funext fun S => propext W_lift))
theorem t_ev {x : Ex} {Q : Bool → Sto → Prop} : WT n x ρ S Q X ↔ WE n x ρ S (fun d S => match truth S d with
    | some b => Q b S
    | none => False) X := by
  show W (bindR _ _) Q X ↔ _
  rw [W_bind]
  unfold WE
  refine Iff.of_eq (congrArg (fun f => W _ f X) (funext fun x => funext fun S => propext ?_))
  cases truth S x <;> exact Iff.rfl
theorem e_not {a : Ex} : WE (n + 1) (.not a) ρ S Q X ↔ WT n a ρ S (fun b S => Q (.bl (!b)) S) X := W_bind
theorem e_and {a b : Ex} : WE (n + 1) (.and a b) ρ S Q X ↔ WE n a ρ S (fun x S => match truth S x with
    | some true => WE n b ρ S Q X
    | some false => Q x S
    | none => False) X := by
  show W (bindR _ _) Q X ↔ _
  rw [W_bind]
  refine Iff.of_eq (congrArg (fun f => W _ f X) (funext fun x => funext fun S => propext ?_))
  cases truth S x with
  | none => exact Iff.rfl
  | some b => cases b <;> exact Iff.rfl
theorem e_or {a b : Ex} : WE (n + 1) (.or a b) ρ S Q X ↔ WE n a ρ S (fun x S => match truth S x with
    | some true => Q x S
    | some false => WE n b ρ S Q X
    | none => False) X := by
  show W (bindR _ _) Q X ↔ _
  rw [W_bind]
  refine Iff.of_eq (congrArg (fun f => W _ f X) (funext fun x => funext fun S => propext ?_))
  cases truth S x with
  | none => exact Iff.rfl
  | some b => cases b <;> exact Iff.rfl
theorem e_ite {c a b : Ex} : WE (n + 1) (.ite c a b) ρ S Q X ↔ WT n c ρ S (fun k S => (k = true → WE n a ρ S Q X) ∧ (k = false → WE n b ρ S Q X)) X := by
  show W (bindR _ _) Q X ↔ _
  rw [W_bind]
  refine Iff.of_eq (congrArg (fun f => W _ f X) (funext fun x => funext fun S => propext ?_))
  cases x with
  | true => exact ⟨fun h => ⟨fun _ => h, fun q => nomatch q⟩, fun h => h.1 rfl⟩
  | false => exact ⟨fun h => ⟨fun q => (nomatch q), fun _ => h⟩, fun h => h.2 rfl⟩
theorem a_nil {Q : List D → Sto → Prop} : WA n [] ρ S Q X ↔ Q [] S := Iff.rfl
theorem a_cons {x : Ex} {xs : List Ex} {Q : List D → Sto → Prop} : WA n (x :: xs) ρ S Q X ↔ WE n x ρ S (fun d S => WA n xs ρ S (fun ds S => Q (d :: ds) S) X) X := by
  show W (bindR _ _) Q X ↔ _
  rw [W_bind]
  refine Iff.of_eq (congrArg (fun f => W _ f X) (funext fun x => funext fun S => propext ?_))
  rw [W_bind]
  exact Iff.rfl
theorem e_tup {xs : List Ex} : WE (n + 1) (.tup xs) ρ S Q X ↔ WA n xs ρ S (fun ds S => ds.length ≤ cap ∧ Q (.tup ds) S) X := by
  show W (bindR _ _) Q X ↔ _
  rw [W_bind]
  refine Iff.of_eq (congrArg (fun f => W _ f X) (funext fun ds => funext fun S => propext ?_))
  show W (cond (Nat.ble ds.length cap) (R.ok (.tup ds) S) .bad) Q X ↔ _
  cases q : Nat.ble ds.length cap with
  | true => exact ⟨fun h => ⟨Nat.le_of_ble_eq_true q, h⟩, fun h => h.2⟩
  | false => exact ⟨fun h => h.elim, fun h => by rw [Nat.ble_eq_true_of_le h.1] at q; cases q⟩
theorem wd_newL {ds : List D} : Wd (newL ds S) Q ↔ (ds.length ≤ cap ∧ Q (.ref S.n) (S.push (.lst ds))) := by
  show Wd (cond (Nat.ble ds.length cap) _ none) Q ↔ _
  rw [Wd_cond, Nat.ble_eq]
theorem e_lst {xs : List Ex} : WE (n + 1) (.lst xs) ρ S Q X ↔ WA n xs ρ S (fun ds S => ds.length ≤ cap ∧ Q (.ref S.n) (S.push (.lst ds))) X := by
  show W (bindR _ _) Q X ↔ _
  rw [W_bind]
  refine Iff.of_eq (congrArg (fun f => W _ f X) (funext fun ds => funext fun S => propext ?_))
  rw [W_lift, wd_newL]
theorem e_idx {a b : Ex} : WE (n + 1) (.idx a b) ρ S Q X ↔ WE n a ρ S (fun x S => WE n b ρ S (fun y S => Wd (idxD S x y) Q) X) X := by
  show W (bindR _ _) Q X ↔ _
  rw [W_bind]
  refine Iff.of_eq (congrArg (fun f => W _ f X) (funext fun x => funext fun S => propext ?_))
  rw [W_bind]
  refine Iff.of_eq (congrArg (fun f => W _ f X) (funext fun y => funext fun S => propext W_lift))
theorem e_rev {a : Ex} : WE (n + 1) (.rev a) ρ S Q X ↔ WE n a ρ S (fun x S => Wd (revD x S) Q) X := by
  show W (bindR _ _) Q X ↔ _
  rw [W_bind]
  refine Iff.of_eq (congrArg (fun f => W _ f X) (funext fun x => funext fun S => propext W_lift))
theorem e_prim {p : Pr} {xs : List Ex} : WE (n + 1) (.prim p xs) ρ S Q X ↔ WA n xs ρ S (fun ds S => Wd (prim p ds S) Q) X := by
  show W (bindR _ _) Q X ↔ _
  rw [W_bind]
  refine Iff.of_eq (congrArg (fun f => W _ f X) (funext fun x => funext fun S => propext W_lift))
theorem e_mth {p : Pr} {o : Ex} {xs : List Ex} : WE (n + 1) (.mth p o xs) ρ S Q X ↔ WE n o ρ S (fun d S => recv p d S = true ∧ WA n xs ρ S (fun ds S => Wd (prim p (d :: ds) S) Q) X) X := by
  show W (bindR _ _) Q X ↔ _
  rw [W_bind]
  refine Iff.of_eq (congrArg (fun f => W _ f X) (funext fun x => funext fun S => propext ?_))
  cases recv p x S with
  | false => exact ⟨fun h => h.elim, fun h => nomatch h.1⟩
  | true =>
    show W (bindR _ _) Q X ↔ _
    rw [W_bind]
    refine ⟨fun h => ⟨rfl, h.imp fun _ _ => W_lift.mp⟩, fun h => h.2.imp fun _ _ => W_lift.mpr⟩
theorem e_call {f : Fn} {xs : List Ex} : WE (n + 1) (.call f xs) ρ S Q X ↔ WA n xs ρ S (fun ds S => WF n f ds S Q X) X := W_bind
/-! defs -/
theorem f_mk {np ns : Nat} {body : List Sx} {ds : List D} (ρ : Env) (hl : ds.length = np) (hs : start ns ds = ρ)
    (h : WB n body ρ S { nx := fun _ S => Q .non S, rt := Q, ex := fun e _ S => X e S }) : WF (n + 1) (.mk np ns body) ds S Q X := by
  show W (cond (Nat.beq ds.length np) (match run (evs n).s body (start ns ds) S with
    | .nx _ S => .ok .non S
    | .rt d S => .ok d S
    | .exc e _ S => .exc e S
    | _ => .bad) .bad) Q X
  rw [hl, show Nat.beq np np = true from Nat.beq_refl np, hs]
  have h' : WO (run (evs n).s body ρ S) { nx := fun _ S => Q .non S, rt := Q, ex := fun e _ S => X e S } := h
  show W (match run (evs n).s body ρ S with
    | .nx _ S => .ok .non S
    | .rt d S => .ok d S
    | .exc e _ S => .exc e S
    | _ => .bad) Q X
  cases q : run (evs n).s body ρ S <;> rw [q] at h' <;> exact h'
/-! statements -/
variable {D : Dn}
theorem b_nil : WB n [] ρ S D ↔ D.nx ρ S := Iff.rfl
theorem b_cons {x : Sx} {xs : List Sx} : WB n (x :: xs) ρ S D ↔ WS n x ρ S { D with nx := fun ρ S => WB n xs ρ S D } := by
  show WO (match (evs n).s x ρ S with
    | .nx ρ S => run (evs n).s xs ρ S
    | o => o) D ↔ WO ((evs n).s x ρ S) _
  cases (evs n).s x ρ S <;> exact Iff.rfl
theorem WO_ofR {r : R α} {f : α → Sto → O} : WO (ofR r ρ f) D ↔ W r (fun a S => WO (f a S) D) fun e S => D.ex e ρ S := by cases r <;> exact Iff.rfl
theorem s_asg {t : Tg} {x : Ex} : WS (n + 1) (.asg t x) ρ S D ↔ WE n x ρ S (fun d S => match bindT t d ρ with
    | some ρ => D.nx ρ S
    | none => False) fun e S => D.ex e ρ S := by
  show WO (ofR _ _ _) D ↔ _
  rw [WO_ofR]
  refine Iff.of_eq (congrArg (fun f => W _ f _) (funext fun x => funext fun S => propext ?_))
  cases bindT t x ρ <;> exact Iff.rfl
theorem s_set {i : Nat} {x : Ex} : WS (n + 1) (.asg (.name i) x) ρ S D ↔ WE n x ρ S (fun d S => D.nx (ρ.set i (some d)) S) fun e S => D.ex e ρ S := s_asg
theorem s_asgI {o i x : Ex} : WS (n + 1) (.asgI o i x) ρ S D ↔ WE n x ρ S (fun d S => WE n o ρ S (fun x S => WE n i ρ S (fun y S => ∃ S', putD x y d S = some S' ∧ D.nx ρ S') fun e S => D.ex e ρ S) fun e S => D.ex e ρ S) fun e S => D.ex e ρ S := by
  show WO (ofR _ _ _) D ↔ _
  rw [WO_ofR]
  refine Iff.of_eq (congrArg (fun f => W _ f _) (funext fun d => funext fun S => propext ?_))
  rw [WO_ofR]
  refine Iff.of_eq (congrArg (fun f => W _ f _) (funext fun x => funext fun S => propext ?_))
  rw [WO_ofR]
  refine Iff.of_eq (congrArg (fun f => W _ f _) (funext fun y => funext fun S => propext ?_))
  cases q : putD x y d S with
  | none => exact ⟨fun h => h.elim, fun h => nomatch h.choose_spec.1⟩
  | some S' => exact ⟨fun h => ⟨S', rfl, h⟩, fun ⟨S2, e, h⟩ => by cases e; exact h⟩
theorem s_expr {x : Ex} : WS (n + 1) (.expr x) ρ S D ↔ WE n x ρ S (fun _ S => D.nx ρ S) fun e S => D.ex e ρ S := WO_ofR
theorem s_ret {x : Ex} : WS (n + 1) (.ret x) ρ S D ↔ WE n x ρ S D.rt fun e S => D.ex e ρ S := WO_ofR
theorem s_ifs {c : Ex} {a b : List Sx} : WS (n + 1) (.ifs c a b) ρ S D ↔ WT n c ρ S (fun k S => (k = true → WB n a ρ S D) ∧ (k = false → WB n b ρ S D)) fun e S => D.ex e ρ S := by
  show WO (ofR _ _ _) D ↔ _
  rw [WO_ofR]
  refine Iff.of_eq (congrArg (fun f => W _ f _) (funext fun k => funext fun S => propext ?_))
  cases k with
  | true => exact ⟨fun h => ⟨fun _ => h, fun q => nomatch q⟩, fun h => h.1 rfl⟩
  | false => exact ⟨fun h => ⟨fun q => (nomatch q), fun _ => h⟩, fun h => h.2 rfl⟩
theorem s_skip : WS (n + 1) .skip ρ S D ↔ D.nx ρ S := Iff.rfl
theorem s_brk : WS (n + 1) .brk ρ S D ↔ D.bk ρ S := Iff.rfl
theorem s_cnt : WS (n + 1) .cnt ρ S D ↔ D.ct ρ S := Iff.rfl
/-! loops -/
def WI (n : Nat) (sr : Sr) (ρ : Env) (S : Sto) (Q : Src → Sto → Prop) (X : Di.D → Sto → Prop) : Prop := W (evSr (evs n).e sr ρ S) Q X
theorem i_rng {x : Ex} {Q : Src → Sto → Prop} : WI n (.rng1 x) ρ S Q X ↔ WE n x ρ S (fun d S => match d with
    | .int j => (-(2 ^ 62) ≤ j ∧ j < 2 ^ 62) ∧ Q (.rng 0 j.toNat) S
    | _ => False) X := by
  show W (bindR _ _) Q X ↔ _
  rw [W_bind]
  refine Iff.of_eq (congrArg (fun f => W _ f X) (funext fun d => funext fun S => propext ?_))
  cases d with
  | int j =>
    show W (cond (decide (-(2 ^ 62) ≤ j) && decide (j < 2 ^ 62)) (R.ok (.rng 0 j.toNat) S) .bad) Q X ↔ _
    cases q : (decide (-(2 ^ 62) ≤ j) && decide (j < 2 ^ 62)) with
    | true =>
      simp only [Bool.and_eq_true, decide_eq_true_eq] at q
      exact ⟨fun h => ⟨q, h⟩, fun h => h.2⟩
    | false =>
      refine ⟨fun h => h.elim, fun h => ?_⟩
      have : (decide (-(2 ^ 62) ≤ j) && decide (j < 2 ^ 62)) = true := by
        simp only [Bool.and_eq_true, decide_eq_true_eq]
        exact h.1
      rw [this] at q
      cases q
  | _ => exact Iff.rfl
theorem i_seq {x : Ex} {Q : Src → Sto → Prop} : WI n (.seq x) ρ S Q X ↔ WE n x ρ S (fun d S => ∃ s, srcOf S d = some s ∧ Q s S) X := by
  show W (bindR _ _) Q X ↔ _
  rw [W_bind]
  refine Iff.of_eq (congrArg (fun f => W _ f X) (funext fun d => funext fun S => propext ?_))
  cases q : srcOf S d with
  | none => exact ⟨fun h => h.elim, fun h => nomatch h.choose_spec.1⟩
  | some s => exact ⟨fun h => ⟨s, rfl, h⟩, fun ⟨s2, e, h⟩ => by cases e; exact h⟩
theorem s_for {t : Tg} {sr : Sr} {body : List Sx} : WS (n + 1) (.forI t sr body) ρ S D ↔ WI n sr ρ S (fun src S => WO (loopI (run (evs n).s body) t src far 0 ρ S) D) fun e S => D.ex e ρ S := WO_ofR
theorem loop_inv {body : List Sx} {t : Tg} {src : Src} (P : Nat → Env → Sto → Prop) (N : Nat) (hN : N < far) (h0 : P 0 ρ S)
    (hs : ∀ i ρ S, i < N → P i ρ S → ∃ d ρ1, src.at S i = some (some d) ∧ bindT t d ρ = some ρ1 ∧ WB n body ρ1 S { D with nx := P (i + 1), ct := P (i + 1), bk := D.nx })
    (he : ∀ ρ S, P N ρ S → src.at S N = some none ∧ D.nx ρ S) : WO (loopI (run (evs n).s body) t src far 0 ρ S) D := by
  have gen : ∀ (k i : Nat) (ρ : Env) (S : Sto), i + k = N → P i ρ S → ∀ f, k < f → WO (loopI (run (evs n).s body) t src f i ρ S) D := by
    intro k
    induction k with
    | zero =>
      intro i ρ S e p f hf
      have e' : i = N := e
      subst e'
      obtain ⟨h1, h2⟩ := he ρ S p
      cases f with
      | zero => omega
      | succ f =>
        show WO (match src.at S i with
          | none => .bad
          | some none => .nx ρ S
          | some (some d) => _) D
        rw [h1]
        exact h2
    | succ k ih =>
      intro i ρ S e p f hf
      cases f with
      | zero => omega
      | succ f =>
        obtain ⟨d, ρ1, h1, h2, h3⟩ := hs i ρ S (by omega) p
        show WO (match src.at S i with
          | none => .bad
          | some none => .nx ρ S
          | some (some d) => (match bindT t d ρ with
            | none => .bad
            | some ρ => (match run (evs n).s body ρ S with
              | .nx ρ S => loopI (run (evs n).s body) t src f (i + 1) ρ S
              | .ct ρ S => loopI (run (evs n).s body) t src f (i + 1) ρ S
              | .bk ρ S => .nx ρ S
              | .rt d S => .rt d S
              | .exc e ρ S => .exc e ρ S
              | .bad => .bad))) D
        rw [h1]
        show WO (match bindT t d ρ with
            | none => .bad
            | some ρ => (match run (evs n).s body ρ S with
              | .nx ρ S => loopI (run (evs n).s body) t src f (i + 1) ρ S
              | .ct ρ S => loopI (run (evs n).s body) t src f (i + 1) ρ S
              | .bk ρ S => .nx ρ S
              | .rt d S => .rt d S
              | .exc e ρ S => .exc e ρ S
              | .bad => .bad)) D
        rw [h2]
        have h4 : WO (run (evs n).s body ρ1 S) { D with nx := P (i + 1), ct := P (i + 1), bk := D.nx } := h3
        show WO (match run (evs n).s body ρ1 S with
              | .nx ρ S => loopI (run (evs n).s body) t src f (i + 1) ρ S
              | .ct ρ S => loopI (run (evs n).s body) t src f (i + 1) ρ S
              | .bk ρ S => .nx ρ S
              | .rt d S => .rt d S
              | .exc e ρ S => .exc e ρ S
              | .bad => .bad) D
        cases q : run (evs n).s body ρ1 S with
        | nx ρ5 S5 => rw [q] at h4; exact ih (i + 1) ρ5 S5 (by omega) h4 f (by omega)
        | ct ρ5 S5 => rw [q] at h4; exact ih (i + 1) ρ5 S5 (by omega) h4 f (by omega)
        | bk ρ5 S5 => rw [q] at h4; exact h4
        | rt d5 S5 => rw [q] at h4; exact h4
        | exc x5 ρ5 S5 => rw [q] at h4; exact h4
        | bad => rw [q] at h4; exact h4
  exact gen N 0 ρ S (by omega) h0 far hN
/-- a comprehension: its list stands at the store's next number -/
theorem e_comp {own : List Nat} {t : Tg} {sr : Sr} {ts : List Ex} {x : Ex} : WE (n + 1) (.comp own t sr ts x) ρ S Q X ↔
    WI n sr ρ S (fun src S0 => W (match loopC (evs n).e t src ts x own ρ S0.n far 0 (S0.push (.lst [])) with
      | .ok _ S => .ok (.ref S0.n) S
      | _ => .bad) Q X) X := W_bind
def WTs (n : Nat) (ts : List Ex) (ρ : Env) (S : Sto) (Q : Bool → Sto → Prop) (X : Di.D → Sto → Prop) : Prop := W (evTs (evs n).e ts ρ S) Q X
theorem ts_nil {Q : Bool → Sto → Prop} : WTs n [] ρ S Q X ↔ Q true S := Iff.rfl
theorem ts_one {x : Ex} {Q : Bool → Sto → Prop} : WTs n [x] ρ S Q X ↔ WT n x ρ S Q X := Iff.rfl
theorem comp_inv {own : List Nat} {t : Tg} {src : Src} {ts : List Ex} {x : Ex} {D0 : Nat} {r : Di.D} (P : Nat → Sto → Prop) (N : Nat) (hN : N < far) (h0 : P 0 S)
    (hs : ∀ i S, i < N → P i S → ∃ d ρ1, src.at S i = some (some d) ∧ bindT t d (wipe ρ own) = some ρ1 ∧
      WTs n ts ρ1 S (fun b S => (b = true → WE n x ρ1 S (fun y S => ∃ acc, S.get D0 = some (.lst acc) ∧ acc.length < cap ∧ P (i + 1) (S.set D0 (.lst (acc ++ [y])))) fun _ _ => False) ∧ (b = false → P (i + 1) S)) fun _ _ => False)
    (he : ∀ S, P N S → src.at S N = some none ∧ Q r S) : W (match loopC (evs n).e t src ts x own ρ D0 far 0 S with
      | .ok _ S => .ok r S
      | _ => .bad) Q X := by
  have gen : ∀ (k i : Nat) (S : Sto), i + k = N → P i S → ∀ f, k < f → ∃ S', loopC (evs n).e t src ts x own ρ D0 f i S = .ok () S' ∧ Q r S' := by
    intro k
    induction k with
    | zero =>
      intro i S e p f hf
      have e' : i = N := e
      subst e'
      obtain ⟨h1, h2⟩ := he S p
      cases f with
      | zero => omega
      | succ f => exact ⟨S, by unfold loopC; rw [h1], h2⟩
    | succ k ih =>
      intro i S e p f hf
      cases f with
      | zero => omega
      | succ f =>
        obtain ⟨d, ρ1, h1, h2, h3⟩ := hs i S (by omega) p
        unfold loopC
        rw [h1]
        dsimp only
        rw [h2]
        dsimp only
        have h4 : W (evTs (evs n).e ts ρ1 S) _ _ := h3
        cases q : evTs (evs n).e ts ρ1 S with
        | bad => rw [q] at h4; exact h4.elim
        | exc e S => rw [q] at h4; exact h4.elim
        | ok b S1 =>
          rw [q] at h4
          cases b with
          | false => exact ih (i + 1) S1 (by omega) (h4.2 rfl) f (by omega)
          | true =>
            have h5 : W ((evs n).e x ρ1 S1) _ _ := h4.1 rfl
            dsimp only
            cases q2 : (evs n).e x ρ1 S1 with
            | bad => rw [q2] at h5; exact h5.elim
            | exc e S => rw [q2] at h5; exact h5.elim
            | ok y S2 =>
              rw [q2] at h5
              obtain ⟨acc, h6, h7, h8⟩ := h5
              dsimp only
              rw [h6]
              dsimp only
              rw [show Nat.blt acc.length cap = true from Nat.ble_eq_true_of_le h7]
              exact ih (i + 1) _ (by omega) h8 f (by omega)
  obtain ⟨S', h1, h2⟩ := gen N 0 S (by omega) h0 far hN
  rw [h1]
  exact h2
end
/-! leaves -/
theorem truth_bl {S : Sto} {b : Bool} : truth S (.bl b) = some b := rfl
section
variable {S : Sto} {Q : D → Sto → Prop}
theorem wd_add_i {i j : Int} : Wd (bino .add (.int i) (.int j) S) Q ↔ Q (.int (i + j)) S := Iff.rfl
theorem wd_add_s {s t : Tx} : Wd (bino .add (.str s) (.str t) S) Q ↔ (s.length + t.length ≤ cap ∧ Q (.str (s ++ t)) S) := by
  show Wd (cond (Nat.ble (s.length + t.length) cap) _ none) Q ↔ _
  rw [Wd_cond, Nat.ble_eq]
theorem wd_sub {i j : Int} : Wd (bino .sub (.int i) (.int j) S) Q ↔ Q (.int (i - j)) S := Iff.rfl
theorem wd_intB {f : Int → Int → Option Int} {i j k : Int} (h : f i j = some k) : Wd (intB f (.int i) (.int j) S) Q ↔ Q (.int k) S := by
  show Wd (match f i j with
    | some k => some (.int k, S)
    | none => none) Q ↔ _
  rw [h]
  exact Iff.rfl
theorem wd_mul {i j : Int} : Wd (bino .mul (.int i) (.int j) S) Q ↔ (mulOk i j = true ∧ Q (.int (i * j)) S) := by
  show Wd (match (cond (mulOk i j) (some (i * j)) none) with
    | some k => some (.int k, S)
    | none => none) Q ↔ _
  cases mulOk i j with
  | true => exact ⟨fun h => ⟨rfl, h⟩, fun h => h.2⟩
  | false => exact ⟨fun h => h.elim, fun h => nomatch h.1⟩
theorem wd_mod {i j : Int} : Wd (bino .mod (.int i) (.int j) S) Q ↔ (0 < j ∧ Q (.int (i % j)) S) := by
  show Wd (match (cond (decide (0 < j)) (some (i % j)) none) with
    | some k => some (.int k, S)
    | none => none) Q ↔ _
  by_cases h : 0 < j
  · rw [decide_eq_true h]; exact ⟨fun q => ⟨h, q⟩, fun q => q.2⟩
  · rw [decide_eq_false h]; exact ⟨fun q => q.elim, fun q => h q.1⟩
theorem wd_fdiv {i j : Int} : Wd (bino .fdiv (.int i) (.int j) S) Q ↔ ((0 < j ∧ j < 1073741824) ∧ Q (.int (i / j)) S) := by
  show Wd (match (cond (decide (0 < j) && decide (j < 1073741824)) (some (i / j)) none) with
    | some k => some (.int k, S)
    | none => none) Q ↔ _
  by_cases h : 0 < j ∧ j < 1073741824
  · rw [decide_eq_true h.1, decide_eq_true h.2]; exact ⟨fun q => ⟨h, q⟩, fun q => q.2⟩
  · have : (decide (0 < j) && decide (j < 1073741824)) = false := by
      rw [Bool.eq_false_iff]
      intro q
      simp only [Bool.and_eq_true, decide_eq_true_eq] at q
      exact h q
    rw [this]; exact ⟨fun q => q.elim, fun q => h q.1⟩
theorem wd_pow {i j : Int} : Wd (bino .pow (.int i) (.int j) S) Q ↔ ((0 ≤ j ∧ j ≤ 1000000 ∧ i.natAbs < 2 ^ 64) ∧ Q (.int (i ^ j.toNat)) S) := by
  show Wd (match (cond (decide (0 ≤ j) && decide (j ≤ 1000000) && decide (i.natAbs < 2 ^ 64)) (some (i ^ j.toNat)) none) with
    | some k => some (.int k, S)
    | none => none) Q ↔ _
  by_cases h : 0 ≤ j ∧ j ≤ 1000000 ∧ i.natAbs < 2 ^ 64
  · rw [decide_eq_true h.1, decide_eq_true h.2.1, decide_eq_true h.2.2]; exact ⟨fun q => ⟨h, q⟩, fun q => q.2⟩
  · have : (decide (0 ≤ j) && decide (j ≤ 1000000) && decide (i.natAbs < 2 ^ 64)) = false := by
      rw [Bool.eq_false_iff]
      intro q
      simp only [Bool.and_eq_true, decide_eq_true_eq] at q
      exact h ⟨q.1.1, q.1.2, q.2⟩
    rw [this]; exact ⟨fun q => q.elim, fun q => h q.1⟩
theorem wd_lt {i j : Int} : Wd (cmpo .lt (.int i) (.int j) S) Q ↔ Q (.bl (decide (i < j))) S := Iff.rfl
theorem wd_le {i j : Int} : Wd (cmpo .le (.int i) (.int j) S) Q ↔ Q (.bl (decide (i ≤ j))) S := Iff.rfl
theorem wd_gt {i j : Int} : Wd (cmpo .gt (.int i) (.int j) S) Q ↔ Q (.bl (decide (j < i))) S := Iff.rfl
theorem wd_ge {i j : Int} : Wd (cmpo .ge (.int i) (.int j) S) Q ↔ Q (.bl (decide (j ≤ i))) S := Iff.rfl
theorem wd_eq {x y : D} {b : Bool} (h : eqD S x y = some b) : Wd (cmpo .eq x y S) Q ↔ Q (.bl b) S := by
  show Wd (okB (eqD S x y) S) Q ↔ _
  rw [h]
  exact Iff.rfl
theorem wd_ne {x y : D} {b : Bool} (h : eqD S x y = some b) : Wd (cmpo .ne x y S) Q ↔ Q (.bl (!b)) S := by
  show Wd (okN (eqD S x y) S) Q ↔ _
  rw [h]
  exact Iff.rfl
theorem wd_eq_s {s t : Tx} : Wd (cmpo .eq (.str s) (.str t) S) Q ↔ Q (.bl (decide (s = t))) S := Iff.rfl
theorem wd_ne_s {s t : Tx} : Wd (cmpo .ne (.str s) (.str t) S) Q ↔ Q (.bl (!decide (s = t))) S := Iff.rfl
theorem wd_eq_i {i j : Int} : Wd (cmpo .eq (.int i) (.int j) S) Q ↔ Q (.bl (decide (i = j))) S := Iff.rfl
theorem wd_ne_i {i j : Int} : Wd (cmpo .ne (.int i) (.int j) S) Q ↔ Q (.bl (!decide (i = j))) S := Iff.rfl
theorem wd_isN {x : D} : Wd (cmpo .isN x .non S) Q ↔ Q (.bl (isNon x)) S := Iff.rfl
theorem wd_idx {x : D} {k : Int} {xs : List D} {d : D} (h : items S x = some xs) (h2 : atD xs k = some d) : Wd (idxD S x (.int k)) Q ↔ Q d S := by
  cases x with
  | str s => cases h
  | non => cases h
  | bl _ => cases h
  | int _ => cases h
  | tup ds =>
    show Wd (match items S (.tup ds) with
      | some xs => (match atD xs k with
        | some d => some (d, S)
        | none => none)
      | none => none) Q ↔ _
    rw [h]
    show Wd (match atD xs k with
        | some d => some (d, S)
        | none => none) Q ↔ _
    rw [h2]
    exact Iff.rfl
  | ref i =>
    show Wd (match items S (.ref i) with
      | some xs => (match atD xs k with
        | some d => some (d, S)
        | none => none)
      | none => none) Q ↔ _
    rw [h]
    show Wd (match atD xs k with
        | some d => some (d, S)
        | none => none) Q ↔ _
    rw [h2]
    exact Iff.rfl
theorem atD_nat {α : Type} {xs : List α} {k : Nat} {d : α} (h : xs[k]? = some d) : atD xs (k : Int) = some d := by
  have hl : k < xs.length := (List.getElem?_eq_some_iff.mp h).1
  show (match (cond (Nat.blt k xs.length) (some k) none) with
    | some j => xs[j]?
    | none => none) = _
  rw [show Nat.blt k xs.length = true from Nat.ble_eq_true_of_le hl]
  exact h
theorem wd_rev {s : Tx} : Wd (revD (.str s) S) Q ↔ (s.length ≤ cap ∧ Q (.str s.reverse) S) := by
  show Wd (cond (Nat.ble s.length cap) _ none) Q ↔ _
  rw [Wd_cond, Nat.ble_eq]
theorem wd_len_s {s : Tx} : Wd (prim .len [.str s] S) Q ↔ (s.length ≤ cap ∧ Q (.int s.length) S) := by
  show Wd (cond (Nat.ble s.length cap) _ none) Q ↔ _
  rw [Wd_cond, Nat.ble_eq]
theorem wd_len {x : D} {xs : List D} (h : items S x = some xs) : Wd (prim .len [x] S) Q ↔ Q (.int xs.length) S := by
  have e : prim .len [x] S = (match items S x with
    | some xs => some (.int xs.length, S)
    | none => none) := by
    cases x <;> first | rfl | cases h
  rw [e, h]
  exact Iff.rfl
theorem wd_abs {i : Int} : Wd (prim .abs [.int i] S) Q ↔ Q (.int (if i < 0 then -i else i)) S := Iff.rfl
theorem wd_int {i : Int} : Wd (prim .int [.int i] S) Q ↔ Q (.int i) S := Iff.rfl
theorem wd_max2 {i j : Int} : Wd (prim .max2 [.int i, .int j] S) Q ↔ Q (.int (if j > i then j else i)) S := Iff.rfl
theorem wd_min2 {i j : Int} : Wd (prim .min2 [.int i, .int j] S) Q ↔ Q (.int (if j < i then j else i)) S := Iff.rfl
theorem wd_list_s {s : Tx} : Wd (prim .list [.str s] S) Q ↔ (s.length ≤ cap ∧ Q (.ref S.n) (S.push (.lst (s.map fun c => .str [c])))) := by
  show Wd (newL (s.map fun c => .str [c]) S) Q ↔ _
  rw [wd_newL, List.length_map]
theorem wd_list {x : D} {xs : List D} (h : items S x = some xs) : Wd (prim .list [x] S) Q ↔ (xs.length ≤ cap ∧ Q (.ref S.n) (S.push (.lst xs))) := by
  have e : prim .list [x] S = (match items S x with
    | some xs => newL xs S
    | none => none) := by
    cases x <;> first | rfl | cases h
  rw [e, h]
  exact wd_newL
theorem wd_tuple {x : D} {xs : List D} (h : items S x = some xs) : Wd (prim .tuple [x] S) Q ↔ Q (.tup xs) S := by
  show Wd (match items S x with
    | some xs => some (.tup xs, S)
    | none => none) Q ↔ _
  rw [h]
  exact Iff.rfl
theorem wd_append {i : Nat} {xs : List D} {d : D} (h : S.get i = some (.lst xs)) : Wd (prim .append [.ref i, d] S) Q ↔ (xs.length < cap ∧ Q .non (S.set i (.lst (xs ++ [d])))) := by
  show Wd (match S.get i with
    | some (.lst xs) => cond (Nat.blt xs.length cap) (some (.non, S.set i (.lst (xs ++ [d])))) none
    | _ => none) Q ↔ _
  rw [h]
  show Wd (cond (Nat.blt xs.length cap) _ none) Q ↔ _
  rw [Wd_cond, Nat.blt_eq]
theorem recv_append {i : Nat} {xs : List D} (h : S.get i = some (.lst xs)) : recv .append (.ref i) S = true := by
  show (match S.get i with
    | some (.lst _) => true
    | some (.rol _) => true
    | _ => false) = true
  rw [h]
theorem txts_map (ts : List Tx) : txts (ts.map .str) = some ts := by
  induction ts with
  | nil => rfl
  | cons t ts ih =>
    show (match txts (ts.map .str) with
      | some l => some (t :: l)
      | none => none) = _
    rw [ih]
theorem joinT_nil : ∀ ts : List Tx, joinT [] ts = ts.flatten
  | [] => rfl
  | [x] => by simp [joinT]
  | x :: y :: r => by
    show x ++ [] ++ joinT [] (y :: r) = _
    rw [joinT_nil (y :: r), List.append_nil]
    rfl
theorem sumLen_eq : ∀ ts : List Tx, sumLen ts = ts.flatten.length
  | [] => rfl
  | t :: ts => by
    show t.length + sumLen ts = _
    rw [sumLen_eq ts, List.flatten_cons, List.length_append]
theorem wd_join0 {x : D} {ts : List Tx} (h : items S x = some (ts.map .str)) : Wd (prim .join [.str [], x] S) Q ↔ (ts.flatten.length ≤ cap ∧ Q (.str ts.flatten) S) := by
  show Wd (match items S x with
    | some xs => (match txts xs with
      | some ts => cond (Nat.ble (sumLen ts + ts.length * 0) cap) (some (.str (joinT [] ts), S)) none
      | none => none)
    | none => none) Q ↔ _
  rw [h]
  show Wd (match txts (ts.map .str) with
      | some ts => cond (Nat.ble (sumLen ts + ts.length * 0) cap) (some (.str (joinT [] ts), S)) none
      | none => none) Q ↔ _
  rw [txts_map]
  show Wd (cond (Nat.ble (sumLen ts + ts.length * 0) cap) (some (.str (joinT [] ts), S)) none) Q ↔ _
  rw [Wd_cond, Nat.ble_eq, joinT_nil, sumLen_eq]
  simp
/-- the store -/
theorem items_lst {i : Nat} {xs : List D} (h : S.get i = some (.lst xs)) : items S (.ref i) = some xs := by
  show (match S.get i with
    | some (.lst xs) => some xs
    | some (.rol xs) => some xs
    | _ => none) = _
  rw [h]
theorem items_rol {i : Nat} {xs : List D} (h : S.get i = some (.rol xs)) : items S (.ref i) = some xs := by
  show (match S.get i with
    | some (.lst xs) => some xs
    | some (.rol xs) => some xs
    | _ => none) = _
  rw [h]
theorem get_set_same {i : Nat} {o : MO} : (S.set i o).get i = some o := by rw [Sto.get_set, if_pos rfl]
theorem get_set_ne {i j : Nat} {o : MO} (h : j ≠ i) : (S.set i o).get j = S.get j := by rw [Sto.get_set, if_neg h]
theorem get_push_new {o : MO} : (S.push o).get S.n = some o := by rw [Sto.get_push, if_pos rfl]
theorem get_push_old {j : Nat} {o : MO} (h : j < S.n) : (S.push o).get j = S.get j := by rw [Sto.get_push, if_neg (Nat.ne_of_lt h)]
theorem put_at {a : Nat} {xs : List D} {k : Nat} {d : D} (h : S.get a = some (.lst xs)) (hk : k < xs.length) : putD (.ref a) (.int (k : Int)) d S = some (S.set a (.lst (xs.set k d))) := by
  show (match S.get a with
    | some (.lst xs) => (match (cond (Nat.blt k xs.length) (some k) none) with
      | some j => some (S.set a (.lst (xs.set j d)))
      | none => none)
    | _ => none) = _
  rw [h]
  show (match (cond (Nat.blt k xs.length) (some k) none) with
      | some j => some (S.set a (.lst (xs.set j d)))
      | none => none) = _
  rw [show Nat.blt k xs.length = true from Nat.ble_eq_true_of_le hk]
  rfl
end
theorem at_rng {S : Sto} {lo : Int} {n i : Nat} (h : i < n) : (Src.rng lo n).at S i = some (some (.int (lo + i))) := by
  show some (cond (Nat.blt i n) _ _) = _
  rw [show Nat.blt i n = true from Nat.ble_eq_true_of_le h]
  rfl
theorem end_rng {S : Sto} {lo : Int} {n : Nat} : (Src.rng lo n).at S n = some none := by
  show some (cond (Nat.blt n n) _ _) = _
  rw [show Nat.blt n n = false from by
    rw [Bool.eq_false_iff]
    intro z
    exact Nat.lt_irrefl n (Nat.le_of_ble_eq_true z)]
  rfl
theorem at_live {S : Sto} {a i : Nat} {xs : List D} (h : items S (.ref a) = some xs) : (Src.live a).at S i = some xs[i]? := by
  have h' : (match S.get a with
    | some (.lst xs) => some xs
    | some (.rol xs) => some xs
    | _ => none) = some xs := h
  show (match S.get a with
    | some (.lst xs) => some xs[i]?
    | some (.rol xs) => some xs[i]?
    | _ => none) = _
  cases q : S.get a with
  | none => rw [q] at h'; cases h'
  | some o =>
    rw [q] at h'
    cases o with
    | lst ys => cases h'; rfl
    | rol ys => cases h'; rfl
    | dct _ => cases h'
    | ins _ _ => cases h'
/-- what is walked over a list or a tuple, in a store in which it is the same -/
theorem src_items {S : Sto} {d : D} {xs : List D} (h : items S d = some xs) : ∃ s, srcOf S d = some s ∧ ∀ S' i, items S' d = some xs → s.at S' i = some xs[i]? := by
  cases d with
  | tup ds => cases h; exact ⟨_, rfl, fun _ _ _ => rfl⟩
  | ref a =>
    refine ⟨.live a, ?_, fun S' i h' => at_live h'⟩
    have h' : (match S.get a with
      | some (.lst xs) => some xs
      | some (.rol xs) => some xs
      | _ => none) = some xs := h
    show (match S.get a with
      | some (.lst _) => some (Src.live a)
      | some (.rol _) => some (Src.live a)
      | _ => none) = _
    cases q : S.get a with
    | none => rw [q] at h'; cases h'
    | some o =>
      rw [q] at h'
      cases o with
      | lst ys => rfl
      | rol ys => rfl
      | dct _ => cases h'
      | ins _ _ => cases h'
  | _ => cases h
/-- old objects stay, but the one at b -/
structure Fr (b : Nat) (S S' : Sto) : Prop where
  le : S.n ≤ S'.n
  old : ∀ j, j < S.n → j ≠ b → S'.get j = S.get j
theorem Fr.refl (b : Nat) (S : Sto) : Fr b S S := ⟨Nat.le_refl _, fun _ _ _ => rfl⟩
theorem Fr.trans {b : Nat} {S S1 S2 : Sto} (h : Fr b S S1) (h2 : Fr b S1 S2) : Fr b S S2 := ⟨Nat.le_trans h.le h2.le, fun j hj hb => (h2.old j (Nat.lt_of_lt_of_le hj h.le) hb).trans (h.old j hj hb)⟩
theorem Fr.set {b : Nat} {S : Sto} {o : MO} : Fr b S (S.set b o) := ⟨Nat.le_refl _, fun j _ hb => get_set_ne hb⟩
theorem Fr.push {b : Nat} {S : Sto} {o : MO} : Fr b S (S.push o) := ⟨Nat.le_succ _, fun j hj _ => get_push_old hj⟩
/-- a list or a tuple that stays while S's objects stay -/
def Has (b : Nat) (S : Sto) (x : D) (xs : List D) : Prop := ∀ S', Fr b S S' → items S' x = some xs
theorem Has.now {b : Nat} {S : Sto} {x : D} {xs : List D} (h : Has b S x xs) : items S x = some xs := h S (Fr.refl b S)
theorem Has.fr {b : Nat} {S S1 : Sto} {x : D} {xs : List D} (h : Has b S x xs) (f : Fr b S S1) : Has b S1 x xs := fun S' f' => h S' (f.trans f')
theorem Has.tup {b : Nat} {S : Sto} {xs : List D} : Has b S (.tup xs) xs := fun _ _ => rfl
theorem Has.lst {b i : Nat} {S : Sto} {xs : List D} (h : S.get i = some (.lst xs)) (hi : i < S.n) (hb : i ≠ b) : Has b S (.ref i) xs := fun S' f => items_lst (by rw [f.old i hi hb]; exact h)
theorem Fr.all {b : Nat} {S S' : Sto} (f : Fr S.n S S') : Fr b S S' := ⟨f.le, fun j hj _ => f.old j hj (Nat.ne_of_lt hj)⟩
theorem Has.isNon {b : Nat} {S : Sto} {x : D} {xs : List D} (h : Has b S x xs) : isNon x = false := by
  have q := h.now
  cases x <;> first | rfl | cases q
/-- a store to what S did not know -/
theorem Fr.new {b i : Nat} {S S' : Sto} {o : MO} (h : Fr b S S') (hi : S.n ≤ i) : Fr b S (S'.set i o) := ⟨h.le, fun j hj hb => by rw [get_set_ne (by omega)]; exact h.old j hj hb⟩
end Di
end

section
set_option Elab.async false
set_option linter.all false
set_option maxRecDepth 100000
set_option maxHeartbeats 4000000
/-! the relation between Di's values and the hand layer's -/
namespace DiS
open PySem PySem.Spec PyProof.Rows L2
open Di (Sto MO)

structure G where
  K : PySem.W.Frag
  ca : Nat → Addr
  fn : Nat → Str

/-- a list of the written part -/
def KLit (K : PySem.W.Frag) (a : Addr) (xs : List V) : Prop :=
  ∃ (o : Obj) (its : Array Value) (n : Nat), K.lookup a = some o ∧ o.cls = .type "list" ∧ o.dict = none ∧ o.data = .seq its n ∧ its.size ≤ sizeLine ∧ Vals xs its.toList
abbrev Mp := Nat → Addr
mutual
inductive DV (g : G) (m : Mp) (n : Nat) (H : Hp) : Di.D → V → Prop
  | non : DV g m n H .non .non
  | bl (b : Bool) : DV g m n H (.bl b) (.bl b)
  | int (i : Int) : DV g m n H (.int i) (.int i)
  | str (s : List Nat) : DV g m n H (.str s) (.str ⟨s.toArray⟩)
  | tup {ds : List Di.D} {a : Addr} {vs : List V} : SqT g.K H a vs → DVs g m n H ds vs → DV g m n H (.tup ds) (.ref a)
  | ref {i : Nat} : i < n → DV g m n H (.ref i) (.ref (m i))
inductive DVs (g : G) (m : Mp) (n : Nat) (H : Hp) : List Di.D → List V → Prop
  | nil : DVs g m n H [] []
  | cons {d : Di.D} {v : V} {ds : List Di.D} {vs : List V} : DV g m n H d v → DVs g m n H ds vs → DVs g m n H (d :: ds) (v :: vs)
end
structure Ext (m : Mp) (n : Nat) (H : Hp) (m' : Mp) (n' : Nat) (H' : Hp) : Prop where
  le : n ≤ n'
  ids : ∀ i, i < n → m' i = m i
  tup : ∀ a xs, H a = some (.tup xs) → H' a = some (.tup xs)
  frz : ∀ a o u, H a = some (.frz o u) → H' a = some (.frz o u)
theorem Ext.refl (m : Mp) (n : Nat) (H : Hp) : Ext m n H m n H := ⟨Nat.le_refl _, fun _ _ => rfl, fun _ _ h => h, fun _ _ _ h => h⟩
theorem Ext.trans {m m1 m2 : Mp} {n n1 n2 : Nat} {H H1 H2 : Hp} (a : Ext m n H m1 n1 H1) (b : Ext m1 n1 H1 m2 n2 H2) : Ext m n H m2 n2 H2 :=
  ⟨Nat.le_trans a.le b.le, fun i hi => (b.ids i (Nat.lt_of_lt_of_le hi a.le)).trans (a.ids i hi), fun x xs h => b.tup x xs (a.tup x xs h), fun x o u h => b.frz x o u (a.frz x o u h)⟩
theorem Ext.sqT {m m1 : Mp} {n n1 : Nat} {H H1 : Hp} {K : PySem.W.Frag} {a : Addr} {vs : List V} (e : Ext m n H m1 n1 H1) (h : SqT K H a vs) : SqT K H1 a vs := by
  rcases h with (h | ⟨o, h⟩) | h
  · exact .inl (.inl (e.tup _ _ h))
  · exact .inl (.inr ⟨o, e.frz _ _ _ h⟩)
  · exact .inr h
section
variable {g : G} {m m' : Mp} {n n' : Nat} {H H' : Hp}
mutual
theorem DV.ext (e : Ext m n H m' n' H') : ∀ {d : Di.D} {v : V}, DV g m n H d v → DV g m' n' H' d v
  | _, _, .non => .non
  | _, _, .bl b => .bl b
  | _, _, .int i => .int i
  | _, _, .str s => .str s
  | _, _, .tup h hs => .tup (e.sqT h) (DVs.ext e hs)
  | _, _, .ref (i := i) h => by
    rw [← e.ids i h]
    exact .ref (Nat.lt_of_lt_of_le h e.le)
theorem DVs.ext (e : Ext m n H m' n' H') : ∀ {ds : List Di.D} {vs : List V}, DVs g m n H ds vs → DVs g m' n' H' ds vs
  | _, _, .nil => .nil
  | _, _, .cons h hs => .cons (DV.ext e h) (DVs.ext e hs)
end
theorem DVs.length : ∀ {ds : List Di.D} {vs : List V}, DVs g m n H ds vs → ds.length = vs.length
  | _, _, .nil => rfl
  | _, _, .cons _ h => congrArg (· + 1) h.length
theorem DVs.get : ∀ {ds : List Di.D} {vs : List V} {i : Nat} {d : Di.D}, DVs g m n H ds vs → ds[i]? = some d → ∃ v, vs[i]? = some v ∧ DV g m n H d v
  | _, _, _, _, .nil, e => by simp at e
  | _, _, 0, _, .cons h _, e => by simp at e; subst e; exact ⟨_, rfl, h⟩
  | _, _, i + 1, d, .cons _ hs, e => by
    obtain ⟨v, a, b⟩ := DVs.get (i := i) hs (by simpa using e)
    exact ⟨v, by simpa using a, b⟩
theorem DVs.append : ∀ {ds es : List Di.D} {vs ws : List V}, DVs g m n H ds vs → DVs g m n H es ws → DVs g m n H (ds ++ es) (vs ++ ws)
  | _, _, _, _, .nil, h => h
  | _, _, _, _, .cons h hs, h' => .cons h (hs.append h')
theorem DVs.set {d : Di.D} {v : V} (h : DV g m n H d v) : ∀ {ds : List Di.D} {vs : List V} (i : Nat), DVs g m n H ds vs → DVs g m n H (ds.set i d) (vs.set i v)
  | _, _, _, .nil => .nil
  | _, _, 0, .cons _ hs => .cons h hs
  | _, _, i + 1, .cons a hs => .cons a (hs.set h i)
theorem DVs.none_of {ds : List Di.D} {vs : List V} {i : Nat} (h : DVs g m n H ds vs) (e : ds[i]? = none) : vs.length ≤ i := by
  rw [← h.length]
  exact List.getElem?_eq_none_iff.mp e
theorem DVs.chars : ∀ (s : List Nat), DVs g m n H (s.map fun c => Di.D.str [c]) (s.map fun c => V.str ⟨#[c]⟩)
  | [] => .nil
  | c :: s => .cons (.str [c]) (DVs.chars s)
end

def mu : MO → Bool
  | .rol _ => false
  | _ => true
/-- an object of the store as the abstract heap has it -/
def ObjR (g : G) (m : Mp) (n : Nat) (H : Hp) (a : Addr) : MO → Prop
  | .lst ds => ∃ vs, H a = some (.lst vs) ∧ DVs g m n H ds vs
  | .rol ds => ∃ vs, ((∃ o, H a = some (.frz o (.lst vs))) ∨ KLit g.K a vs) ∧ DVs g m n H ds vs
  | .dct _ => False
  | .ins _ _ => False
structure RelS (g : G) (m : Mp) (S : Sto) (H : Hp) : Prop where
  obj : ∀ i o, S.get i = some o → i < S.n ∧ ObjR g m S.n H (m i) o
  inj : ∀ i j oi oj, S.get i = some oi → S.get j = some oj → mu oi = true → mu oj = true → m i = m j → i = j
/-- the addresses that H does not know -/
theorem ObjR.some {g : G} {m : Mp} {n : Nat} {H : Hp} {a : Addr} {o : MO} (h : ObjR g m n H a o) (k : mu o = true) : H a ≠ none := by
  cases o with
  | lst ds => obtain ⟨vs, e, _⟩ := h; rw [e]; exact fun q => nomatch q
  | rol ds => cases k
  | dct _ => exact h.elim
  | ins _ _ => exact h.elim
theorem ObjR.notup {g : G} {m : Mp} {n : Nat} {H : Hp} {a : Addr} {o : MO} {xs : List V} (h : ObjR g m n H a o) (k : mu o = true) : H a ≠ Option.some (.tup xs) := by
  cases o with
  | lst ds => obtain ⟨vs, e, _⟩ := h; rw [e]; exact fun q => nomatch q
  | rol ds => cases k
  | dct _ => exact h.elim
  | ins _ _ => exact h.elim
theorem ObjR.nofrz {g : G} {m : Mp} {n : Nat} {H : Hp} {a : Addr} {o : MO} {x : Obj} {u : HO} (h : ObjR g m n H a o) (k : mu o = true) : H a ≠ Option.some (.frz x u) := by
  cases o with
  | lst ds => obtain ⟨vs, e, _⟩ := h; rw [e]; exact fun q => nomatch q
  | rol ds => cases k
  | dct _ => exact h.elim
  | ins _ _ => exact h.elim
/-- an object that stays at its place -/
theorem ObjR.ext {g : G} {m m' : Mp} {n n' : Nat} {H H' : Hp} {a : Addr} {o : MO} (e : Ext m n H m' n' H') (k : mu o = true → H' a = H a) (h : ObjR g m n H a o) : ObjR g m' n' H' a o := by
  cases o with
  | lst ds =>
    obtain ⟨vs, h1, h2⟩ := h
    exact ⟨vs, (k rfl).trans h1, h2.ext e⟩
  | rol ds =>
    obtain ⟨vs, h1, h2⟩ := h
    refine ⟨vs, ?_, h2.ext e⟩
    rcases h1 with ⟨x, h1⟩ | h1
    · exact .inl ⟨x, e.frz _ _ _ h1⟩
    · exact .inr h1
  | dct _ => exact h.elim
  | ins _ _ => exact h.elim
section
variable {g : G} {m m' : Mp} {S S' : Sto} {H H' : Hp}
theorem ext_fresh {n : Nat} {p : Addr} {o : HO} (hp : H p = none) : Ext m n H m n (upd H p o) :=
  ⟨Nat.le_refl _, fun _ _ => rfl, fun a xs h => by rw [upd_ne (ne_of_none h hp)]; exact h, fun a x u h => by rw [upd_ne (ne_of_none h hp)]; exact h⟩
/-- something new that the store does not hold -/
theorem RelS.fresh {p : Addr} {o : HO} (r : RelS g m S H) (hp : H p = none) : RelS g m S (upd H p o) := by
  refine ⟨fun i x h => ⟨(r.obj i x h).1, (r.obj i x h).2.ext (ext_fresh hp) fun k => ?_⟩, r.inj⟩
  exact upd_ne fun q => (r.obj i x h).2.some k (by rw [q]; exact hp)
/-- a new object of the store -/
def mset (m : Mp) (n : Nat) (p : Addr) : Mp := fun i => if i = n then p else m i
theorem mset_self (m : Mp) (n : Nat) (p : Addr) : mset m n p n = p := if_pos rfl
theorem mset_ne (m : Mp) {n i : Nat} (p : Addr) (h : i ≠ n) : mset m n p i = m i := if_neg h
theorem ext_push {p : Addr} {o : HO} (n : Nat) (hp : H p = none) : Ext m n H (mset m n p) (n + 1) (upd H p o) :=
  ⟨Nat.le_succ _, fun i h => mset_ne m p (Nat.ne_of_lt h), (ext_fresh (m := m) (n := n) hp).tup, (ext_fresh (m := m) (n := n) hp).frz⟩
theorem RelS.push {p : Addr} {o : HO} {mo : MO} (r : RelS g m S H) (hp : H p = none) (k : mu mo = true) (hn : ObjR g (mset m S.n p) (S.n + 1) (upd H p o) p mo) :
    RelS g (mset m S.n p) (S.push mo) (upd H p o) := by
  have old : ∀ i x, i ≠ S.n → (S.push mo).get i = some x → S.get i = some x := fun i x hi h => by
    rw [Sto.get_push, if_neg hi] at h
    exact h
  have new : ∀ x, (S.push mo).get S.n = some x → mo = x := fun x h => by
    rw [Sto.get_push, if_pos rfl] at h
    exact Option.some.inj h
  refine ⟨fun i x h => ?_, fun i j oi oj hi hj ki kj e => ?_⟩
  · by_cases hi : i = S.n
    · subst hi
      have := new x h
      subst this
      exact ⟨Nat.lt_succ_self _, by rw [mset_self]; exact hn⟩
    · have q := r.obj i x (old i x hi h)
      refine ⟨Nat.lt_succ_of_lt q.1, ?_⟩
      rw [mset_ne m p hi]
      exact q.2.ext (ext_push S.n hp) fun k => upd_ne fun z => q.2.some k (by rw [z]; exact hp)
  · by_cases h1 : i = S.n
    · by_cases h2 : j = S.n
      · rw [h1, h2]
      · rw [h1, mset_self, mset_ne m p h2] at e
        exact absurd (by rw [← e]; exact hp) ((r.obj j oj (old j oj h2 hj)).2.some kj)
    · by_cases h2 : j = S.n
      · rw [h2, mset_self, mset_ne m p h1] at e
        exact absurd (by rw [e]; exact hp) ((r.obj i oi (old i oi h1 hi)).2.some ki)
      · rw [mset_ne m p h1, mset_ne m p h2] at e
        exact r.inj i j oi oj (old i oi h1 hi) (old j oj h2 hj) ki kj e
/-- a store to an object -/
theorem ext_set {i : Nat} {mo : MO} {o : HO} (r : RelS g m S H) (h : S.get i = some mo) (k : mu mo = true) : Ext m S.n H m S.n (upd H (m i) o) :=
  ⟨Nat.le_refl _, fun _ _ => rfl, fun a xs e => by rw [upd_ne fun q => (r.obj i mo h).2.notup k (by rw [← q]; exact e)]; exact e, fun a x u e => by rw [upd_ne fun q => (r.obj i mo h).2.nofrz k (by rw [← q]; exact e)]; exact e⟩
theorem RelS.set {i : Nat} {mo mo' : MO} {o : HO} (r : RelS g m S H) (h : S.get i = some mo) (k : mu mo = true) (k' : mu mo' = true) (hn : ObjR g m S.n (upd H (m i) o) (m i) mo') :
    RelS g m (S.set i mo') (upd H (m i) o) := by
  have old : ∀ j x, j ≠ i → (S.set i mo').get j = some x → S.get j = some x := fun j x hj q => by
    rw [Sto.get_set, if_neg hj] at q
    exact q
  have all : ∀ j x, (S.set i mo').get j = some x → mu x = true → ∃ y, S.get j = some y ∧ mu y = true := fun j x q kx => by
    by_cases hj : j = i
    · subst hj
      exact ⟨mo, h, k⟩
    · exact ⟨x, old j x hj q, kx⟩
  refine ⟨fun j x q => ?_, fun a b oa ob ha hb ka kb e => ?_⟩
  · by_cases hj : j = i
    · subst hj
      rw [Sto.get_set, if_pos rfl] at q
      have := Option.some.inj q
      subst this
      exact ⟨(r.obj j mo h).1, hn⟩
    · have z := r.obj j x (old j x hj q)
      refine ⟨z.1, ?_⟩
      show ObjR g m S.n (upd H (m i) o) (m j) x
      exact z.2.ext (ext_set r h k) fun kx => upd_ne fun e => hj (r.inj j i x mo (old j x hj q) h kx k e)
  · obtain ⟨y1, q1, k1⟩ := all a oa ha ka
    obtain ⟨y2, q2, k2⟩ := all b ob hb kb
    exact r.inj a b y1 y2 q1 q2 k1 k2 e
theorem RelS.setL {i : Nat} {ds es : List Di.D} {vs : List V} (r : RelS g m S H) (h : S.get i = some (.lst ds)) (hn : DVs g m S.n H es vs) :
    Ext m S.n H m S.n (upd H (m i) (.lst vs)) ∧ RelS g m (S.set i (.lst es)) (upd H (m i) (.lst vs)) := by
  have e := ext_set (o := .lst vs) r h rfl
  exact ⟨e, r.set h rfl rfl ⟨vs, upd_same, hn.ext e⟩⟩
theorem RelS.pushL {p : Addr} {es : List Di.D} {vs : List V} (r : RelS g m S H) (hp : H p = none) (hn : DVs g m S.n H es vs) :
    Ext m S.n H (mset m S.n p) (S.n + 1) (upd H p (.lst vs)) ∧ RelS g (mset m S.n p) (S.push (.lst es)) (upd H p (.lst vs)) := by
  have e := ext_push (m := m) (o := .lst vs) S.n hp
  exact ⟨e, r.push hp rfl ⟨vs, upd_same, hn.ext e⟩⟩
theorem DV.new (g : G) (m : Mp) (n : Nat) (H : Hp) (p : Addr) : DV g (mset m n p) (n + 1) H (.ref n) (.ref p) := by
  have h : DV g (mset m n p) (n + 1) H (.ref n) (.ref (mset m n p n)) := .ref (Nat.lt_succ_self n)
  rw [mset_self] at h
  exact h
end

/-! slots -/
def RelE (g : G) (m : Mp) (n : Nat) (H : Hp) (ρ : Di.Env) (σ : L2.St) : Prop :=
  ρ.length = σ.length ∧ ∀ (i : Nat) (d : Di.D), ρ[i]? = some (some d) → ∃ v, σ[i]? = some (some v) ∧ DV g m n H d v
section
variable {g : G} {m m' : Mp} {n n' : Nat} {H H' : Hp} {ρ : Di.Env} {σ : L2.St}
theorem RelE.ext (e : Ext m n H m' n' H') (h : RelE g m n H ρ σ) : RelE g m' n' H' ρ σ := ⟨h.1, fun i d q => let ⟨v, a, b⟩ := h.2 i d q; ⟨v, a, b.ext e⟩⟩
theorem RelE.set {d : Di.D} {v : V} (i : Nat) (h : RelE g m n H ρ σ) (hv : DV g m n H d v) : RelE g m n H (ρ.set i (some d)) (σ.set i (some v)) := by
  refine ⟨by rw [List.length_set, List.length_set]; exact h.1, fun j x q => ?_⟩
  by_cases hj : i = j
  · subst hj
    by_cases hl : i < ρ.length
    · rw [List.getElem?_set_self hl] at q
      cases q
      exact ⟨v, by rw [List.getElem?_set_self (by rw [← h.1]; exact hl)], hv⟩
    · rw [List.getElem?_eq_none (by rw [List.length_set]; omega)] at q
      cases q
  · rw [List.getElem?_set_ne hj] at q
    obtain ⟨w, a, b⟩ := h.2 j x q
    exact ⟨w, by rw [List.getElem?_set_ne hj]; exact a, b⟩
theorem RelE.wipe (h : RelE g m n H ρ σ) : ∀ vs : List Nat, RelE g m n H (Di.wipe ρ vs) (L2.wipe σ vs)
  | [] => h
  | v :: vs => by
    have ih := RelE.wipe h vs
    show RelE g m n H ((Di.wipe ρ vs).set v none) ((L2.wipe σ vs).set v none)
    refine ⟨by rw [List.length_set, List.length_set]; exact ih.1, fun j x q => ?_⟩
    by_cases hj : v = j
    · subst hj
      by_cases hl : v < (Di.wipe ρ vs).length
      · rw [List.getElem?_set_self hl] at q
        cases q
      · rw [List.getElem?_eq_none (by rw [List.length_set]; omega)] at q
        cases q
    · rw [List.getElem?_set_ne hj] at q
      obtain ⟨w, a, b⟩ := ih.2 j x q
      exact ⟨w, by rw [List.getElem?_set_ne hj]; exact a, b⟩
end
theorem relE_start {g : G} {m : Mp} {n : Nat} {H : Hp} {ds : List Di.D} {vs : List V} {N : List Str} (h : DVs g m n H ds vs) : RelE g m n H (Di.start N.length ds) (L2.start N vs) := by
  have hl := h.length
  refine ⟨?_, fun i d q => ?_⟩
  · show (ds.map some ++ List.replicate (N.length - ds.length) none).length = (vs.map some ++ List.replicate (N.length - vs.length) none).length
    rw [List.length_append, List.length_append, List.length_map, List.length_map, List.length_replicate, List.length_replicate, hl]
  · have q' : (ds.map some ++ List.replicate (N.length - ds.length) none)[i]? = some (some d) := q
    show ∃ v, (vs.map some ++ List.replicate (N.length - vs.length) none)[i]? = some (some v) ∧ _
    by_cases hi : i < ds.length
    · rw [List.getElem?_append_left (by rw [List.length_map]; exact hi), List.getElem?_map] at q'
      cases e : ds[i]? with
      | none => rw [e] at q'; cases q'
      | some x =>
        rw [e] at q'
        cases q'
        obtain ⟨v, a, b⟩ := h.get e
        exact ⟨v, by rw [List.getElem?_append_left (by rw [List.length_map]; omega), List.getElem?_map, a]; rfl, b⟩
    · rw [List.getElem?_append_right (by rw [List.length_map]; omega), List.getElem?_replicate] at q'
      split at q' <;> cases q'

/-! exceptions: class number and the fields' values -/
inductive XR (g : G) (m : Mp) (n : Nat) (H : Hp) : Di.D → Value → Option Addr → Prop
  | none : False → XR g m n H .non .none none

/-! what a run of Di promises -/
section
variable {α β : Type}
def Po (g : G) (W : WX) (σ : L2.St) (m : Mp) (n : Nat) (H : Hp) (r : Di.R α) (k : α → Sto → Mp → Hp → Prop) : Prop := match r with
  | .ok a S' => ∀ m' H', Ext m n H m' S'.n H' → RelS g m' S' H' → k a S' m' H'
  | .exc e S' => ∀ m' H' cls d, Ext m n H m' S'.n H' → RelS g m' S' H' → XR g m' S'.n H' e cls d → W cls d σ H'
  | .bad => False
variable {g : G} {W : WX} {σ : L2.St} {m : Mp} {n : Nat} {H : Hp}
theorem Po.bind {r : Di.R α} {f : α → Sto → Di.R β} {k : β → Sto → Mp → Hp → Prop} (h : Po g W σ m n H (Di.bindR r f) k) :
    Po g W σ m n H r (fun a S1 m1 H1 => Po g W σ m1 S1.n H1 (f a S1) k) := by
  cases r with
  | bad => exact h
  | exc e S => exact h
  | ok a S =>
    intro m1 H1 e1 r1
    have h' : Po g W σ m n H (f a S) k := h
    cases hf : f a S with
    | bad => rw [hf] at h'; exact h'
    | ok b S2 =>
      rw [hf] at h'
      exact fun m2 H2 e2 r2 => h' m2 H2 (e1.trans e2) r2
    | exc e S2 =>
      rw [hf] at h'
      exact fun m2 H2 cls d e2 r2 x => h' m2 H2 cls d (e1.trans e2) r2 x
theorem Po.mono {r : Di.R α} {k k' : α → Sto → Mp → Hp → Prop} (h : Po g W σ m n H r k) (hk : ∀ a S' m' H', Ext m n H m' S'.n H' → RelS g m' S' H' → k a S' m' H' → k' a S' m' H') : Po g W σ m n H r k' := by
  cases r with
  | bad => exact h
  | exc e S => exact h
  | ok a S => exact fun m' H' e r => hk a S m' H' e r (h m' H' e r)
end
/-- what follows where a value came -/
def kV (g : G) (Q : VK) : Di.D → Sto → Mp → Hp → Prop := fun d S' m' H' => ∀ v, DV g m' S'.n H' d v → Q v H'
def kVs (g : G) (Q : List V → Hp → Prop) : List Di.D → Sto → Mp → Hp → Prop := fun ds S' m' H' => ∀ vs, DVs g m' S'.n H' ds vs → Q vs H'
def kB (Q : Bool → Hp → Prop) : Bool → Sto → Mp → Hp → Prop := fun b _ _ H' => Q b H'
def tE (g : G) (W : WX) (n : Nat) (x : Di.Ex) : TE := fun σ H Q => ∃ m ρ S, RelS g m S H ∧ RelE g m S.n H ρ σ ∧ Po g W σ m S.n H ((Di.evs n).e x ρ S) (kV g Q)
def tA (g : G) (W : WX) (n : Nat) (xs : List Di.Ex) : TA := fun σ H Q => ∃ m ρ S, RelS g m S H ∧ RelE g m S.n H ρ σ ∧ Po g W σ m S.n H (Di.evL (Di.evs n).e xs ρ S) (kVs g Q)
def tT (g : G) (W : WX) (n : Nat) (x : Di.Ex) : TT := fun σ H Q => ∃ m ρ S, RelS g m S H ∧ RelE g m S.n H ρ σ ∧ Po g W σ m S.n H (Di.evT (Di.evs n).e x ρ S) (kB Q)
def PoO (g : G) (W : WX) (m : Mp) (n : Nat) (H : Hp) (o : Di.O) (D : Ends) : Prop := match o with
  | .nx ρ S => ∀ m' σ' H', Ext m n H m' S.n H' → RelS g m' S H' → RelE g m' S.n H' ρ σ' → D.nx σ' H'
  | .rt d S => ∀ m' H' v, Ext m n H m' S.n H' → RelS g m' S H' → DV g m' S.n H' d v → D.rt v H'
  | .bk ρ S => ∀ m' σ' H', Ext m n H m' S.n H' → RelS g m' S H' → RelE g m' S.n H' ρ σ' → D.bk σ' H'
  | .ct ρ S => ∀ m' σ' H', Ext m n H m' S.n H' → RelS g m' S H' → RelE g m' S.n H' ρ σ' → D.ct σ' H'
  | .exc e ρ S => ∀ m' σ' H' cls d, Ext m n H m' S.n H' → RelS g m' S H' → RelE g m' S.n H' ρ σ' → XR g m' S.n H' e cls d → W cls d σ' H'
  | .bad => False
def tS (g : G) (W : WX) (n : Nat) (x : Di.Sx) : TS := fun D σ H => ∃ m ρ S, RelS g m S H ∧ RelE g m S.n H ρ σ ∧ PoO g W m S.n H ((Di.evs n).s x ρ S) D
def tSs (g : G) (W : WX) (n : Nat) (x : List Di.Sx) : TS := fun D σ H => ∃ m ρ S, RelS g m S H ∧ RelE g m S.n H ρ σ ∧ PoO g W m S.n H (Di.run (Di.evs n).s x ρ S) D
theorem PoO.ext {g : G} {W : WX} {m m1 : Mp} {n n1 : Nat} {H H1 : Hp} {o : Di.O} {D : Ends} (e : Ext m n H m1 n1 H1) (h : PoO g W m n H o D) : PoO g W m1 n1 H1 o D := by
  cases o with
  | nx ρ S => exact fun m' σ' H' e' => h m' σ' H' (e.trans e')
  | rt d S => exact fun m' H' v e' => h m' H' v (e.trans e')
  | bk ρ S => exact fun m' σ' H' e' => h m' σ' H' (e.trans e')
  | ct ρ S => exact fun m' σ' H' e' => h m' σ' H' (e.trans e')
  | exc x ρ S => exact fun m' σ' H' cls d e' => h m' σ' H' cls d (e.trans e')
  | bad => exact h

/-! judgements -/
def GE (X : Cx) (g : G) (W : WX) (e : Expr) (x : Di.Ex) : Prop := ∀ n, PE X e (tE g W n x)
def GA (X : Cx) (g : G) (W : WX) (es : List Expr) (xs : List Di.Ex) : Prop := ∀ n, PA X es (tA g W n xs)
def GT (X : Cx) (g : G) (W : WX) (e : Expr) (x : Di.Ex) : Prop := ∀ n, PT X e (tT g W n x)
def GW (X : Cx) (g : G) (W : WX) (e : Expr) (x : Di.Ex) : Prop := ∀ n, PW X e (tT g W n x)
def GS (X : Cx) (g : G) (W : WX) (st : Stmt) (x : Di.Sx) : Prop := ∀ n, PS X st (tS g W n x)
def GSs (X : Cx) (g : G) (W : WX) (st : List Stmt) (x : List Di.Sx) : Prop := ∀ n, PSs X st (tSs g W n x)
theorem pe_imp {X : Cx} {e : Expr} {t t' : TE} (h : PE X e t) (k : ∀ σ H Q, t' σ H Q → t σ H Q) : PE X e t' := ⟨fun pins s σ H Q I q => h.run pins s σ H Q I (k σ H Q q)⟩
theorem pt_imp {X : Cx} {e : Expr} {t t' : TT} (h : PT X e t) (k : ∀ σ H Q, t' σ H Q → t σ H Q) : PT X e t' := ⟨fun pins s σ H Q I q => h.run pins s σ H Q I (k σ H Q q)⟩
theorem pw_imp {X : Cx} {e : Expr} {t t' : TT} (h : PW X e t) (k : ∀ σ H Q, t' σ H Q → t σ H Q) : PW X e t' := ⟨fun w pins s σ H Q I q => h.run w pins s σ H Q I (k σ H Q q)⟩
theorem pa_imp {X : Cx} {e : List Expr} {t t' : TA} (h : PA X e t) (k : ∀ σ H Q, t' σ H Q → t σ H Q) : PA X e t' := ⟨fun p pins s σ H Q I q => h.run p pins s σ H Q I (k σ H Q q)⟩
theorem ps_imp {X : Cx} {e : Stmt} {t t' : TS} (h : PS X e t) (k : ∀ D σ H, t' D σ H → t D σ H) : PS X e t' := ⟨fun pins s σ H D I q => h.run pins s σ H D I (k D σ H q)⟩
theorem pss_imp {X : Cx} {e : List Stmt} {t t' : TS} (h : PSs X e t) (k : ∀ D σ H, t' D σ H → t D σ H) : PSs X e t' := ⟨fun pins s σ H D I q => h.run pins s σ H D I (k D σ H q)⟩
theorem tE_zero {g : G} {W : WX} {x : Di.Ex} {σ : L2.St} {H : Hp} {Q : VK} (h : tE g W 0 x σ H Q) : False := by
  obtain ⟨m, ρ, S, _, _, h⟩ := h
  exact h
theorem tT_zero {g : G} {W : WX} {x : Di.Ex} {σ : L2.St} {H : Hp} {Q : Bool → Hp → Prop} (h : tT g W 0 x σ H Q) : False := by
  obtain ⟨m, ρ, S, _, _, h⟩ := h
  exact h
theorem tS_zero {g : G} {W : WX} {x : Di.Sx} {σ : L2.St} {H : Hp} {D : Ends} (h : tS g W 0 x D σ H) : False := by
  obtain ⟨m, ρ, S, _, _, h⟩ := h
  exact h
theorem ge_of {X : Cx} {g : G} {W : WX} {e : Expr} {x : Di.Ex} {t : Nat → TE} (h : ∀ n, PE X e (t n)) (k : ∀ n σ H Q, tE g W (n + 1) x σ H Q → t n σ H Q) : GE X g W e x := fun n => by
  cases n with
  | zero => exact ⟨fun pins s σ H Q I q => (tE_zero q).elim⟩
  | succ n => exact pe_imp (h n) (k n)
theorem gt_of {X : Cx} {g : G} {W : WX} {e : Expr} {x : Di.Ex} {t : Nat → TT} (h : ∀ n, PT X e (t n)) (k : ∀ n σ H Q, tT g W (n + 1) x σ H Q → t n σ H Q) : GT X g W e x := fun n => by
  cases n with
  | zero => exact ⟨fun pins s σ H Q I q => (tT_zero q).elim⟩
  | succ n => exact pt_imp (h n) (k n)
theorem gw_of {X : Cx} {g : G} {W : WX} {e : Expr} {x : Di.Ex} {t : Nat → TT} (h : ∀ n, PW X e (t n)) (k : ∀ n σ H Q, tT g W (n + 1) x σ H Q → t n σ H Q) : GW X g W e x := fun n => by
  cases n with
  | zero => exact ⟨fun _ pins s σ H Q I q => (tT_zero q).elim⟩
  | succ n => exact pw_imp (h n) (k n)
theorem gs_of {X : Cx} {g : G} {W : WX} {e : Stmt} {x : Di.Sx} {t : Nat → TS} (h : ∀ n, PS X e (t n)) (k : ∀ n D σ H, tS g W (n + 1) x D σ H → t n D σ H) : GS X g W e x := fun n => by
  cases n with
  | zero => exact ⟨fun pins s σ H D I q => (tS_zero q).elim⟩
  | succ n => exact ps_imp (h n) (k n)
end DiS
end

section
set_option Elab.async false
set_option linter.all false
set_option maxRecDepth 100000
set_option maxHeartbeats 4000000
/-! the rules: expressions -/
namespace DiS
open PySem PySem.Spec PyProof.Rows L2
open Di (Sto MO)
theorem cap_line : Di.cap ≤ sizeLine := by rw [sizeLine_eq]; decide
theorem cap_lt {n : Nat} (h : Nat.blt n Di.cap = true) : n < sizeLine := Nat.lt_of_lt_of_le (Nat.le_of_ble_eq_true h) cap_line
theorem cap_le {n : Nat} (h : Nat.ble n Di.cap = true) : n ≤ sizeLine := Nat.le_trans (Nat.le_of_ble_eq_true h) cap_line

/-- what a pure operation promises -/
def Pv (g : G) (m : Mp) (n : Nat) (H : Hp) (r : Di.Pd) (Q : VK) : Prop := match r with
  | some (d, S') => ∀ m' H', Ext m n H m' S'.n H' → RelS g m' S' H' → ∀ v, DV g m' S'.n H' d v → Q v H'
  | none => False
theorem Po.lift {g : G} {W : WX} {σ : L2.St} {m : Mp} {n : Nat} {H : Hp} {r : Di.Pd} {Q : VK} (h : Po g W σ m n H (Di.liftO r) (kV g Q)) : Pv g m n H r Q := by
  cases r with
  | none => exact h
  | some p => exact h
/-- the answer, where nothing changed -/
theorem Pv.here {g : G} {m : Mp} {S : Sto} {H : Hp} {d : Di.D} {v : V} {Q : VK} (h : Pv g m S.n H (some (d, S)) Q) (r : RelS g m S H) (hv : DV g m S.n H d v) : Q v H := h m H (Ext.refl _ _ _) r v hv
/-- a new list -/
theorem Pv.newL {g : G} {m : Mp} {S : Sto} {H : Hp} {ds : List Di.D} {vs : List V} {Q : VK} (h : Pv g m S.n H (Di.newL ds S) Q) (r : RelS g m S H) (hv : DVs g m S.n H ds vs) :
    vs.length ≤ sizeLine ∧ ∀ p, H p = none → Q (.ref p) (upd H p (.lst vs)) := by
  have h' : Pv g m S.n H (cond (Nat.ble ds.length Di.cap) (some (.ref S.n, S.push (.lst ds))) none) Q := h
  cases hb : Nat.ble ds.length Di.cap with
  | false => rw [hb] at h'; exact h'.elim
  | true =>
    rw [hb] at h'
    refine ⟨by rw [← hv.length]; exact cap_le hb, fun p hp => ?_⟩
    obtain ⟨e, r'⟩ := r.pushL hp hv
    exact h' _ _ e r' _ (DV.new g m S.n _ p)

section
variable {X : Cx} {g : G} {W : WX} {a b c e : Expr} {xa xb xc : Di.Ex} {pos : Pos}
/-! ### constants, names -/
theorem s_int {i : Int} {j : Nat} : GE X g W (.Constant (.int i) j pos) (.lit (.int i)) :=
  ge_of (t := fun _ => tC (.int i)) (fun _ => pe_int) fun n σ H Q ⟨m, ρ, S, r, re, h⟩ => h m H (Ext.refl _ _ _) r _ (.int i)
theorem s_bl {i : Bool} {j : Nat} : GE X g W (.Constant (.bool i) j pos) (.lit (.bl i)) :=
  ge_of (t := fun _ => tC (.bl i)) (fun _ => pe_bl) fun n σ H Q ⟨m, ρ, S, r, re, h⟩ => h m H (Ext.refl _ _ _) r _ (.bl i)
theorem s_non {j : Nat} : GE X g W (.Constant .none j pos) (.lit .non) :=
  ge_of (t := fun _ => tC .non) (fun _ => pe_non) fun n σ H Q ⟨m, ρ, S, r, re, h⟩ => h m H (Ext.refl _ _ _) r _ .non
theorem s_str {x : Str} {l : List Nat} {j : Nat} (hx : x = ⟨l.toArray⟩ := by decide +kernel) : GE X g W (.Constant (.str x) j pos) (.lit (.str l)) :=
  ge_of (t := fun _ => tC (.str x)) (fun _ => pe_str) fun n σ H Q ⟨m, ρ, S, r, re, h⟩ => by
    show Q (.str x) H
    rw [hx]
    exact h m H (Ext.refl _ _ _) r _ (.str l)
theorem var_read {g : G} {W : WX} {n i : Nat} {σ : L2.St} {H : Hp} {Q : VK} (h : tE g W (n + 1) (.var i) σ H Q) : tVar i σ H Q := by
  obtain ⟨m, ρ, S, r, re, h⟩ := h
  have h' : Po g W σ m S.n H (match ρ[i]? with
    | some (some d) => Di.R.ok d S
    | _ => .bad) (kV g Q) := h
  cases q : ρ[i]? with
  | none => rw [q] at h'; exact h'.elim
  | some o =>
    cases o with
    | none => rw [q] at h'; exact h'.elim
    | some d =>
      rw [q] at h'
      obtain ⟨v, e, hv⟩ := re.2 i d q
      exact ⟨v, e, h' m H (Ext.refl _ _ _) r v hv⟩
theorem s_var {i : Nat} {x : Str} (h : PE X (.Name x pos) (tVar i)) : GE X g W (.Name x pos) (.var i) := ge_of (t := fun _ => tVar i) (fun _ => h) fun n σ H Q h => var_read h

/-! ### two places -/
/-- an operator by its Di form -/
def rB (g : G) (f : Di.D → Di.D → Sto → Di.Pd) : R2 := fun x y H Q => ∃ m S d e, RelS g m S H ∧ DV g m S.n H d x ∧ DV g m S.n H e y ∧ Pv g m S.n H (f d e S) Q
theorem opr_imp {f : Value → Value → Sem Value} {r r' : R2} (h : OpR X f r) (k : ∀ x y H Q, r' x y H Q → r x y H Q) : OpR X f r' := fun pins s σ H x y v u Q I rx ry q => h pins s σ H x y v u Q I rx ry (k x y H Q q)
theorem two_read {g : G} {W : WX} {n : Nat} {f : Di.D → Di.D → Sto → Di.Pd} {m : Mp} {ρ : Di.Env} {S : Sto} {σ : L2.St} {H : Hp} {Q : VK} (r : RelS g m S H) (re : RelE g m S.n H ρ σ)
    (h : Po g W σ m S.n H (Di.bindR ((Di.evs n).e xa ρ S) fun x S => Di.bindR ((Di.evs n).e xb ρ S) fun y S => Di.liftO (f x y S)) (kV g Q)) :
    tOp (rB g f) (tE g W n xa) (tE g W n xb) σ H Q :=
  ⟨m, ρ, S, r, re, h.bind.mono fun d S1 m1 H1 e1 r1 h1 v hv => ⟨m1, ρ, S1, r1, re.ext e1, h1.bind.mono fun d2 S2 m2 H2 e2 r2 h2 v2 hv2 => ⟨m2, S2, d, d2, r2, hv.ext e2, hv2, h2.lift⟩⟩⟩
theorem s_bin {o : Di.Bo} {op : Operator} (ho : OpR X (binaryOp op) (rB g (Di.bino o))) (ha : GE X g W a xa) (hb : GE X g W b xb) : GE X g W (.BinOp a op b pos) (.bin o xa xb) :=
  ge_of (t := fun n => tOp (rB g (Di.bino o)) (tE g W n xa) (tE g W n xb)) (fun n => pe_op ho (ha n) (hb n)) fun n σ H Q ⟨m, ρ, S, r, re, h⟩ => two_read r re h
theorem s_cmp {o : Di.Co} {op : CmpOp} (ho : OpR X (compareOp op) (rB g (Di.cmpo o))) (ha : GE X g W a xa) (hb : GE X g W b xb) (hm : behindInMarks op b = false) : GE X g W (.Compare a [op] [b] pos) (.cmp o xa xb) :=
  ge_of (t := fun n => tOp (rB g (Di.cmpo o)) (tE g W n xa) (tE g W n xb)) (fun n => pe_cmpR ho (ha n) (hb n) hm) fun n σ H Q ⟨m, ρ, S, r, re, h⟩ => two_read r re h
theorem cmpo_bl {o : Di.Co} {x y d : Di.D} {S S' : Sto} (h : Di.cmpo o x y S = some (d, S')) : ∃ k, d = .bl k := by
  have okB : ∀ {b : Option Bool}, Di.okB b S = some (d, S') → ∃ k, d = .bl k := fun {b} h => by
    cases b with
    | none => cases h
    | some k => cases h; exact ⟨k, rfl⟩
  have okN : ∀ {b : Option Bool}, Di.okN b S = some (d, S') → ∃ k, d = .bl k := fun {b} h => by
    cases b with
    | none => cases h
    | some k => cases h; exact ⟨_, rfl⟩
  have ci : ∀ {p : Int → Int → Bool}, Di.cmpI p x y S = some (d, S') → ∃ k, d = .bl k := fun {p} h => by
    cases x <;> first | cases h | skip
    cases y <;> first | (cases h; done) | skip
    cases h
    exact ⟨_, rfl⟩
  cases o with
  | eq => exact okB h
  | ne => exact okN h
  | lt => exact ci h
  | le => exact ci h
  | gt => exact ci h
  | ge => exact ci h
  | isN =>
    have h' : cond (Di.isNon y) (some (Di.D.bl (Di.isNon x), S)) none = some (d, S') := h
    cases hy : Di.isNon y with
    | true => rw [hy] at h'; cases h'; exact ⟨_, rfl⟩
    | false => rw [hy] at h'; cases h'
  | notN =>
    have h' : cond (Di.isNon y) (some (Di.D.bl (!Di.isNon x), S)) none = some (d, S') := h
    cases hy : Di.isNon y with
    | true => rw [hy] at h'; cases h'; exact ⟨_, rfl⟩
    | false => rw [hy] at h'; cases h'
  | in_ => exact okB h
  | notIn => exact okN h
/-- a run whose value is a bool, as a test -/
theorem po_bl {g : G} {W : WX} {σ : L2.St} {m : Mp} {n : Nat} {H : Hp} {r : Di.R Di.D} {Q : Bool → Hp → Prop} (hb : ∀ d S', r = .ok d S' → ∃ k, d = .bl k)
    (h : Po g W σ m n H (Di.bindR r fun d S => match Di.truth S d with
      | some b => .ok b S
      | none => .bad) (kB Q)) : Po g W σ m n H r (kV g fun y H' => ∃ k, y = .bl k ∧ Q k H') := by
  cases r with
  | bad => exact h
  | exc e S => exact h
  | ok d S =>
    obtain ⟨k, rfl⟩ := hb d S rfl
    intro m' H' e r' v hv
    cases hv
    exact ⟨k, rfl, h m' H' e r'⟩
theorem cmp_bl {n : Nat} {o : Di.Co} {ρ : Di.Env} {S S' : Sto} {d : Di.D} (h : (Di.evs (n + 1)).e (.cmp o xa xb) ρ S = .ok d S') : ∃ k, d = .bl k := by
  have h' : (Di.bindR ((Di.evs n).e xa ρ S) fun x S => Di.bindR ((Di.evs n).e xb ρ S) fun y S => Di.liftO (Di.cmpo o x y S)) = .ok d S' := h
  cases h1 : (Di.evs n).e xa ρ S with
  | bad => rw [h1] at h'; cases h'
  | exc e S => rw [h1] at h'; cases h'
  | ok x S1 =>
    rw [h1] at h'
    have h2 : (Di.bindR ((Di.evs n).e xb ρ S1) fun y S => Di.liftO (Di.cmpo o x y S)) = .ok d S' := h'
    cases h3 : (Di.evs n).e xb ρ S1 with
    | bad => rw [h3] at h2; cases h2
    | exc e S => rw [h3] at h2; cases h2
    | ok y S2 =>
      rw [h3] at h2
      have h4 : Di.liftO (Di.cmpo o x y S2) = .ok d S' := h2
      cases h5 : Di.cmpo o x y S2 with
      | none => rw [h5] at h4; cases h4
      | some p =>
        obtain ⟨d2, S3⟩ := p
        rw [h5] at h4
        cases h4
        exact cmpo_bl h5
theorem t_cmp {o : Di.Co} {op : CmpOp} (ho : OpR X (compareOp op) (rB g (Di.cmpo o))) (ha : GE X g W a xa) (hb : GE X g W b xb) (hm : behindInMarks op b = false) : GT X g W (.Compare a [op] [b] pos) (.cmp o xa xb) :=
  gt_of (t := fun n => tTest (tOp (rB g (Di.cmpo o)) (tE g W n xa) (tE g W n xb))) (fun n => pt_cmpR ho (ha n) (hb n) hm) fun n σ H Q ⟨m, ρ, S, r, re, h⟩ =>
    two_read (W := W) r re (po_bl (fun d S' q => cmp_bl q) h)
end
end DiS
end

section
set_option Elab.async false
set_option linter.all false
set_option maxRecDepth 100000
set_option maxHeartbeats 4000000
/-! the rules: operators -/
namespace DiS
open PySem PySem.Spec PyProof.Rows L2
open Di (Sto MO)
structure XC (X : Cx) (g : G) : Prop where
  K : X.K = g.K
  calm : X.calm = true
  nd : X.N.Nodup
  room : Room 1 X.A
/-- a list or a tuple of the store -/
theorem items_of {g : G} {m : Mp} {S : Sto} {H : Hp} {d : Di.D} {v : V} {xs : List Di.D} (r : RelS g m S H) (hv : DV g m S.n H d v) (h : Di.items S d = some xs) :
    ∃ a vs, v = .ref a ∧ (SqL g.K H a vs ∨ SqT g.K H a vs) ∧ DVs g m S.n H xs vs := by
  cases hv with
  | non => cases h
  | bl _ => cases h
  | int _ => cases h
  | str _ => cases h
  | tup h1 h2 =>
    have e := Option.some.inj h
    subst e
    exact ⟨_, _, rfl, .inr h1, h2⟩
  | @ref i hi =>
    have h' : (match S.get i with
      | some (.lst xs) => some xs
      | some (.rol xs) => some xs
      | _ => none) = some xs := h
    cases q : S.get i with
    | none => rw [q] at h'; cases h'
    | some o =>
      rw [q] at h'
      have z := (r.obj i o q).2
      cases o with
      | lst ys =>
        cases h'
        obtain ⟨vs, e, hs⟩ := z
        exact ⟨_, vs, rfl, .inl (.inl (.inl e)), hs⟩
      | rol ys =>
        cases h'
        obtain ⟨vs, e, hs⟩ := z
        rcases e with ⟨ob, e⟩ | e
        · exact ⟨_, vs, rfl, .inl (.inl (.inr ⟨ob, e⟩)), hs⟩
        · exact ⟨_, vs, rfl, .inl (.inr e), hs⟩
      | dct _ => cases h'
      | ins _ _ => cases h'
theorem lst_of {g : G} {m : Mp} {S : Sto} {H : Hp} {i : Nat} {xs : List Di.D} (r : RelS g m S H) (q : S.get i = some (.lst xs)) : ∃ vs, H (m i) = some (.lst vs) ∧ DVs g m S.n H xs vs := (r.obj i _ q).2
/-! data -/
theorem allO_dp {g : G} {m : Mp} {S : Sto} {H : Hp} {f : Di.D → Option PyData} (hf : ∀ d pd v, f d = some pd → DV g m S.n H d v → Dp g.K H v pd) :
    ∀ {ds : List Di.D} {pds : List PyData} {vs : List V}, Di.allO f ds = some pds → DVs g m S.n H ds vs → DpAll g.K H vs pds
  | [], pds, vs, h, hv => by
    cases hv
    cases h
    exact .nil
  | d :: ds, pds, vs, h, hv => by
    unfold Di.allO at h
    cases hv with
    | cons h1 h2 =>
      cases q : f d with
      | none => rw [q] at h; cases h
      | some y =>
        rw [q] at h
        cases q2 : Di.allO f ds with
        | none => rw [q2] at h; cases h
        | some ys =>
          rw [q2] at h
          cases h
          exact .cons (hf _ _ _ q h1) (allO_dp hf q2 h2)
theorem toPD_dp {g : G} {m : Mp} {S : Sto} {H : Hp} (r : RelS g m S H) : ∀ (k : Nat) (d : Di.D) (pd : PyData) (v : V), Di.toPD S k d = some pd → DV g m S.n H d v → Dp g.K H v pd := by
  intro k
  induction k with
  | zero => intro d pd v h _; cases h
  | succ k ih =>
    intro d pd v h hv
    cases hv with
    | non => cases h; exact .non
    | bl b => cases h; exact .bl b
    | int i => cases h; exact .int i
    | str s => cases h; exact .str _
    | @tup ds a vs h1 h2 =>
      have h' : (match Di.allO (Di.toPD S k) ds with
        | some ys => some (PyData.tuple ys)
        | none => none) = some pd := h
      cases q : Di.allO (Di.toPD S k) ds with
      | none => rw [q] at h'; cases h'
      | some ys =>
        rw [q] at h'
        cases h'
        exact .tup h1 (allO_dp ih q h2)
    | @ref i hi =>
      have h' : (match S.get i with
        | some (.lst xs) => (match Di.allO (Di.toPD S k) xs with
          | some ys => some (PyData.list ys)
          | none => none)
        | some (.rol xs) => (match Di.allO (Di.toPD S k) xs with
          | some ys => some (PyData.list ys)
          | none => none)
        | _ => none) = some pd := h
      cases q : S.get i with
      | none => rw [q] at h'; cases h'
      | some o =>
        rw [q] at h'
        have z := (r.obj i o q).2
        cases o with
        | lst xs =>
          have h2 : (match Di.allO (Di.toPD S k) xs with
            | some ys => some (PyData.list ys)
            | none => none) = some pd := h'
          obtain ⟨vs, e, hs⟩ := z
          cases q2 : Di.allO (Di.toPD S k) xs with
          | none => rw [q2] at h2; cases h2
          | some ys =>
            rw [q2] at h2
            cases h2
            exact .lst (.inl (.inl e)) (allO_dp ih q2 hs)
        | rol xs =>
          have h2 : (match Di.allO (Di.toPD S k) xs with
            | some ys => some (PyData.list ys)
            | none => none) = some pd := h'
          obtain ⟨vs, e, hs⟩ := z
          cases q2 : Di.allO (Di.toPD S k) xs with
          | none => rw [q2] at h2; cases h2
          | some ys =>
            rw [q2] at h2
            cases h2
            refine .lst ?_ (allO_dp ih q2 hs)
            rcases e with ⟨ob, e⟩ | e
            · exact .inl (.inr ⟨ob, e⟩)
            · exact .inr e
        | dct _ => cases h'
        | ins _ _ => cases h'
theorem dec_txt {s t : List Nat} : decide (V.str ⟨s.toArray⟩ = V.str ⟨t.toArray⟩) = decide (s = t) := by
  rw [Bool.eq_iff_iff]
  simp
theorem scal_of {g : G} {m : Mp} {n : Nat} {H : Hp} {d e : Di.D} {x y : V} {b : Bool} (hd : DV g m n H d x) (he : DV g m n H e y) (h : Di.scalEq d e = some b) : scal x y = true ∧ decide (x = y) = b := by
  cases hd <;> cases he <;> first
    | (cases h; done)
    | (have e := Option.some.inj h; rw [← e]; exact ⟨rfl, dec_txt⟩)
    | (have e := Option.some.inj h; rw [← e]; exact ⟨rfl, by rw [Bool.eq_iff_iff]; simp⟩)
section
variable {X : Cx} {g : G}
theorem opr_eq (c : XC X g) : OpR X (compareOp .Eq) (rB g (Di.cmpo .eq)) := by
  refine opr_imp ((op_eq (X := X)).or (op_eqD c.room.units)) fun x y H Q ⟨m, S, d, e, r, hd, he, h⟩ => ?_
  have h' : Pv g m S.n H (Di.okB (Di.eqD S d e) S) Q := h
  cases q : Di.scalEq d e with
  | some b =>
    have q2 : Di.eqD S d e = some b := by unfold Di.eqD; rw [q]
    rw [q2] at h'
    obtain ⟨s1, s2⟩ := scal_of hd he q
    refine .inl ⟨s1, ?_⟩
    rw [s2]
    exact h'.here r (.bl b)
  | none =>
    have q2 : Di.eqD S d e = Di.dataEq S d e := by unfold Di.eqD; rw [q]
    rw [q2] at h'
    unfold Di.dataEq at h'
    cases q3 : Di.toPD S 12 d with
    | none => rw [q3] at h'; exact h'.elim
    | some pa =>
      cases q4 : Di.toPD S 12 e with
      | none => rw [q3, q4] at h'; exact h'.elim
      | some pb =>
        rw [q3, q4] at h'
        have h2 : Pv g m S.n H (Di.okB (cond (SeqAt.shaped pa && SeqAt.shaped pb) (some (PyData.eqv pa pb)) none) S) Q := h'
        cases q5 : (SeqAt.shaped pa && SeqAt.shaped pb) with
        | false => rw [q5] at h2; exact h2.elim
        | true =>
          rw [q5] at h2
          obtain ⟨z1, z2⟩ := Bool.and_eq_true_iff.mp q5
          refine .inr ⟨pa, pb, ?_, ?_, z1, z2, ?_⟩
          · rw [c.K]; exact toPD_dp r _ _ _ _ q3 hd
          · rw [c.K]; exact toPD_dp r _ _ _ _ q4 he
          · exact Pv.here h2 r (.bl _)
theorem opr_ne (c : XC X g) : OpR X (compareOp .NotEq) (rB g (Di.cmpo .ne)) := by
  refine opr_imp ((op_ne (X := X)).or (op_neD c.room.units)) fun x y H Q ⟨m, S, d, e, r, hd, he, h⟩ => ?_
  have h' : Pv g m S.n H (Di.okN (Di.eqD S d e) S) Q := h
  cases q : Di.scalEq d e with
  | some b =>
    have q2 : Di.eqD S d e = some b := by unfold Di.eqD; rw [q]
    rw [q2] at h'
    obtain ⟨s1, s2⟩ := scal_of hd he q
    refine .inl ⟨s1, ?_⟩
    rw [s2]
    exact h'.here r (.bl _)
  | none =>
    have q2 : Di.eqD S d e = Di.dataEq S d e := by unfold Di.eqD; rw [q]
    rw [q2] at h'
    unfold Di.dataEq at h'
    cases q3 : Di.toPD S 12 d with
    | none => rw [q3] at h'; exact h'.elim
    | some pa =>
      cases q4 : Di.toPD S 12 e with
      | none => rw [q3, q4] at h'; exact h'.elim
      | some pb =>
        rw [q3, q4] at h'
        have h2 : Pv g m S.n H (Di.okN (cond (SeqAt.shaped pa && SeqAt.shaped pb) (some (PyData.eqv pa pb)) none) S) Q := h'
        cases q5 : (SeqAt.shaped pa && SeqAt.shaped pb) with
        | false => rw [q5] at h2; exact h2.elim
        | true =>
          rw [q5] at h2
          obtain ⟨z1, z2⟩ := Bool.and_eq_true_iff.mp q5
          refine .inr ⟨pa, pb, ?_, ?_, z1, z2, ?_⟩
          · rw [c.K]; exact toPD_dp r _ _ _ _ q3 hd
          · rw [c.K]; exact toPD_dp r _ _ _ _ q4 he
          · exact Pv.here h2 r (.bl _)
/-- two ints -/
theorem cmpI_of {g : G} {p : Int → Int → Bool} {m : Mp} {S : Sto} {H : Hp} {d e : Di.D} {x y : V} {Q : VK} (r : RelS g m S H) (hd : DV g m S.n H d x) (he : DV g m S.n H e y) (h : Pv g m S.n H (Di.cmpI p d e S) Q) :
    rI0 (fun i j => .bl (p i j)) x y H Q := by
  cases hd <;> first | exact h.elim | skip
  cases he <;> first | exact h.elim | skip
  exact ⟨_, _, rfl, rfl, h.here r (.bl _)⟩
theorem opr_lt : OpR X (compareOp .Lt) (rB g (Di.cmpo .lt)) := opr_imp op_lt fun x y H Q ⟨m, S, d, e, r, hd, he, h⟩ => cmpI_of r hd he h
theorem opr_le : OpR X (compareOp .LtE) (rB g (Di.cmpo .le)) := opr_imp op_le fun x y H Q ⟨m, S, d, e, r, hd, he, h⟩ => cmpI_of r hd he h
theorem opr_gt : OpR X (compareOp .Gt) (rB g (Di.cmpo .gt)) := opr_imp op_gt fun x y H Q ⟨m, S, d, e, r, hd, he, h⟩ => cmpI_of r hd he h
theorem opr_ge : OpR X (compareOp .GtE) (rB g (Di.cmpo .ge)) := opr_imp op_ge fun x y H Q ⟨m, S, d, e, r, hd, he, h⟩ => cmpI_of r hd he h
theorem isNon_of {g : G} {m : Mp} {n : Nat} {H : Hp} {d : Di.D} {x : V} (hd : DV g m n H d x) : Di.isNon d = decide (x = .non) := by
  cases hd <;> rfl
theorem opr_isN : OpR X (compareOp .Is) (rB g (Di.cmpo .isN)) := opr_imp op_isN fun x y H Q ⟨m, S, d, e, r, hd, he, h⟩ => by
  have h' : Pv g m S.n H (cond (Di.isNon e) (some (.bl (Di.isNon d), S)) none) Q := h
  cases q : Di.isNon e with
  | false => rw [q] at h'; exact h'.elim
  | true =>
    rw [q] at h'
    have q' := isNon_of he
    rw [q] at q'
    refine ⟨of_decide_eq_true q'.symm, ?_⟩
    rw [← isNon_of hd]
    exact Pv.here h' r (.bl _)
theorem opr_notN : OpR X (compareOp .IsNot) (rB g (Di.cmpo .notN)) := opr_imp op_notN fun x y H Q ⟨m, S, d, e, r, hd, he, h⟩ => by
  have h' : Pv g m S.n H (cond (Di.isNon e) (some (.bl (!Di.isNon d), S)) none) Q := h
  cases q : Di.isNon e with
  | false => rw [q] at h'; exact h'.elim
  | true =>
    rw [q] at h'
    have q' := isNon_of he
    rw [q] at q'
    refine ⟨of_decide_eq_true q'.symm, ?_⟩
    rw [← isNon_of hd]
    exact Pv.here h' r (.bl _)
/-! in -/
theorem flat_of {g : G} {m : Mp} {n : Nat} {H : Hp} {d : Di.D} {x : V} (hd : DV g m n H d x) (h : Di.flat d = true) : flatV x = true := by
  cases hd <;> first | rfl | cases h
theorem flats_of {g : G} {m : Mp} {n : Nat} {H : Hp} : ∀ {ds : List Di.D} {xs : List V}, DVs g m n H ds xs → ds.all Di.flat = true → xs.all flatV = true
  | _, _, .nil, _ => rfl
  | _, _, .cons h1 h2, h => by
    rw [List.all_cons, Bool.and_eq_true] at h
    rw [List.all_cons, Bool.and_eq_true]
    exact ⟨flat_of h1 h.1, flats_of h2 h.2⟩
theorem eqFlat_of {g : G} {m : Mp} {n : Nat} {H : Hp} {d e : Di.D} {x y : V} (hd : DV g m n H d x) (he : DV g m n H e y) (f1 : Di.flat d = true) (f2 : Di.flat e = true) : Di.eqFlat d e = eqV x y := by
  cases hd <;> cases he <;> first
    | rfl
    | (cases f1; done)
    | (cases f2; done)
    | (show (_ == _) = (_ == _); rw [Bool.eq_iff_iff]; simp)
theorem any_of {g : G} {m : Mp} {n : Nat} {H : Hp} {d : Di.D} {x : V} (hd : DV g m n H d x) (f1 : Di.flat d = true) : ∀ {ds : List Di.D} {xs : List V}, DVs g m n H ds xs → ds.all Di.flat = true → (ds.any fun y => Di.eqFlat y d) = inV x xs
  | _, _, .nil, _ => rfl
  | _, _, .cons h1 h2, h => by
    rw [List.all_cons, Bool.and_eq_true] at h
    show (Di.eqFlat _ d || _) = (eqV _ x || _)
    rw [eqFlat_of h1 hd h.1 f1]
    congr 1
    exact any_of hd f1 h2 h.2
theorem in_of (c : XC X g) {m : Mp} {S : Sto} {H : Hp} {d e : Di.D} {x y : V} {b neg : Bool} {Q : VK} (r : RelS g m S H) (hd : DV g m S.n H d x) (he : DV g m S.n H e y) (h : Di.inD S d e = some b) (q : Q (.bl (if neg then !b else b)) H) :
    (∃ (c : Nat) (z : Str), x = .str ⟨#[c]⟩ ∧ y = .str z ∧ Q (.bl (if neg then !decide (c ∈ z.cps.toList) else decide (c ∈ z.cps.toList))) H) ∨ rIn X.K neg x y H Q := by
  have main : ∀ xs, Di.items S e = some xs → Di.seqIn d xs = some b → rIn X.K neg x y H Q := fun xs hx hs => by
    obtain ⟨a, vs, rfl, hq, hvs⟩ := items_of r he hx
    have hs' : cond (Di.flat d && xs.all Di.flat) (some (xs.any fun y => Di.eqFlat y d)) none = some b := hs
    cases q2 : (Di.flat d && xs.all Di.flat) with
    | false => rw [q2] at hs'; cases hs'
    | true =>
      rw [q2] at hs'
      obtain ⟨f1, f2⟩ := Bool.and_eq_true_iff.mp q2
      have e2 : (xs.any fun y => Di.eqFlat y d) = b := Option.some.inj hs'
      rw [any_of hd f1 hvs f2] at e2
      refine ⟨a, vs, rfl, ?_, flat_of hd f1, flats_of hvs f2, ?_⟩
      · rw [c.K]; exact hq
      · rw [e2]; exact q
  cases he with
  | str t =>
    cases hd with
    | str s =>
      cases s with
      | nil => cases h
      | cons k s =>
        cases s with
        | nil =>
          have e2 : decide (k ∈ t) = b := Option.some.inj h
          refine .inl ⟨k, ⟨t.toArray⟩, rfl, rfl, ?_⟩
          show Q (.bl (if neg = true then !decide (k ∈ t) else decide (k ∈ t))) H
          rw [e2]
          exact q
        | cons _ _ => cases h
    | _ => cases h
  | non => cases h
  | bl _ => cases h
  | int _ => cases h
  | @tup ds a vs h1 h2 => exact .inr (main ds rfl h)
  | @ref i hi =>
    have h' : (match Di.items S (.ref i) with
      | some xs => Di.seqIn d xs
      | none => none) = some b := h
    cases q2 : Di.items S (.ref i) with
    | none => rw [q2] at h'; cases h'
    | some xs => rw [q2] at h'; exact .inr (main xs q2 h')
theorem opr_in (c : XC X g) : OpR X (compareOp .In) (rB g (Di.cmpo .in_)) := by
  refine opr_imp ((op_in_sign (X := X)).or (op_in_seq (X := X))) fun x y H Q ⟨m, S, d, e, r, hd, he, h⟩ => ?_
  have h' : Pv g m S.n H (Di.okB (Di.inD S d e) S) Q := h
  cases q : Di.inD S d e with
  | none => rw [q] at h'; exact h'.elim
  | some b =>
    rw [q] at h'
    exact in_of (neg := false) c r hd he q (Pv.here h' r (.bl b))
theorem opr_notIn (c : XC X g) : OpR X (compareOp .NotIn) (rB g (Di.cmpo .notIn)) := by
  refine opr_imp ((op_notIn_sign (X := X)).or (op_notIn_seq (X := X))) fun x y H Q ⟨m, S, d, e, r, hd, he, h⟩ => ?_
  have h' : Pv g m S.n H (Di.okN (Di.inD S d e) S) Q := h
  cases q : Di.inD S d e with
  | none => rw [q] at h'; exact h'.elim
  | some b =>
    rw [q] at h'
    exact in_of (neg := true) c r hd he q (Pv.here h' r (.bl (!b)))
end
end DiS
end

section
set_option Elab.async false
set_option linter.all false
set_option maxRecDepth 100000
set_option maxHeartbeats 4000000
/-! the rules: arithmetic, indexes, built-ins, truth -/
namespace DiS
open PySem PySem.Spec PyProof.Rows L2
open Di (Sto MO)
section
variable {X : Cx} {g : G}
theorem intB_of {f : Int → Int → Option Int} {m : Mp} {S : Sto} {H : Hp} {d e : Di.D} {x y : V} {Q : VK} (r : RelS g m S H) (hd : DV g m S.n H d x) (he : DV g m S.n H e y) (h : Pv g m S.n H (Di.intB f d e S) Q) :
    ∃ i j k, x = .int i ∧ y = .int j ∧ f i j = some k ∧ Q (.int k) H := by
  cases hd <;> first | exact h.elim | skip
  cases he <;> first | exact h.elim | skip
  rename_i i j
  have h' : Pv g m S.n H (match f i j with
    | some k => some (.int k, S)
    | none => none) Q := h
  cases q : f i j with
  | none => rw [q] at h'; exact h'.elim
  | some k =>
    rw [q] at h'
    exact ⟨i, j, k, rfl, rfl, q, Pv.here h' r (.int k)⟩
theorem cond_some {α : Type} {b : Bool} {x y : α} (h : cond b (some x) none = some y) : b = true ∧ x = y := by
  cases b with
  | false => cases h
  | true => exact ⟨rfl, Option.some.inj h⟩
theorem opr_sub : OpR X (binaryOp .Sub) (rB g (Di.bino .sub)) := opr_imp op_sub fun x y H Q ⟨m, S, d, e, r, hd, he, h⟩ => by
  obtain ⟨i, j, k, rfl, rfl, q, h'⟩ := intB_of (f := fun i j => some (i - j)) r hd he h
  cases q
  exact ⟨i, j, rfl, rfl, h'⟩
theorem opr_mul : OpR X (binaryOp .Mult) (rB g (Di.bino .mul)) := opr_imp op_mul fun x y H Q ⟨m, S, d, e, r, hd, he, h⟩ => by
  obtain ⟨i, j, k, rfl, rfl, q, h'⟩ := intB_of r hd he h
  obtain ⟨q1, q2⟩ := cond_some q
  subst q2
  refine ⟨i, j, rfl, rfl, ?_, h'⟩
  unfold Di.mulOk at q1
  simp only [Bool.or_eq_true, Bool.and_eq_true, decide_eq_true_eq] at q1
  exact q1
theorem opr_fdiv : OpR X (binaryOp .FloorDiv) (rB g (Di.bino .fdiv)) := opr_imp op_fdiv fun x y H Q ⟨m, S, d, e, r, hd, he, h⟩ => by
  obtain ⟨i, j, k, rfl, rfl, q, h'⟩ := intB_of r hd he h
  obtain ⟨q1, q2⟩ := cond_some q
  subst q2
  simp only [Bool.and_eq_true, decide_eq_true_eq] at q1
  exact ⟨i, j, rfl, rfl, q1, h'⟩
theorem opr_mod : OpR X (binaryOp .Mod) (rB g (Di.bino .mod)) := opr_imp op_mod fun x y H Q ⟨m, S, d, e, r, hd, he, h⟩ => by
  obtain ⟨i, j, k, rfl, rfl, q, h'⟩ := intB_of r hd he h
  obtain ⟨q1, q2⟩ := cond_some q
  subst q2
  exact ⟨i, j, rfl, rfl, of_decide_eq_true q1, h'⟩
theorem opr_pow : OpR X (binaryOp .Pow) (rB g (Di.bino .pow)) := opr_imp op_pow fun x y H Q ⟨m, S, d, e, r, hd, he, h⟩ => by
  obtain ⟨i, j, k, rfl, rfl, q, h'⟩ := intB_of r hd he h
  obtain ⟨q1, q2⟩ := cond_some q
  subst q2
  simp only [Bool.and_eq_true, decide_eq_true_eq] at q1
  exact ⟨i, j, rfl, rfl, ⟨q1.1.1, q1.1.2, q1.2⟩, h'⟩
theorem str_app (s t : List Nat) : (⟨s.toArray⟩ : Str) ++ (⟨t.toArray⟩ : Str) = ⟨(s ++ t).toArray⟩ := by
  show (⟨s.toArray ++ t.toArray⟩ : Str) = _
  rw [List.append_toArray]
theorem opr_add (c : XC X g) : OpR X (binaryOp .Add) (rB g (Di.bino .add)) := by
  refine opr_imp ((op_add (X := X)).or (op_add_str.or (op_catA.or op_cat))) fun x y H Q ⟨m, S, d, e, r, hd, he, h⟩ => ?_
  cases hd with
  | non => exact h.elim
  | bl _ => exact h.elim
  | int i =>
    cases he with
    | int j => exact .inl ⟨i, j, rfl, rfl, Pv.here (d := .int (i + j)) h r (.int _)⟩
    | _ => exact h.elim
  | str s =>
    cases he with
    | str t =>
     have h' : Pv g m S.n H (cond (Nat.ble (s.length + t.length) Di.cap) (some (.str (s ++ t), S)) none) Q := h
     cases q : Nat.ble (s.length + t.length) Di.cap with
     | false => rw [q] at h'; exact h'.elim
     | true =>
      rw [q] at h'
      refine .inr (.inl ⟨_, _, rfl, rfl, ?_, ?_⟩)
      · have := cap_le q
        simpa [Str.length] using this
      · rw [str_app]
        exact Pv.here h' r (.str _)
    | _ => exact h.elim
  | @tup ds a vs h1 h2 =>
    cases he with
    | @tup es b ws h3 h4 =>
     have h' : Pv g m S.n H (cond (Nat.ble (ds.length + es.length) Di.cap) (some (.tup (ds ++ es), S)) none) Q := h
     cases q : Nat.ble (ds.length + es.length) Di.cap with
     | false => rw [q] at h'; exact h'.elim
     | true =>
       rw [q] at h'
       have hcat := h2.append h4
       refine .inr (.inr (.inl ⟨a, b, vs, ws, rfl, rfl, by rw [c.K]; exact h1, by rw [c.K]; exact h3, ?_, fun e => ?_, fun _ e => ?_, fun _ _ p hp => ?_⟩))
       · rw [← h2.length, ← h4.length]
         exact cap_le q
       · subst e
         exact Pv.here h' r (.tup h3 (by simpa using hcat))
       · subst e
         exact Pv.here h' r (.tup h1 (by simpa using hcat))
       · have e := ext_fresh (m := m) (n := S.n) (o := .tup (vs ++ ws)) hp
         exact h' m _ e (r.fresh hp) _ (.tup (.inl (.inl upd_same)) (hcat.ext e))
    | _ => exact h.elim
  | @ref i hi =>
    cases he with
    | @ref j hj =>
      have h' : Pv g m S.n H (match S.get i with
        | some (.lst a) => (match S.get j with
          | some (.lst b) => Di.newL (a ++ b) S
          | _ => none)
        | _ => none) Q := h
      cases q1 : S.get i with
      | none => rw [q1] at h'; exact h'.elim
      | some o1 =>
        rw [q1] at h'
        cases o1 with
        | lst xs =>
          have h'' : Pv g m S.n H (match S.get j with
            | some (.lst b) => Di.newL (xs ++ b) S
            | _ => none) Q := h'
          cases q2 : S.get j with
          | none => rw [q2] at h''; exact h''.elim
          | some o2 =>
            rw [q2] at h''
            cases o2 with
            | lst ys =>
              obtain ⟨vs, e1, s1⟩ := lst_of r q1
              obtain ⟨ws, e2, s2⟩ := lst_of r q2
              obtain ⟨z1, z2⟩ := Pv.newL h'' r (s1.append s2)
              rw [List.length_append] at z1
              exact .inr (.inr (.inr ⟨_, _, vs, ws, rfl, rfl, e1, e2, z1, z2⟩))
            | rol _ => exact h''.elim
            | dct _ => exact h''.elim
            | ins _ _ => exact h''.elim
        | rol _ => exact h'.elim
        | dct _ => exact h'.elim
        | ins _ _ => exact h'.elim
    | non => exact h.elim
    | bl _ => exact h.elim
    | int _ => exact h.elim
    | str _ => exact h.elim
    | tup _ _ => exact h.elim
/-! ### indexes -/
theorem seqIx_ixN {n : Nat} {k : Int} {j : Nat} (h : Di.seqIx n k = some j) : ixN n k = some j := by
  unfold ixN
  cases k with
  | ofNat k =>
    obtain ⟨h1, h2⟩ := cond_some (show cond (Nat.blt k n) (some k) none = some j from h)
    have h3 : k < n := Nat.le_of_ble_eq_true h1
    have e0 : (Int.ofNat k) = (k : Int) := rfl
    rw [e0, if_pos (by omega), if_pos (by omega), ← h2]
    simp
  | negSucc k =>
    obtain ⟨h1, h2⟩ := cond_some (show cond (Nat.blt k n) (some (n - 1 - k)) none = some j from h)
    have h3 : k < n := Nat.le_of_ble_eq_true h1
    have e0 : Int.negSucc k = -(k : Int) - 1 := by omega
    rw [e0, if_neg (by omega), if_pos (by omega)]
    congr 1
    omega
theorem atD_atI {α : Type} {xs : List α} {k : Int} {x : α} (h : Di.atD xs k = some x) : atI xs k = some x := by
  unfold Di.atD at h
  unfold atI
  cases q : Di.seqIx xs.length k with
  | none => rw [q] at h; cases h
  | some j =>
    rw [q] at h
    rw [seqIx_ixN q]
    exact h
theorem atD_rel {m : Mp} {n : Nat} {H : Hp} {ds : List Di.D} {vs : List V} {k : Int} {d : Di.D} (hv : DVs g m n H ds vs) (h : Di.atD ds k = some d) : ∃ v, atI vs k = some v ∧ DV g m n H d v := by
  have h' := atD_atI h
  unfold atI at h' ⊢
  rw [← hv.length]
  cases q : ixN ds.length k with
  | none => rw [q] at h'; cases h'
  | some j =>
    rw [q] at h'
    exact hv.get h'
theorem ixr_imp {r r' : R2} (h : IxR X r) (k : ∀ x y H Q, r' x y H Q → r x y H Q) : IxR X r' := fun va sl pins s σ H x y v u Q I rx ry q => h va sl pins s σ H x y v u Q I rx ry (k x y H Q q)
theorem ixr (c : XC X g) : IxR X (rB g (fun x y S => Di.idxD S x y)) := by
  refine ixr_imp ((ix_list (X := X)).or ((ix_tup (X := X)).or ix_str)) fun x y H Q ⟨m, S, d, e, r, hd, he, h⟩ => ?_
  cases he with
  | int k =>
    have main : ∀ xs, Di.items S d = some xs → Pv g m S.n H (match Di.atD xs k with
        | some d => some (d, S)
        | none => none) Q → rIxL X.K x (.int k) H Q ∨ rIxT X.K x (.int k) H Q ∨ rIxS x (.int k) H Q := fun xs hx hp => by
      obtain ⟨a, vs, rfl, hq, hvs⟩ := items_of r hd hx
      cases q : Di.atD xs k with
      | none => rw [q] at hp; exact hp.elim
      | some z =>
        rw [q] at hp
        obtain ⟨v, e1, e2⟩ := atD_rel hvs q
        have fin := Pv.here hp r e2
        rcases hq with hq | hq
        · exact .inl ⟨a, vs, k, v, rfl, rfl, by rw [c.K]; exact hq, e1, fin⟩
        · exact .inr (.inl ⟨a, vs, k, v, rfl, rfl, by rw [c.K]; exact hq, e1, fin⟩)
    cases hd with
    | str s =>
      have h' : Pv g m S.n H (match Di.atD s k with
        | some c => cond (Nat.ble s.length Di.cap) (some (.str [c], S)) none
        | none => none) Q := h
      cases q : Di.atD s k with
      | none => rw [q] at h'; exact h'.elim
      | some z =>
        rw [q] at h'
        have h2 : Pv g m S.n H (cond (Nat.ble s.length Di.cap) (some (.str [z], S)) none) Q := h'
        cases q2 : Nat.ble s.length Di.cap with
        | false => rw [q2] at h2; exact h2.elim
        | true =>
          rw [q2] at h2
          refine .inr (.inr ⟨⟨s.toArray⟩, k, z, rfl, rfl, ?_, ?_, Pv.here h2 r (.str [z])⟩)
          · simpa [Str.length] using cap_le q2
          · exact atD_atI (by simpa using q)
    | @tup ds a vs h1 h2 => exact main ds rfl h
    | @ref i hi =>
      have h' : Pv g m S.n H (match Di.items S (.ref i) with
        | some xs => (match Di.atD xs k with
          | some d => some (d, S)
          | none => none)
        | none => none) Q := h
      cases q : Di.items S (.ref i) with
      | none => rw [q] at h'; exact h'.elim
      | some xs => rw [q] at h'; exact main xs q h'
    | non => exact h.elim
    | bl _ => exact h.elim
    | int _ => exact h.elim
  | non => exact h.elim
  | bl _ => exact h.elim
  | str _ => exact h.elim
  | tup _ _ => exact h.elim
  | ref _ => exact h.elim
variable {W : WX} {a b cx e : Expr} {xa xb xc : Di.Ex} {es : List Expr} {xs : List Di.Ex} {pos : Pos}
theorem s_idx (c : XC X g) (ha : GE X g W a xa) (hb : GE X g W b xb) (hs : PlainIx b) : GE X g W (.Subscript a b pos) (.idx xa xb) :=
  ge_of (t := fun n => tOp (rB g (fun x y S => Di.idxD S x y)) (tE g W n xa) (tE g W n xb)) (fun n => pe_ix (ixr c) (ha n) (hb n) hs) fun n σ H Q ⟨m, ρ, S, r, re, h⟩ => two_read (f := fun x y S => Di.idxD S x y) r re h
/-! ### argument lists, displays -/
theorem s_nil : GA X g W [] [] := fun n => pa_imp pa_nil fun σ H Q ⟨m, ρ, S, r, re, h⟩ => h m H (Ext.refl _ _ _) r [] .nil
theorem s_cons (ha : GE X g W e xa) (hr : GA X g W es xs) (hs : starEach (e :: es) X.env = (false, eval e X.env) :: starEach es X.env := by rfl) : GA X g W (e :: es) (xa :: xs) := fun n =>
  pa_imp (pa_cons (ha n) (hr n) hs) fun σ H Q ⟨m, ρ, S, r, re, h⟩ => by
    have h' : Po g W σ m S.n H (Di.bindR ((Di.evs n).e xa ρ S) fun d S => Di.bindR (Di.evL (Di.evs n).e xs ρ S) fun ds S => .ok (d :: ds) S) (kVs g Q) := h
    exact ⟨m, ρ, S, r, re, h'.bind.mono fun d S1 m1 H1 e1 r1 h1 v hv => ⟨m1, ρ, S1, r1, re.ext e1, h1.bind.mono fun ds S2 m2 H2 e2 r2 h2 vs hvs => h2 m2 H2 (Ext.refl _ _ _) r2 _ (.cons (hv.ext e2) hvs)⟩⟩
/-- from an argument list on -/
theorem args_read {g : G} {W : WX} {n : Nat} {f : List Di.D → Sto → Di.R Di.D} {m : Mp} {ρ : Di.Env} {S : Sto} {σ : L2.St} {H : Hp} {Q : VK} {Q2 : List V → Hp → Prop} (r : RelS g m S H) (re : RelE g m S.n H ρ σ)
    (h : Po g W σ m S.n H (Di.bindR (Di.evL (Di.evs n).e xs ρ S) f) (kV g Q))
    (k : ∀ ds S1 m1 H1 vs, RelS g m1 S1 H1 → DVs g m1 S1.n H1 ds vs → Po g W σ m1 S1.n H1 (f ds S1) (kV g Q) → Q2 vs H1) : tA g W n xs σ H Q2 :=
  ⟨m, ρ, S, r, re, h.bind.mono fun ds S1 m1 H1 e1 r1 h1 vs hvs => k ds S1 m1 H1 vs r1 hvs h1⟩
theorem s_tup {k : Nat} (ha : GA X g W es xs) : GE X g W (.Tuple es k pos) (.tup xs) :=
  ge_of (t := fun n => tTup (tA g W n xs)) (fun n => pe_tup (ha n)) fun n σ H Q ⟨m, ρ, S, r, re, h⟩ =>
    args_read (f := fun ds S => cond (Nat.ble ds.length Di.cap) (.ok (.tup ds) S) .bad) r re h fun ds S1 m1 H1 vs r1 hvs h1 => by
      cases q : Nat.ble ds.length Di.cap with
      | false => rw [q] at h1; exact h1.elim
      | true =>
        rw [q] at h1
        refine ⟨by rw [← hvs.length]; exact cap_le q, fun p hp => ?_⟩
        have e := ext_fresh (m := m1) (n := S1.n) (o := .tup vs) hp
        exact h1 m1 _ e (r1.fresh hp) _ (.tup (.inl (.inl upd_same)) (hvs.ext e))
theorem s_lst (ha : GA X g W es xs) : GE X g W (.List es pos) (.lst xs) :=
  ge_of (t := fun n => tLst (tA g W n xs)) (fun n => pe_lst (ha n)) fun n σ H Q ⟨m, ρ, S, r, re, h⟩ =>
    args_read (f := fun ds S => Di.liftO (Di.newL ds S)) r re h fun ds S1 m1 H1 vs r1 hvs h1 => Pv.newL h1.lift r1 hvs
/-! ### built-ins by name -/
def rP (g : G) (p : Di.Pr) : List V → Hp → VK → Prop := fun vs H Q => ∃ m S ds, RelS g m S H ∧ DVs g m S.n H ds vs ∧ Pv g m S.n H (Di.prim p ds S) Q
theorem s_callB {p : Di.Pr} {id : String} {x : Str} {np : Pos} (hc : CallR X (.builtin id) (rP g p)) (hg : Gl X x) (hm : X.mg x = none) (hv : bootBuiltins x = some (.builtin id)) (ha : GA X g W (e :: es) xs) (hn : x ≠ "__name__" := by decide) (hdb : (x == ("__debug__" : Str)) = false := by decide)
    (he : starEach (e :: es) X.env = (false, eval e X.env) :: starEach es X.env := by rfl) (hpl : (backTo pos (starEach es X.env)).any (·.1) = false := by rfl) : GE X g W (.Call (.Name x np) (e :: es) [] pos) (.prim p xs) :=
  ge_of (t := fun n => tCB (rP g p) (tA g W n xs)) (fun n => pe_callB hc hg hm hv (ha n) hn hdb he hpl) fun n σ H Q ⟨m, ρ, S, r, re, h⟩ =>
    args_read (f := fun ds S => Di.liftO (Di.prim p ds S)) r re h fun ds S1 m1 H1 vs r1 hvs h1 => ⟨m1, S1, ds, r1, hvs, h1.lift⟩
theorem s_callTy {p : Di.Pr} {T : String} {x : Str} {np : Pos} (hc : CallR X (.type T) (rP g p)) (hg : Gl X x) (hm : X.mg x = none) (hv : bootBuiltins x = some (.type T)) (ha : GA X g W (e :: es) xs) (hn : x ≠ "__name__" := by decide) (hdb : (x == ("__debug__" : Str)) = false := by decide)
    (he : starEach (e :: es) X.env = (false, eval e X.env) :: starEach es X.env := by rfl) (hpl : (backTo pos (starEach es X.env)).any (·.1) = false := by rfl) : GE X g W (.Call (.Name x np) (e :: es) [] pos) (.prim p xs) :=
  ge_of (t := fun n => tCB (rP g p) (tA g W n xs)) (fun n => pe_callTy hc hg hm hv (ha n) hn hdb he hpl) fun n σ H Q ⟨m, ρ, S, r, re, h⟩ =>
    args_read (f := fun ds S => Di.liftO (Di.prim p ds S)) r re h fun ds S1 m1 H1 vs r1 hvs h1 => ⟨m1, S1, ds, r1, hvs, h1.lift⟩
theorem callr_imp {f : Value} {r r' : List V → Hp → VK → Prop} (h : CallR X f r) (k : ∀ vs H Q, r' vs H Q → r vs H Q) : CallR X f r' := fun pins s σ H xs us Q I rs q => h pins s σ H xs us Q I rs (k xs H Q q)
theorem cr_abs : CallR X (.builtin "abs") (rP g .abs) := callr_imp call_abs fun vs H Q ⟨m, S, ds, r, hv, h⟩ => by
  cases hv with
  | nil => exact h.elim
  | cons h1 h2 =>
    cases h2 with
    | cons _ _ => cases h1 <;> exact h.elim
    | nil =>
      cases h1 <;> first | exact h.elim | skip
      exact ⟨_, rfl, Pv.here h r (.int _)⟩
theorem cr_int : CallR X (.type "int") (rP g .int) := callr_imp call_int1 fun vs H Q ⟨m, S, ds, r, hv, h⟩ => by
  cases hv with
  | nil => exact h.elim
  | cons h1 h2 =>
    cases h2 with
    | cons _ _ => cases h1 <;> exact h.elim
    | nil =>
      cases h1 <;> first | exact h.elim | skip
      exact .inl ⟨_, rfl, Pv.here h r (.int _)⟩
theorem cr_max2 (c : XC X g) : CallR X (.builtin "max") (rP g .max2) := callr_imp (call_max2 c.calm) fun vs H Q ⟨m, S, ds, r, hv, h⟩ => by
  cases hv with
  | nil => exact h.elim
  | cons h1 h2 =>
    cases h2 with
    | nil => cases h1 <;> exact h.elim
    | cons h3 h4 =>
      cases h4 with
      | cons _ _ => cases h1 <;> cases h3 <;> exact h.elim
      | nil =>
        cases h1 <;> first | exact h.elim | skip
        cases h3 <;> first | exact h.elim | skip
        exact ⟨_, _, rfl, Pv.here h r (.int _)⟩
theorem cr_min2 (c : XC X g) : CallR X (.builtin "min") (rP g .min2) := callr_imp (call_min2 c.calm) fun vs H Q ⟨m, S, ds, r, hv, h⟩ => by
  cases hv with
  | nil => exact h.elim
  | cons h1 h2 =>
    cases h2 with
    | nil => cases h1 <;> exact h.elim
    | cons h3 h4 =>
      cases h4 with
      | cons _ _ => cases h1 <;> cases h3 <;> exact h.elim
      | nil =>
        cases h1 <;> first | exact h.elim | skip
        cases h3 <;> first | exact h.elim | skip
        exact ⟨_, _, rfl, Pv.here h r (.int _)⟩
end
end DiS
end

section
set_option Elab.async false
set_option linter.all false
set_option maxRecDepth 100000
set_option maxHeartbeats 4000000
/-! the rules: more built-ins, methods, truth -/
namespace DiS
open PySem PySem.Spec PyProof.Rows L2
open Di (Sto MO)
section
variable {X : Cx} {g : G} {W : WX} {a b e : Expr} {xa xb xc : Di.Ex} {es : List Expr} {xs : List Di.Ex} {pos : Pos}
theorem one_of {m : Mp} {n : Nat} {H : Hp} {d : Di.D} {vs : List V} (h : DVs g m n H [d] vs) : ∃ v, vs = [v] ∧ DV g m n H d v := by
  cases h with
  | cons h1 h2 => cases h2; exact ⟨_, rfl, h1⟩
theorem two_of {m : Mp} {n : Nat} {H : Hp} {d e : Di.D} {vs : List V} (h : DVs g m n H [d, e] vs) : ∃ v w, vs = [v, w] ∧ DV g m n H d v ∧ DV g m n H e w := by
  cases h with
  | cons h1 h2 => cases h2 with
    | cons h3 h4 => cases h4; exact ⟨_, _, rfl, h1, h3⟩
/-- a built-in of one argument: ways by the list's length -/
theorem only1 {p : List Di.D → Sto → Di.Pd} {m : Mp} {S : Sto} {H : Hp} {ds : List Di.D} {vs : List V} {Q : VK} (hv : DVs g m S.n H ds vs) (h : Pv g m S.n H (p ds S) Q)
    (h0 : p [] S = none) (h2 : ∀ a b r, p (a :: b :: r) S = none) : ∃ d v, ds = [d] ∧ vs = [v] ∧ DV g m S.n H d v ∧ Pv g m S.n H (p [d] S) Q := by
  cases hv with
  | nil => rw [h0] at h; exact h.elim
  | cons h1 hs => cases hs with
    | nil => exact ⟨_, _, rfl, rfl, h1, h⟩
    | cons h3 h4 => rw [h2] at h; exact h.elim
theorem cr_len (c : XC X g) : CallR X (.builtin "len") (rP g .len) := callr_imp (call_len_seq.or call_len_str) fun vs H Q ⟨m, S, ds, r, hv, h⟩ => by
  obtain ⟨d, v, rfl, rfl, hd, h⟩ := only1 hv h rfl (fun a b r => by cases a <;> rfl)
  have main : ∀ xs, Di.items S d = some xs → Pv g m S.n H (some (.int xs.length, S)) Q → ∃ p ys, [v] = [V.ref p] ∧ (SqL X.K H p ys ∨ SqT X.K H p ys) ∧ Q (.int ys.length) H := fun xs hx hp => by
    obtain ⟨a, ws, rfl, hq, hw⟩ := items_of r hd hx
    refine ⟨a, ws, rfl, by rw [c.K]; exact hq, ?_⟩
    rw [← hw.length]
    exact Pv.here hp r (.int _)
  cases hd with
  | str s =>
    have h' : Pv g m S.n H (cond (Nat.ble s.length Di.cap) (some (.int s.length, S)) none) Q := h
    cases q : Nat.ble s.length Di.cap with
    | false => rw [q] at h'; exact h'.elim
    | true =>
      rw [q] at h'
      refine .inr ⟨_, rfl, by simpa [Str.length] using cap_le q, ?_⟩
      have e : (⟨s.toArray⟩ : Str).length = s.length := by simp [Str.length]
      rw [e]
      exact Pv.here h' r (.int _)
  | tup h1 h2 => exact .inl (main _ rfl h)
  | @ref i hi =>
    have h' : Pv g m S.n H (match Di.items S (.ref i) with
      | some xs => some (.int xs.length, S)
      | none => none) Q := h
    cases q : Di.items S (.ref i) with
    | none => rw [q] at h'; exact h'.elim
    | some xs => rw [q] at h'; exact .inl (main xs q h')
  | non => exact h.elim
  | bl _ => exact h.elim
  | int _ => exact h.elim
theorem call_list_txt (hc : X.calm = true) : CallR X (.type "list") (fun xs H Q => ∃ s : List Nat, xs = [.str ⟨s.toArray⟩] ∧ s.length ≤ sizeLine ∧ ∀ l, H l = none → Q (.ref l) (upd H l (.lst (s.map fun c => .str ⟨#[c]⟩)))) := by
  intro pins s σ H xs us Q I rs ⟨l, hx, hz, q⟩
  subst hx
  obtain ⟨u, rfl, t, rfl⟩ := vals1 rs
  have hsz : (⟨l.toArray⟩ : Str).cps.size = l.length := by simp
  refine call_list_str (I.ok.hd hc) _ t (fun h' tk acc' c' hk hS' hacc => ?_) (by rw [hsz]; exact hz)
  have hf : H s.heap.objs.size = none := I.hok.fresh (Nat.le_refl _)
  refine ⟨.ref s.heap.objs.size, _, I.laid (t' := tk) (o := .lst (l.map fun c => .str ⟨#[c]⟩)) hk (Nat.le_refl _) ?_, rfl, q _ hf⟩
  refine ⟨by rw [List.length_map]; exact hz, acc'.toList, c', ?_, by simpa using hS'⟩
  obtain ⟨h1, h2⟩ := hacc
  have gen : ∀ (ys : List Nat) (zs : List Value), ys.length = zs.length → (∀ (j : Nat) (v : Value), zs[j]? = some v → ∃ c u, ys[j]? = some c ∧ v = Value.str ⟨#[c]⟩ u) → Vals (ys.map fun c => V.str ⟨#[c]⟩) zs := by
    intro ys
    induction ys with
    | nil =>
      intro zs hl _
      cases zs with
      | nil => exact .nil
      | cons _ _ => cases hl
    | cons y ys ih =>
      intro zs hl hg
      cases zs with
      | nil => cases hl
      | cons z zs =>
        obtain ⟨c, u, e1, e2⟩ := hg 0 z rfl
        have e1' : y = c := Option.some.inj e1
        subst e1'
        refine .cons ⟨u, e2⟩ (ih zs (Nat.succ.inj hl) fun j v e => ?_)
        obtain ⟨c, u, e3, e4⟩ := hg (j + 1) v (by simpa using e)
        exact ⟨c, u, by simpa using e3, e4⟩
  refine gen l acc'.toList (by
    have e : acc'.toList.length = acc'.size := by simp
    rw [e, h1, hsz]) fun j v e => ?_
  obtain ⟨c, u, e3, e4⟩ := h2 j v (by simpa using e)
  exact ⟨c, u, by simpa using e3, e4⟩
theorem cr_list (c : XC X g) : CallR X (.type "list") (rP g .list) := callr_imp ((call_list_txt c.calm).or call_list_of) fun vs H Q ⟨m, S, ds, r, hv, h⟩ => by
  obtain ⟨d, v, rfl, rfl, hd, h⟩ := only1 hv h rfl (fun a b r => by cases a <;> rfl)
  have main : ∀ xs, Di.items S d = some xs → Pv g m S.n H (Di.newL xs S) Q → ∃ p ys, [v] = [V.ref p] ∧ (SqL X.K H p ys ∨ SqT X.K H p ys) ∧ ∀ l, H l = none → Q (.ref l) (upd H l (.lst ys)) := fun xs hx hp => by
    obtain ⟨a, ws, rfl, hq, hw⟩ := items_of r hd hx
    exact ⟨a, ws, rfl, by rw [c.K]; exact hq, (Pv.newL hp r hw).2⟩
  cases hd with
  | str s =>
    have h' : Pv g m S.n H (Di.newL (s.map fun c => .str [c]) S) Q := h
    obtain ⟨h1, h2⟩ := Pv.newL h' r (DVs.chars s)
    rw [List.length_map] at h1
    exact .inl ⟨s, rfl, h1, h2⟩
  | tup h1 h2 => exact .inr (main _ rfl h)
  | @ref i hi =>
    have h' : Pv g m S.n H (match Di.items S (.ref i) with
      | some xs => Di.newL xs S
      | none => none) Q := h
    cases q : Di.items S (.ref i) with
    | none => rw [q] at h'; exact h'.elim
    | some xs => rw [q] at h'; exact .inr (main xs q h')
  | non => exact h.elim
  | bl _ => exact h.elim
  | int _ => exact h.elim
theorem cr_tuple (c : XC X g) : CallR X (.type "tuple") (rP g .tuple) := callr_imp call_tuple_of fun vs H Q ⟨m, S, ds, r, hv, h⟩ => by
  obtain ⟨d, v, rfl, rfl, hd, h⟩ := only1 hv h rfl (fun a b r => by cases a <;> rfl)
  have h' : Pv g m S.n H (match Di.items S d with
      | some xs => some (.tup xs, S)
      | none => none) Q := h
  cases q : Di.items S d with
  | none => rw [q] at h'; exact h'.elim
  | some xs =>
    rw [q] at h'
    obtain ⟨a, ws, rfl, hq, hw⟩ := items_of r hd q
    refine ⟨a, ws, rfl, ?_⟩
    rcases hq with hq | hq
    · refine .inl ⟨by rw [c.K]; exact hq, fun p hp => ?_⟩
      have e := ext_fresh (m := m) (n := S.n) (o := .tup ws) hp
      exact h' m _ e (r.fresh hp) _ (.tup (.inl (.inl upd_same)) (hw.ext e))
    · exact .inr ⟨by rw [c.K]; exact hq, Pv.here h' r (.tup hq hw)⟩
theorem call_repr_sn : CallR X (.builtin "repr") (fun xs H Q => (∃ a, xs = [.str a] ∧ (PyData.str a).shown.length ≤ sizeLine ∧ Q (.str (PyData.str a).shown) H) ∨ (xs = [.non] ∧ Q (.str PyData.none.shown) H)) := by
  intro pins s σ H xs us Q I rs h
  rcases h with ⟨a, rfl, hz, q⟩ | ⟨rfl, q⟩
  · obtain ⟨u, rfl, t, rfl⟩ := vals1 rs
    simp only [PyData.shown] at hz q
    exact PySem.P.repr_of_str ⟨.str _, H, I.tok _, ⟨_, rfl⟩, q⟩ hz
  · obtain ⟨u, rfl, e⟩ := vals1 rs
    cases e
    simp only [PyData.shown] at q
    exact PySem.P.repr_of_none ⟨.str _, H, I.tok _, ⟨_, rfl⟩, q⟩
theorem str_eta (x : Str) : (⟨x.cps.toList.toArray⟩ : Str) = x := by
  obtain ⟨a⟩ := x
  simp
theorem cr_repr : CallR X (.builtin "repr") (rP g .repr) := callr_imp call_repr_sn fun vs H Q ⟨m, S, ds, r, hv, h⟩ => by
  obtain ⟨d, v, rfl, rfl, hd, h⟩ := only1 hv h rfl (fun a b r => rfl)
  cases hd with
  | str s =>
    have h' : Pv g m S.n H (match (match (PyData.str ⟨s.toArray⟩).shown with
      | ⟨a⟩ => cond (Nat.ble a.size Di.cap) (some a.toList) none) with
      | some s => some (.str s, S)
      | none => none) Q := h
    cases q0 : (PyData.str ⟨s.toArray⟩).shown with
    | mk a =>
      rw [q0] at h'
      have h2 : Pv g m S.n H (match cond (Nat.ble a.size Di.cap) (some a.toList) none with
        | some s => some (.str s, S)
        | none => none) Q := h'
      cases q : Nat.ble a.size Di.cap with
      | false => rw [q] at h2; exact h2.elim
      | true =>
        rw [q] at h2
        refine .inl ⟨_, rfl, ?_, ?_⟩
        · rw [q0]; exact cap_le q
        · rw [q0]
          have z := Pv.here (d := .str a.toList) h2 r (.str a.toList)
          simpa using z
  | non =>
    have z := Pv.here (d := .str (PyData.none.shown).cps.toList) h r (.str _)
    rw [str_eta] at z
    exact .inr ⟨rfl, z⟩
  | bl _ => exact h.elim
  | int _ => exact h.elim
  | tup _ _ => exact h.elim
  | ref _ => exact h.elim
/-! ### methods of texts and lists -/
theorem txts_of {m : Mp} {n : Nat} {H : Hp} : ∀ {ds : List Di.D} {vs : List V} {ts : List (List Nat)}, DVs g m n H ds vs → Di.txts ds = some ts → vs = (ts.map fun t => (⟨t.toArray⟩ : Str)).map V.str
  | _, _, ts, .nil, h => by cases h; rfl
  | _, _, ts, .cons h1 h2, h => by
    cases h1 with
    | str s =>
      rename_i ds vs
      have h' : (match Di.txts ds with
        | some l => some (s :: l)
        | none => none) = some ts := h
      cases q : Di.txts ds with
      | none => rw [q] at h'; cases h'
      | some l =>
        rw [q] at h'
        cases h'
        rw [txts_of h2 q] <;> rfl
    | _ => cases h
theorem sumLen_eq : ∀ ts : List (List Nat), ((ts.map fun t => (⟨t.toArray⟩ : Str)).map (·.length)).sum = Di.sumLen ts
  | [] => rfl
  | t :: ts => by
    show ((⟨t.toArray⟩ : Str).length :: _).sum = t.length + Di.sumLen ts
    rw [List.sum_cons, sumLen_eq ts]
    simp [Str.length]
theorem join_eq2 (s : List Nat) : ∀ ts : List (List Nat), Str.join ⟨s.toArray⟩ (ts.map fun t => (⟨t.toArray⟩ : Str)) = ⟨(Di.joinT s ts).toArray⟩
  | [] => rfl
  | [t] => rfl
  | t :: u :: ts => by
    show (⟨t.toArray⟩ : Str) ++ ⟨s.toArray⟩ ++ Str.join ⟨s.toArray⟩ ((u :: ts).map fun t => (⟨t.toArray⟩ : Str)) = _
    rw [join_eq2 s (u :: ts), str_app, str_app]
    rfl
/-- a method of a built-in type -/
def rM (g : G) (p : Di.Pr) : V → List V → Hp → VK → Prop := fun x vs H Q => ∃ m S d ds, RelS g m S H ∧ DV g m S.n H d x ∧ DVs g m S.n H ds vs ∧ Pv g m S.n H (Di.prim p (d :: ds) S) Q
def Recv (g : G) (K : PySem.W.Frag) (p : Di.Pr) (T : String) : Prop := ∀ m S H d x, RelS g m S H → DV g m S.n H d x → Di.recv p d S = true → tyV K T x H
theorem mth_read {g : G} {W : WX} {n : Nat} {p : Di.Pr} {T : String} {m : Mp} {ρ : Di.Env} {S : Sto} {σ : L2.St} {H : Hp} {Q : VK} {K : PySem.W.Frag} (hT : Recv g K p T) (r : RelS g m S H) (re : RelE g m S.n H ρ σ)
    (h : Po g W σ m S.n H (Di.bindR ((Di.evs n).e xa ρ S) fun d S => cond (Di.recv p d S) (Di.bindR (Di.evL (Di.evs n).e xs ρ S) fun ds S => Di.liftO (Di.prim p (d :: ds) S)) .bad) (kV g Q)) :
    tBM K T (rM g p) (tE g W n xa) (tA g W n xs) σ H Q :=
  ⟨m, ρ, S, r, re, h.bind.mono fun d S1 m1 H1 e1 r1 h1 v hv => by
    cases q : Di.recv p d S1 with
    | false => rw [q] at h1; exact h1.elim
    | true =>
      rw [q] at h1
      have h2 : Po g W σ m1 S1.n H1 (Di.bindR (Di.evL (Di.evs n).e xs ρ S1) fun ds S => Di.liftO (Di.prim p (d :: ds) S)) (kV g Q) := h1
      exact ⟨hT _ _ _ _ _ r1 hv q, m1, ρ, S1, r1, re.ext e1, h2.bind.mono fun ds S2 m2 H2 e2 r2 h3 vs hvs => ⟨m2, S2, d, ds, r2, hv.ext e2, hvs, h3.lift⟩⟩⟩
theorem s_bm {p : Di.Pr} {T id : String} {name : Str} {apos : Pos} {o : Expr} {xo : Di.Ex} (pa : PlainAttrs T) (slot : Slot T name id) (hty : typeOf (.builtin id) = pure (.type "method_descriptor")) (hT : Recv g X.K p T) (hm : MtR X id (rM g p)) (ho : GE X g W o xo) (ha : GA X g W (e :: es) xs)
    (hbase : attributeBase o name X.env (eval o X.env) = eval o X.env := by rfl)
    (hfew : ((backTo pos (starEach (e :: es) X.env)).all (fun x => !x.1) && (backToKw pos (keywordEach [] X.env)).all (fun x => x.1.isSome)
      && decide ((e :: es).length + ([] : List Keyword).length + (if ([] : List Keyword).isEmpty then 0 else 1) < 30)) = true := by rfl)
    (hline : (apos.endLine == pos.line) = true := by rfl) (hs : starEach (e :: es) X.env = (false, eval e X.env) :: starEach es X.env := by rfl) (hplain : (backTo pos (starEach es X.env)).any (·.1) = false := by rfl) :
    GE X g W (.Call (.Attribute o name apos) (e :: es) [] pos) (.mth p xo xs) :=
  ge_of (t := fun n => tBM X.K T (rM g p) (tE g W n xo) (tA g W n xs)) (fun n => pe_bm pa slot hty hm (ho n) (ha n) hbase hfew hline hs hplain) fun n σ H Q ⟨m, ρ, S, r, re, h⟩ => mth_read hT r re h
theorem recv_str {p : Di.Pr} (hp : ∀ d S, Di.recv p d S = Di.isStr d) : Recv g X.K p "str" := fun m S H d x r hv h => by
  rw [hp] at h
  cases hv <;> first | rfl | cases h
theorem recv_lst (c : XC X g) {p : Di.Pr} (hp : ∀ d S, Di.recv p d S = Di.isLst S d) : Recv g X.K p "list" := fun m S H d x r hv h => by
  rw [hp] at h
  cases hv with
  | @ref i hi =>
    have h' : (match S.get i with
      | some (.lst _) => true
      | some (.rol _) => true
      | _ => false) = true := h
    refine .inl ⟨rfl, ?_⟩
    rw [c.K]
    cases q : S.get i with
    | none => rw [q] at h'; cases h'
    | some o =>
      rw [q] at h'
      have z := (r.obj i o q).2
      cases o with
      | lst ys =>
        obtain ⟨vs, e, _⟩ := z
        exact ⟨vs, .inl (.inl e)⟩
      | rol ys =>
        obtain ⟨vs, e, _⟩ := z
        rcases e with ⟨ob, e⟩ | e
        · exact ⟨vs, .inl (.inr ⟨ob, e⟩)⟩
        · exact ⟨vs, .inr e⟩
      | dct _ => cases h'
      | ins _ _ => cases h'
  | non => cases h
  | bl _ => cases h
  | int _ => cases h
  | str _ => cases h
  | tup _ _ => cases h
theorem mtr_imp {id : String} {r r' : V → List V → Hp → VK → Prop} (h : MtR X id r) (k : ∀ x vs H Q, r' x vs H Q → r x vs H Q) : MtR X id r' := fun pins s σ H x xs v us Q I rx rs q => h pins s σ H x xs v us Q I rx rs (k x xs H Q q)
theorem mr_join (c : XC X g) : MtR X "str.join" (rM g .join) := mtr_imp mt_join fun x vs H Q ⟨m, S, d, ds, r, hd, hv, h⟩ => by
  cases hd with
  | str s =>
    cases hv with
    | nil => exact h.elim
    | @cons e v _ _ h1 h2 =>
      cases h2 with
      | cons _ _ => exact h.elim
      | nil =>
        have h' : Pv g m S.n H (match Di.items S e with
          | some xs => (match Di.txts xs with
            | some ts => cond (Nat.ble (Di.sumLen ts + ts.length * s.length) Di.cap) (some (.str (Di.joinT s ts), S)) none
            | none => none)
          | none => none) Q := h
        cases q : Di.items S e with
        | none => rw [q] at h'; exact h'.elim
        | some xs =>
          rw [q] at h'
          obtain ⟨a, ws, rfl, hq, hw⟩ := items_of r h1 q
          have h3 : Pv g m S.n H (match Di.txts xs with
            | some ts => cond (Nat.ble (Di.sumLen ts + ts.length * s.length) Di.cap) (some (.str (Di.joinT s ts), S)) none
            | none => none) Q := h'
          cases q2 : Di.txts xs with
          | none => rw [q2] at h3; exact h3.elim
          | some ts =>
            rw [q2] at h3
            have h4 : Pv g m S.n H (cond (Nat.ble (Di.sumLen ts + ts.length * s.length) Di.cap) (some (.str (Di.joinT s ts), S)) none) Q := h3
            cases q3 : Nat.ble (Di.sumLen ts + ts.length * s.length) Di.cap with
            | false => rw [q3] at h4; exact h4.elim
            | true =>
              rw [q3] at h4
              have ew := txts_of hw q2
              subst ew
              refine ⟨_, a, _, rfl, rfl, by rw [c.K]; exact hq, ?_, ?_⟩
              · rw [sumLen_eq, List.length_map]
                have := cap_le q3
                rw [sizeLine_eq] at this
                simpa [Str.length] using this
              · rw [TL.join_eq, join_eq2]
                exact Pv.here h4 r (.str _)
  | _ => cases hv <;> first | exact h.elim | (rename_i h2; cases h2 <;> exact h.elim)
theorem mr_append : MtR X "list.append" (rM g .append) := mtr_imp mt_append fun x vs H Q ⟨m, S, d, ds, r, hd, hv, h⟩ => by
  cases hd with
  | @ref i hi =>
    cases hv with
    | nil => exact h.elim
    | @cons e v _ _ h1 h2 =>
      cases h2 with
      | cons _ _ => exact h.elim
      | nil =>
        have h' : Pv g m S.n H (match S.get i with
          | some (.lst xs) => cond (Nat.blt xs.length Di.cap) (some (.non, S.set i (.lst (xs ++ [e])))) none
          | _ => none) Q := h
        cases q : S.get i with
        | none => rw [q] at h'; exact h'.elim
        | some o =>
          rw [q] at h'
          cases o with
          | lst xs =>
            have h3 : Pv g m S.n H (cond (Nat.blt xs.length Di.cap) (some (.non, S.set i (.lst (xs ++ [e])))) none) Q := h'
            cases q2 : Nat.blt xs.length Di.cap with
            | false => rw [q2] at h3; exact h3.elim
            | true =>
              rw [q2] at h3
              obtain ⟨ws, e1, hw⟩ := lst_of r q
              obtain ⟨e2, r2⟩ := r.setL q (hw.append (.cons h1 .nil))
              exact ⟨_, ws, v, rfl, rfl, e1, by rw [← hw.length]; exact cap_lt q2, h3 m _ e2 r2 _ .non⟩
          | rol _ => exact h'.elim
          | dct _ => exact h'.elim
          | ins _ _ => exact h'.elim
  | _ => cases hv <;> first | exact h.elim | (rename_i h2; cases h2 <;> exact h.elim)
/-! ### truth, and, or, not, if -/
theorem tru_of {m : Mp} {S : Sto} {H : Hp} {d : Di.D} {v : V} {b : Bool} (r : RelS g m S H) (hv : DV g m S.n H d v) (h : Di.truth S d = some b) : TruV g.K v H b := by
  cases hv with
  | non => exact (Option.some.inj h).symm
  | bl k => exact (Option.some.inj h).symm
  | int i => exact (Option.some.inj h).symm
  | str s =>
    obtain ⟨h1, h2⟩ := cond_some (show cond (Nat.ble s.length Di.cap) (some (!s.isEmpty)) none = some b from h)
    refine ⟨by simpa [Str.length] using cap_le h1, ?_⟩
    rw [← h2]
    cases s with
    | nil => rfl
    | cons c s =>
      show true = _
      rw [Bool.eq_iff_iff]
      simp [Str.length]
      omega
  | @tup ds a vs h1 h2 =>
    refine .inr (.inl ⟨vs, h1, ?_⟩)
    have e : (!ds.isEmpty) = b := Option.some.inj h
    rw [← e]
    cases h2 <;> rfl
  | @ref i hi =>
    have h' : (match S.get i with
      | some (.lst xs) => some (!xs.isEmpty)
      | some (.rol xs) => some (!xs.isEmpty)
      | _ => none) = some b := h
    cases q : S.get i with
    | none => rw [q] at h'; cases h'
    | some o =>
      rw [q] at h'
      have z := (r.obj i o q).2
      cases o with
      | lst ys =>
        obtain ⟨vs, e, hs⟩ := z
        refine .inl ⟨vs, .inl (.inl e), ?_⟩
        have e2 : (!ys.isEmpty) = b := Option.some.inj h'
        rw [← e2]
        cases hs <;> rfl
      | rol ys =>
        obtain ⟨vs, e, hs⟩ := z
        refine .inl ⟨vs, ?_, ?_⟩
        · rcases e with ⟨ob, e⟩ | e
          · exact .inl (.inr ⟨ob, e⟩)
          · exact .inr e
        · have e2 : (!ys.isEmpty) = b := Option.some.inj h'
          rw [← e2]
          cases hs <;> rfl
      | dct _ => cases h'
      | ins _ _ => cases h'
/-- an expression of any kind as a test -/
theorem t_truth (c : XC X g) (ha : GE X g W a xa) (he : ∀ whole, isTrue a X.env whole = (do let v ← whole; standAt a.pos; holding [v] (truthy v)) := by intro _; rfl) : GT X g W a xa := fun n =>
  pt_imp (pt_truth (ha n) he) fun σ H Q ⟨m, ρ, S, r, re, h⟩ => ⟨m, ρ, S, r, re, h.bind.mono fun d S1 m1 H1 e1 r1 h1 v hv => by
    cases q : Di.truth S1 d with
    | none => rw [q] at h1; exact h1.elim
    | some b =>
      rw [q] at h1
      exact ⟨b, by rw [c.K]; exact tru_of r1 hv q, h1 m1 H1 (Ext.refl _ _ _) r1⟩⟩
/-- the test that an and, or is made of: from its run -/
theorem tt_read {g : G} {W : WX} {n : Nat} {α : Type} {f : Bool → Sto → Di.R α} {m : Mp} {ρ : Di.Env} {S : Sto} {σ : L2.St} {H : Hp} {k : α → Sto → Mp → Hp → Prop} {Q2 : Bool → Hp → Prop} (r : RelS g m S H) (re : RelE g m S.n H ρ σ)
    (h : Po g W σ m S.n H (Di.bindR (Di.evT (Di.evs n).e xa ρ S) f) k)
    (hk : ∀ b S1 m1 H1, RelS g m1 S1 H1 → RelE g m1 S1.n H1 ρ σ → Po g W σ m1 S1.n H1 (f b S1) k → Q2 b H1) : tT g W n xa σ H Q2 :=
  ⟨m, ρ, S, r, re, h.bind.mono fun b S1 m1 H1 e1 r1 h1 => hk b S1 m1 H1 r1 (re.ext e1) h1⟩
theorem bindR_assoc {α β γ : Type} (r : Di.R α) (f : α → Sto → Di.R β) (k : β → Sto → Di.R γ) : Di.bindR (Di.bindR r f) k = Di.bindR r fun a S => Di.bindR (f a S) k := by
  cases r <;> rfl
/-- and, or as tests by their first part's test -/
theorem andT_eq {n : Nat} {ρ : Di.Env} {S : Sto} : Di.evT (Di.evs (n + 1)).e (.and xa xb) ρ S = Di.bindR (Di.evT (Di.evs n).e xa ρ S) fun b S => cond b (Di.evT (Di.evs n).e xb ρ S) (.ok false S) := by
  show Di.bindR (Di.bindR ((Di.evs n).e xa ρ S) fun x S => (match Di.truth S x with
    | some true => (Di.evs n).e xb ρ S
    | some false => .ok x S
    | none => .bad)) (fun d S => match Di.truth S d with
    | some b => .ok b S
    | none => .bad) = Di.bindR (Di.bindR ((Di.evs n).e xa ρ S) fun d S => match Di.truth S d with
    | some b => .ok b S
    | none => .bad) _
  rw [bindR_assoc, bindR_assoc]
  congr 1
  funext x S
  cases q : Di.truth S x with
  | none => rfl
  | some b => cases b with
    | true => rfl
    | false =>
      show (match Di.truth S x with
        | some b => Di.R.ok b S
        | none => .bad) = .ok false S
      rw [q]
theorem orT_eq {n : Nat} {ρ : Di.Env} {S : Sto} : Di.evT (Di.evs (n + 1)).e (.or xa xb) ρ S = Di.bindR (Di.evT (Di.evs n).e xa ρ S) fun b S => cond b (.ok true S) (Di.evT (Di.evs n).e xb ρ S) := by
  show Di.bindR (Di.bindR ((Di.evs n).e xa ρ S) fun x S => (match Di.truth S x with
    | some true => .ok x S
    | some false => (Di.evs n).e xb ρ S
    | none => .bad)) (fun d S => match Di.truth S d with
    | some b => .ok b S
    | none => .bad) = Di.bindR (Di.bindR ((Di.evs n).e xa ρ S) fun d S => match Di.truth S d with
    | some b => .ok b S
    | none => .bad) _
  rw [bindR_assoc, bindR_assoc]
  congr 1
  funext x S
  cases q : Di.truth S x with
  | none => rfl
  | some b => cases b with
    | false => rfl
    | true =>
      show (match Di.truth S x with
        | some b => Di.R.ok b S
        | none => .bad) = .ok true S
      rw [q]
variable {rest : List Expr}
theorem w_and1 (ha : GT X g W a xa) : GW X g W (.BoolOp .And [a] pos) xa := fun n => pw_and1 (ha n)
theorem w_or1 (ha : GT X g W a xa) : GW X g W (.BoolOp .Or [a] pos) xa := fun n => pw_or1 (ha n)
theorem w_and (ha : GT X g W a xa) (hb : GW X g W (.BoolOp .And (b :: rest) pos) xb) : GW X g W (.BoolOp .And (a :: b :: rest) pos) (.and xa xb) :=
  gw_of (t := fun n => tAnd (tT g W n xa) (tT g W n xb)) (fun n => pw_and (ha n) (hb n)) fun n σ H Q ⟨m, ρ, S, r, re, h⟩ => by
    rw [andT_eq] at h
    refine tt_read r re h fun b S1 m1 H1 r1 re1 h1 => ?_
    cases b with
    | true => exact iteT ⟨m1, ρ, S1, r1, re1, h1⟩
    | false => exact iteF (h1 m1 H1 (Ext.refl _ _ _) r1)
theorem w_or (ha : GT X g W a xa) (hb : GW X g W (.BoolOp .Or (b :: rest) pos) xb) : GW X g W (.BoolOp .Or (a :: b :: rest) pos) (.or xa xb) :=
  gw_of (t := fun n => tOr (tT g W n xa) (tT g W n xb)) (fun n => pw_or (ha n) (hb n)) fun n σ H Q ⟨m, ρ, S, r, re, h⟩ => by
    rw [orT_eq] at h
    refine tt_read r re h fun b S1 m1 H1 r1 re1 h1 => ?_
    cases b with
    | true => exact iteT (h1 m1 H1 (Ext.refl _ _ _) r1)
    | false => exact iteF ⟨m1, ρ, S1, r1, re1, h1⟩
theorem t_w (h : GW X g W a xa) : GT X g W a xa := fun n => (h n).pt
theorem t_not (ha : GT X g W a xa) : GT X g W (.UnaryOp .Not a pos) (.not xa) :=
  gt_of (t := fun n => tNot (tT g W n xa)) (fun n => pt_not (ha n)) fun n σ H Q ⟨m, ρ, S, r, re, h⟩ => by
    have h' : Po g W σ m S.n H (Di.bindR (Di.bindR (Di.evT (Di.evs n).e xa ρ S) fun b S => .ok (.bl (!b)) S) fun d S => match Di.truth S d with
      | some b => .ok b S
      | none => .bad) (kB Q) := h
    rw [bindR_assoc] at h'
    exact tt_read r re h' fun b S1 m1 H1 r1 re1 h1 => h1 m1 H1 (Ext.refl _ _ _) r1
theorem s_one {op : BoolOp} (ha : GE X g W a xa) : GE X g W (.BoolOp op [a] pos) xa := fun n => pe_one (ha n)
theorem s_and (c : XC X g) (ha : GE X g W a xa) (hb : GE X g W (.BoolOp .And (b :: rest) pos) xb) : GE X g W (.BoolOp .And (a :: b :: rest) pos) (.and xa xb) :=
  ge_of (t := fun n => tAndT X.K (tE g W n xa) (tE g W n xb)) (fun n => pe_andT (ha n) (hb n)) fun n σ H Q ⟨m, ρ, S, r, re, h⟩ => by
    refine ⟨m, ρ, S, r, re, (Po.bind h).mono fun d S1 m1 H1 e1 r1 h1 v hv => ?_⟩
    cases q : Di.truth S1 d with
    | none => rw [q] at h1; exact h1.elim
    | some k =>
      rw [q] at h1
      refine ⟨k, by rw [c.K]; exact tru_of r1 hv q, ?_⟩
      cases k with
      | true => exact iteT ⟨m1, ρ, S1, r1, re.ext e1, h1⟩
      | false => exact iteF (h1 m1 H1 (Ext.refl _ _ _) r1 v hv)
theorem s_or (c : XC X g) (ha : GE X g W a xa) (hb : GE X g W (.BoolOp .Or (b :: rest) pos) xb) : GE X g W (.BoolOp .Or (a :: b :: rest) pos) (.or xa xb) :=
  ge_of (t := fun n => tOrT X.K (tE g W n xa) (tE g W n xb)) (fun n => pe_orT (ha n) (hb n)) fun n σ H Q ⟨m, ρ, S, r, re, h⟩ => by
    refine ⟨m, ρ, S, r, re, (Po.bind h).mono fun d S1 m1 H1 e1 r1 h1 v hv => ?_⟩
    cases q : Di.truth S1 d with
    | none => rw [q] at h1; exact h1.elim
    | some k =>
      rw [q] at h1
      refine ⟨k, by rw [c.K]; exact tru_of r1 hv q, ?_⟩
      cases k with
      | true => exact iteT (h1 m1 H1 (Ext.refl _ _ _) r1 v hv)
      | false => exact iteF ⟨m1, ρ, S1, r1, re.ext e1, h1⟩
theorem s_not (c : XC X g) (ha : GE X g W a xa) : GE X g W (.UnaryOp .Not a pos) (.not xa) :=
  ge_of (t := fun n => tNotT X.K (tE g W n xa)) (fun n => pe_notT (ha n)) fun n σ H Q ⟨m, ρ, S, r, re, h⟩ => by
    have h' : Po g W σ m S.n H (Di.bindR (Di.bindR ((Di.evs n).e xa ρ S) fun d S => match Di.truth S d with
      | some b => .ok b S
      | none => .bad) fun b S => .ok (.bl (!b)) S) (kV g Q) := h
    rw [bindR_assoc] at h'
    refine ⟨m, ρ, S, r, re, (Po.bind h').mono fun d S1 m1 H1 e1 r1 h1 v hv => ?_⟩
    cases q : Di.truth S1 d with
    | none => rw [q] at h1; exact h1.elim
    | some k =>
      rw [q] at h1
      exact ⟨k, by rw [c.K]; exact tru_of r1 hv q, h1 m1 H1 (Ext.refl _ _ _) r1 _ (.bl _)⟩
theorem s_ite {t : Expr} {xt : Di.Ex} (hc : GT X g W t xt) (ha : GE X g W a xa) (hb : GE X g W b xb) : GE X g W (.IfExp t a b pos) (.ite xt xa xb) :=
  ge_of (t := fun n => tIf (tT g W n xt) (tE g W n xa) (tE g W n xb)) (fun n => pe_ifExp (hc n) (ha n) (hb n)) fun n σ H Q ⟨m, ρ, S, r, re, h⟩ => by
    refine tt_read r re h fun b S1 m1 H1 r1 re1 h1 => ?_
    cases b with
    | true => exact iteT ⟨m1, ρ, S1, r1, re1, h1⟩
    | false => exact iteF ⟨m1, ρ, S1, r1, re1, h1⟩
/-! ### the text turned about -/
theorem step_m1 {k : Nat} {p1 p2 : Pos} : PE X (.UnaryOp .USub (.Constant (.int 1) k p1) p2) (tC (.int (-1))) := pe_imp (pe_un un_neg pe_int) fun σ H Q h => ⟨1, rfl, h⟩
theorem step_01 {k k2 : Nat} {p1 p2 p3 : Pos} : PE X (.BinOp (.Constant (.int 0) k p1) .Sub (.Constant (.int 1) k2 p2) p3) (tC (.int (-1))) := pe_imp (pe_op op_sub pe_int pe_int) fun σ H Q h => ⟨0, 1, rfl, rfl, h⟩
theorem rev_txt (s : List Nat) (u : Tok) : Txt.sliceBy ⟨s.toArray⟩ none none (-1, u) = ⟨s.reverse.toArray⟩ := by
  have h := step_rev_list ⟨s.toArray⟩ u
  cases q : Txt.sliceBy ⟨s.toArray⟩ none none (-1, u) with
  | mk c =>
    rw [q] at h
    have e : c.toList = s.reverse := by
      rw [show c.toList = _ from h]
      apply List.ext_getElem
      · simp [Str.length]
      · intro i h1 h2
        have hi : i < s.length := by simpa using h2
        simp only [List.getElem_map, List.getElem_range, List.getElem_reverse, Str.length, List.size_toArray]
        have hj : s.length - 1 - i < s.length := by omega
        simp [Array.getD, hj]
    rw [← e]
theorem s_rev {st : Expr} {p3 : Pos} (ha : GE X g W a xa) (hst : PE X st (tC (.int (-1)))) : GE X g W (.Subscript a (.Slice none none (some st) p3) pos) (.rev xa) := by
  refine ge_of (t := fun n => fun σ H Q => tE g W n xa σ H fun x H1 => ∃ s : List Nat, x = .str ⟨s.toArray⟩ ∧ s.length ≤ sizeLine ∧ Q (.str ⟨s.reverse.toArray⟩) H1) (fun n => ⟨fun pins s σ H Q I h => ?_⟩) fun n σ H Q ⟨m, ρ, S, r, re, h⟩ => ⟨m, ρ, S, r, re, (Po.bind h).mono fun d S1 m1 H1 e1 r1 h1 v hv => ?_⟩
  · refine Subscript_ (thn ((ha n).run pins s σ H _ I h) fun v s1 ⟨x, H1, I1, r1, q1⟩ => ?_)
    obtain ⟨l, rfl, hz, q⟩ := q1
    obtain ⟨t, rfl⟩ := r1
    refine wpAny_Slice (thn (po_none.run pins s1 σ H1 (fun o H2 => o = none ∧ H2 = H1) I1 ⟨rfl, rfl⟩) fun vl s2 ⟨l2, H2, I2, pl, el, e2⟩ => ?_)
    subst el e2
    refine thn (po_none.run pins s2 σ H2 (fun o H3 => o = none ∧ H3 = H2) I2 ⟨rfl, rfl⟩) fun vu s3 ⟨u, H3, I3, pu, eu, e3⟩ => ?_
    subst eu e3
    refine thn ((po_some hst).run pins s3 σ H3 (fun o H4 => o = some (-1) ∧ H4 = H3) I3 ⟨-1, rfl, rfl, rfl⟩) fun vs s4 ⟨o, H4, I4, ps, eo, e4⟩ => ?_
    subst eo e4
    have I5 : Inv X pins σ H4 { s4 with heap := s4.heap.push { cls := .type "slice", data := .fields #[vl, vu, vs] } } := I4.kept (t' := s4.toks) fun b ob q => Heap.get?_push_of_some _ q
    obtain ⟨l1, rfl, e5⟩ := IsPart.raw pl
    obtain ⟨l3, rfl, e6⟩ := IsPart.raw pu
    obtain ⟨l4, rfl, e7⟩ := IsPart.raw ps
    cases l1 with
    | some _ => cases e5
    | none =>
    cases l3 with
    | some _ => cases e6
    | none =>
    cases l4 with
    | none => cases e7
    | some z =>
      obtain ⟨k, uk⟩ := z
      have ek : k = -1 := Option.some.inj e7
      subst ek
      show wpAny (model X.prog X.w) X.A (subscriptTail a (.Slice none none (some st) p3) (.str ⟨l.toArray⟩ t) (.ref s4.heap.objs.size)) (EP X pins σ Q) X.xe _
      refine tail_any (ops := [.ref s4.heap.objs.size, .str ⟨l.toArray⟩ t]) (typeIs_str _ _ _) (PySem.F.slot_str_getitem.lookup) ?_ (by with_unfolding_all rfl)
      refine wpAny_getItem_str_slice (l := none) (u := none) (st := some (-1, uk)) ⟨_, Heap.get?_push_size _ rfl, rfl, rfl⟩ rfl ?_
      have e8 : sliceMade ⟨l.toArray⟩ t none none (some (-1, uk)) = .str ⟨l.reverse.toArray⟩ := by
        have := rev_txt l uk
        unfold sliceMade
        rw [if_neg (fun h => absurd (Bool.and_eq_true_iff.mp h).1 (by show ¬ ((-1 : Int) == 1) = true; decide)), ← this]
        rfl
      rw [e8]
      refine ⟨by simpa [Str.length] using hz, ?_⟩
      exact ⟨.str _, H4, I5.tok _, ⟨_, rfl⟩, q⟩
  · have h1' := Po.lift h1
    cases hv with
    | str s =>
      have h2 : Pv g m1 S1.n H1 (cond (Nat.ble s.length Di.cap) (some (.str s.reverse, S1)) none) Q := h1'
      cases q : Nat.ble s.length Di.cap with
      | false => rw [q] at h2; exact h2.elim
      | true =>
        rw [q] at h2
        exact ⟨s, rfl, cap_le q, Pv.here h2 r1 (.str _)⟩
    | _ => exact h1'.elim
end
end DiS
end

section
set_option Elab.async false
set_option linter.all false
set_option maxRecDepth 100000
set_option maxHeartbeats 4000000
/-! the rules: statements, targets, loops, comprehensions, calls, defs -/
namespace DiS
open PySem PySem.Spec PyProof.Rows L2
open Di (Sto MO)
/-! ### targets -/
mutual
def slotsT : Di.Tg → List Nat
  | .name i => [i]
  | .tup ts => slotsTs ts
def slotsTs : List Di.Tg → List Nat
  | [] => []
  | t :: ts => slotsT t ++ slotsTs ts
end
def Off (l : List Nat) (σ σ' : L2.St) : Prop := σ'.length = σ.length ∧ ∀ i, i ∉ l → σ'[i]? = σ[i]?
theorem Off.refl (l : List Nat) (σ : L2.St) : Off l σ σ := ⟨rfl, fun _ _ => rfl⟩
theorem Off.trans {l1 l2 : List Nat} {σ σ1 σ2 : L2.St} (a : Off l1 σ σ1) (b : Off l2 σ1 σ2) : Off (l1 ++ l2) σ σ2 :=
  ⟨b.1.trans a.1, fun i h => (b.2 i fun q => h (List.mem_append_right _ q)).trans (a.2 i fun q => h (List.mem_append_left _ q))⟩
def tgT (g : G) (t : Di.Tg) : TG := fun v σ H Q => ∃ m n ρ d ρ', RelE g m n H ρ σ ∧ DV g m n H d v ∧ Di.bindT t d ρ = some ρ' ∧ ∀ σ', RelE g m n H ρ' σ' → Off (slotsT t) σ σ' → Q σ' H
def tgTs (g : G) (ts : List Di.Tg) : TGs := fun vs σ H Q => ∃ m n ρ ds ρ', RelE g m n H ρ σ ∧ DVs g m n H ds vs ∧ Di.bindTs ts ds ρ = some ρ' ∧ ∀ σ', RelE g m n H ρ' σ' → Off (slotsTs ts) σ σ' → Q σ' H
theorem pg_imp {X : Cx} {e : Expr} {t t' : TG} (h : PG X e t) (k : ∀ v σ H Q, t' v σ H Q → t v σ H Q) : PG X e t' := ⟨fun pins s σ H v u Q I r q => h.run pins s σ H v u Q I r (k v σ H Q q)⟩
theorem pgs_imp {X : Cx} {e : List Expr} {t t' : TGs} (h : PGs X e t) (k : ∀ v σ H Q, t' v σ H Q → t v σ H Q) : PGs X e t' := ⟨fun pins s σ H v u Q I r q => h.run pins s σ H v u Q I r (k v σ H Q q)⟩
section
variable {X : Cx} {g : G} {W : WX} {pos : Pos}
theorem off_set (σ : L2.St) (i : Nat) (o : Option V) : Off [i] σ (σ.set i o) := ⟨by rw [List.length_set], fun j h => List.getElem?_set_ne (fun q => h (by rw [q]; exact List.mem_singleton.mpr rfl))⟩
theorem g_name {i : Nat} {x : Str} (h : PG X (.Name x pos) (gName i)) : PG X (.Name x pos) (tgT g (.name i)) :=
  pg_imp h fun v σ H Q ⟨m, n, ρ, d, ρ', re, hv, hb, q⟩ => by
    have e : ρ.set i (some d) = ρ' := Option.some.inj hb
    subst e
    exact q _ (re.set i hv) (off_set σ i _)
theorem g_nil : PGs X [] (tgTs g []) := pgs_imp pgs_nil fun vs σ H Q ⟨m, n, ρ, ds, ρ', re, hv, hb, q⟩ => by
  cases hv with
  | nil =>
    have e : ρ = ρ' := Option.some.inj hb
    subst e
    exact ⟨rfl, q σ re (Off.refl _ _)⟩
  | cons _ _ => cases hb
theorem g_cons {e : Expr} {es : List Expr} {t : Di.Tg} {ts : List Di.Tg} (h1 : PG X e (tgT g t)) (h2 : PGs X es (tgTs g ts))
    (hs : (assignEach (e :: es) X.env).map (·.2) = assign e X.env :: (assignEach es X.env).map (·.2) := by rfl) : PGs X (e :: es) (tgTs g (t :: ts)) :=
  pgs_imp (pgs_cons h1 h2 hs) fun vs σ H Q ⟨m, n, ρ, ds, ρ', re, hv, hb, q⟩ => by
    cases hv with
    | nil => cases hb
    | @cons d v ds vs hd hds =>
      have hb' : (match Di.bindT t d ρ with
        | some ρ => Di.bindTs ts ds ρ
        | none => none) = some ρ' := hb
      cases q1 : Di.bindT t d ρ with
      | none => rw [q1] at hb'; cases hb'
      | some ρ1 =>
        rw [q1] at hb'
        exact ⟨v, vs, rfl, m, n, ρ, d, ρ1, re, hd, q1, fun σ1 re1 o1 => ⟨m, n, ρ1, ds, ρ', re1, hds, hb', fun σ2 re2 o2 => q σ2 re2 (o1.trans o2)⟩⟩
theorem g_tup (c : XC X g) {es : List Expr} {k n : Nat} {ts : List Di.Tg} (h : PGs X es (tgTs g ts)) (hl : ts.length = n := by rfl)
    (hn : (assignEach es X.env).length = n := by rfl) (hst : (assignEach es X.env).findIdx? (·.1) = none := by rfl) : PG X (.Tuple es k pos) (tgT g (.tup ts)) :=
  pg_imp (pg_tup c.calm h hn hst) fun v σ H Q ⟨m, n', ρ, d, ρ', re, hv, hb, q⟩ => by
    cases hv with
    | @tup ds a vs h1 h2 =>
      have hb' : Di.bindTs ts ds ρ = some ρ' := hb
      have len : ∀ (ts : List Di.Tg) (ds : List Di.D) (ρ ρ' : Di.Env), Di.bindTs ts ds ρ = some ρ' → ds.length = ts.length := by
        intro ts
        induction ts with
        | nil =>
          intro ds ρ ρ' h
          cases ds with
          | nil => rfl
          | cons _ _ => cases h
        | cons t ts ih =>
          intro ds ρ ρ' h
          cases ds with
          | nil => cases h
          | cons d ds =>
            have h' : (match Di.bindT t d ρ with
              | some ρ => Di.bindTs ts ds ρ
              | none => none) = some ρ' := h
            cases q : Di.bindT t d ρ with
            | none => rw [q] at h'; cases h'
            | some ρ1 =>
              rw [q] at h'
              exact congrArg (· + 1) (ih ds ρ1 ρ' h')
      exact ⟨a, vs, rfl, by rw [c.K]; exact h1, by rw [← h2.length, len ts ds ρ ρ' hb', hl], m, n', ρ, ds, ρ', re, h2, hb', q⟩
    | _ => cases hb
/-! ### what is walked -/
structure SrcR (g : G) (m : Mp) (n : Nat) (H : Hp) (src : Di.Src) (J : It) : Prop where
  yes : ∀ m' S' H' i d, Ext m n H m' S'.n H' → RelS g m' S' H' → src.at S' i = some (some d) → J.go i H' ∧ ∀ x H2, J.yld i H' x H2 → Ext m' S'.n H' m' S'.n H2 ∧ RelS g m' S' H2 ∧ DV g m' S'.n H2 d x
  no : ∀ m' S' H' i, Ext m n H m' S'.n H' → RelS g m' S' H' → src.at S' i = some none → J.stop i H'
def tI (g : G) (W : WX) (n : Nat) (sr : Di.Sr) : TI := fun σ H R => ∃ m ρ S, RelS g m S H ∧ RelE g m S.n H ρ σ ∧ Po g W σ m S.n H (Di.evSr (Di.evs n).e sr ρ S) (fun src S' m' H' => ∀ J, SrcR g m' S'.n H' src J → R J H')
def GI (X : Cx) (g : G) (W : WX) (tg e : Expr) (sr : Di.Sr) : Prop := ∀ n, PI X tg e (tI g W n sr)
theorem pi_imp {tg e : Expr} {t t' : TI} (h : PI X tg e t) (k : ∀ σ H Q, t' σ H Q → t σ H Q) : PI X tg e t' := ⟨fun pins s σ H Q I q => h.run pins s σ H Q I (k σ H Q q)⟩
theorem pi_or {tg e : Expr} {t t' : TI} (h : PI X tg e t) (h' : PI X tg e t') : PI X tg e (fun σ H Q => t σ H Q ∨ t' σ H Q) := ⟨fun pins s σ H Q I q => q.elim (h.run pins s σ H Q I) (h'.run pins s σ H Q I)⟩
theorem src_tup {m : Mp} {n : Nat} {H : Hp} {ds : List Di.D} {a : Addr} {vs : List V} (h : SqT g.K H a vs) (hv : DVs g m n H ds vs) : SrcR g m n H (.items ds) (Itt g.K a) := by
  refine ⟨fun m' S' H' i d e r q => ?_, fun m' S' H' i e r q => ?_⟩
  · have hd : ds[i]? = some d := Option.some.inj q
    obtain ⟨v, h1, h2⟩ := hv.get hd
    refine ⟨⟨vs, v, e.sqT h, h1⟩, fun x H2 y => ?_⟩
    obtain ⟨rfl, y⟩ := y
    have hx : x = v := Option.some.inj ((y vs (e.sqT h)).symm.trans h1)
    subst hx
    exact ⟨Ext.refl _ _ _, r, h2.ext e⟩
  · exact ⟨vs, e.sqT h, hv.none_of (Option.some.inj q)⟩
theorem src_str {m : Mp} {n : Nat} {H : Hp} (s : List Nat) : SrcR g m n H (.items (s.map fun c => .str [c])) (Its ⟨s.toArray⟩) := by
  refine ⟨fun m' S' H' i d e r q => ?_, fun m' S' H' i e r q => ?_⟩
  · have hd : (s.map fun c => Di.D.str [c])[i]? = some d := Option.some.inj q
    rw [List.getElem?_map] at hd
    cases hc : s[i]? with
    | none => rw [hc] at hd; cases hd
    | some c =>
      rw [hc] at hd
      cases hd
      have hi : i < s.length := (List.getElem?_eq_some_iff.mp hc).1
      refine ⟨by show i < s.toArray.size; simpa using hi, fun x H2 y => ?_⟩
      obtain ⟨rfl, c2, h1, rfl⟩ := y
      have h2 : s[i]? = some c2 := by simpa using h1
      rw [hc] at h2
      cases h2
      exact ⟨Ext.refl _ _ _, r, .str [c]⟩
  · have hd : (s.map fun c => Di.D.str [c])[i]? = none := Option.some.inj q
    have := List.getElem?_eq_none_iff.mp hd
    show s.toArray.size ≤ i
    simpa using this
theorem src_live {m : Mp} {S : Sto} {H : Hp} {i : Nat} {o : MO} (r0 : RelS g m S H) (h : S.get i = some o) : SrcR g m S.n H (.live i) (Itl g.K (m i)) := by
  have hi : i < S.n := (r0.obj i o h).1
  have read : ∀ m' S' H' (xs : List Di.D), Ext m S.n H m' S'.n H' → RelS g m' S' H' → (S'.get i = some (.lst xs) ∨ S'.get i = some (.rol xs)) → ∃ vs, SqL g.K H' (m i) vs ∧ DVs g m' S'.n H' xs vs := fun m' S' H' xs e r q => by
    rw [← e.ids i hi]
    rcases q with q | q
    · obtain ⟨vs, e1, hs⟩ := (r.obj i _ q).2
      exact ⟨vs, .inl (.inl e1), hs⟩
    · obtain ⟨vs, e1, hs⟩ := (r.obj i _ q).2
      rcases e1 with ⟨ob, e1⟩ | e1
      · exact ⟨vs, .inl (.inr ⟨ob, e1⟩), hs⟩
      · exact ⟨vs, .inr e1, hs⟩
  have at_ : ∀ S' k o', (Di.Src.live i).at S' k = some o' → ∃ xs : List Di.D, (S'.get i = some (.lst xs) ∨ S'.get i = some (.rol xs)) ∧ xs[k]? = o' := fun S' k o' q => by
    have q' : (match Sto.get S' i with
      | some (.lst xs) => some xs[k]?
      | some (.rol xs) => some xs[k]?
      | _ => none) = some o' := q
    cases q2 : Sto.get S' i with
    | none => rw [q2] at q'; cases q'
    | some o2 =>
      rw [q2] at q'
      cases o2 with
      | lst xs => exact ⟨xs, .inl rfl, Option.some.inj q'⟩
      | rol xs => exact ⟨xs, .inr rfl, Option.some.inj q'⟩
      | dct _ => cases q'
      | ins _ _ => cases q'
  refine ⟨fun m' S' H' k d e r q => ?_, fun m' S' H' k e r q => ?_⟩
  · obtain ⟨xs, h1, h2⟩ := at_ S' k _ q
    obtain ⟨vs, h3, h4⟩ := read m' S' H' xs e r h1
    obtain ⟨v, h5, h6⟩ := h4.get h2
    refine ⟨⟨vs, v, h3, h5⟩, fun x H2 y => ?_⟩
    obtain ⟨rfl, y⟩ := y
    have hx : x = v := Option.some.inj ((y vs h3).symm.trans h5)
    subst hx
    exact ⟨Ext.refl _ _ _, r, h6⟩
  · obtain ⟨xs, h1, h2⟩ := at_ S' k _ q
    obtain ⟨vs, h3, h4⟩ := read m' S' H' xs e r h1
    exact ⟨vs, h3, h4.none_of h2⟩
theorem src_rng {m : Mp} {n : Nat} {H : Hp} (lo : Int) (k : Nat) : SrcR g m n H (.rng lo k) (Itr lo k) := by
  refine ⟨fun m' S' H' i d e r q => ?_, fun m' S' H' i e r q => ?_⟩
  · have hd : cond (Nat.blt i k) (some (Di.D.int (lo + i))) none = some d := Option.some.inj q
    obtain ⟨h1, h2⟩ := cond_some hd
    subst h2
    refine ⟨Nat.le_of_ble_eq_true h1, fun x H2 y => ?_⟩
    obtain ⟨rfl, rfl⟩ := y
    exact ⟨Ext.refl _ _ _, r, .int _⟩
  · have hd : cond (Nat.blt i k) (some (Di.D.int (lo + i))) none = none := Option.some.inj q
    show k ≤ i
    cases q2 : Nat.blt i k with
    | true => rw [q2] at hd; cases hd
    | false =>
      have : ¬ i < k := fun z => by
        rw [show Nat.blt i k = true from Nat.ble_eq_true_of_le z] at q2
        cases q2
      omega
/-- over a list, a tuple, a text -/
theorem i_seq (c : XC X g) {tg e : Expr} {xe : Di.Ex} (he : GE X g W e xe) : GI X g W tg e (.seq xe) := fun n =>
  pi_imp (pi_or (pi_list (he n)) (pi_or (pi_tup (he n)) (pi_str (he n)))) fun σ H R ⟨m, ρ, S, r, re, h⟩ => by
    have h' : Po g W σ m S.n H (Di.bindR ((Di.evs n).e xe ρ S) fun d S => (match Di.srcOf S d with
      | some s => .ok s S
      | none => .bad)) (fun src S' m' H' => ∀ J, SrcR g m' S'.n H' src J → R J H') := h
    have h2 := h'.bind
    cases q : (Di.evs n).e xe ρ S with
    | bad => rw [q] at h2; exact h2.elim
    | exc e2 S1 =>
      rw [q] at h2
      refine .inl ⟨m, ρ, S, r, re, ?_⟩
      rw [q]
      exact h2
    | ok d S1 =>
      rw [q] at h2
      cases d with
      | tup ds =>
        refine .inr (.inl ⟨m, ρ, S, r, re, ?_⟩)
        rw [q]
        intro m1 H1 e1 r1 v hv
        cases hv with
        | @tup _ a vs h3 h4 => exact ⟨a, rfl, ⟨vs, by rw [c.K]; exact h3⟩, h2 m1 H1 e1 r1 m1 H1 (Ext.refl _ _ _) r1 _ (by rw [c.K]; exact src_tup h3 h4)⟩
      | str s =>
        refine .inr (.inr ⟨m, ρ, S, r, re, ?_⟩)
        rw [q]
        intro m1 H1 e1 r1 v hv
        cases hv
        exact ⟨_, rfl, h2 m1 H1 e1 r1 m1 H1 (Ext.refl _ _ _) r1 _ (src_str s)⟩
      | ref i =>
        refine .inl ⟨m, ρ, S, r, re, ?_⟩
        rw [q]
        intro m1 H1 e1 r1 v hv
        have h3 := h2 m1 H1 e1 r1
        have h4 : Po g W σ m1 S1.n H1 (match (match Sto.get S1 i with
          | some (.lst _) => some (Di.Src.live i)
          | some (.rol _) => some (Di.Src.live i)
          | _ => none) with
          | some s => Di.R.ok s S1
          | none => .bad) (fun src S' m' H' => ∀ J, SrcR g m' S'.n H' src J → R J H') := h3
        cases hv with
        | ref hi =>
          cases q2 : Sto.get S1 i with
          | none => rw [q2] at h4; exact h4.elim
          | some o =>
            rw [q2] at h4
            have z := (r1.obj i o q2).2
            cases o with
            | lst ys =>
              obtain ⟨vs, e2, _⟩ := z
              exact ⟨_, rfl, ⟨vs, .inl (.inl e2)⟩, h4 m1 H1 (Ext.refl _ _ _) r1 _ (by rw [c.K]; exact src_live r1 q2)⟩
            | rol ys =>
              obtain ⟨vs, e2, _⟩ := z
              refine ⟨_, rfl, ⟨vs, ?_⟩, h4 m1 H1 (Ext.refl _ _ _) r1 _ (by rw [c.K]; exact src_live r1 q2)⟩
              rcases e2 with ⟨ob, e2⟩ | e2
              · exact .inl (.inr ⟨ob, e2⟩)
              · rw [c.K]; exact .inr e2
            | dct _ => exact h4.elim
            | ins _ _ => exact h4.elim
      | _ =>
        refine .inl ⟨m, ρ, S, r, re, ?_⟩
        rw [q]
        intro m1 H1 e1 r1 v hv
        exact (h2 m1 H1 e1 r1).elim
theorem i_rng1 {tg e : Expr} {xe : Di.Ex} {p : Pos} (hg : Gl X "range") (hm : X.mg "range" = none) (he : GE X g W e xe) (hs : starEach [e] X.env = [(false, eval e X.env)] := by rfl) : GI X g W tg (.Call (.Name "range" p) [e] [] pos) (.rng1 xe) := fun n =>
  pi_imp (pi_range1 hg hm (s_cons he s_nil hs n) hs) fun σ H R ⟨m, ρ, S, r, re, h⟩ => by
    have h' : Po g W σ m S.n H (Di.bindR ((Di.evs n).e xe ρ S) fun d S => (match d with
      | .int j => cond (decide (-(2 ^ 62) ≤ j) && decide (j < 2 ^ 62)) (.ok (.rng 0 j.toNat) S) .bad
      | _ => .bad)) (fun src S' m' H' => ∀ J, SrcR g m' S'.n H' src J → R J H') := h
    refine ⟨m, ρ, S, r, re, ?_⟩
    have h2 := h'.bind
    show Po g W σ m S.n H (Di.bindR ((Di.evs n).e xe ρ S) fun d S => .ok [d] S) _
    cases q : (Di.evs n).e xe ρ S with
    | bad => rw [q] at h2; exact h2
    | exc e2 S1 => rw [q] at h2; exact h2
    | ok d S1 =>
      rw [q] at h2
      intro m1 H1 e1 r1 vs hvs
      have h3 := h2 m1 H1 e1 r1
      obtain ⟨v, rfl, hv⟩ := one_of hvs
      cases hv with
      | int j =>
        have h4 : Po g W σ m1 S1.n H1 (cond (decide (-(2 ^ 62) ≤ j) && decide (j < 2 ^ 62)) (Di.R.ok (Di.Src.rng 0 j.toNat) S1) .bad) (fun src S' m' H' => ∀ J, SrcR g m' S'.n H' src J → R J H') := h3
        cases q2 : (decide (-(2 ^ 62) ≤ j) && decide (j < 2 ^ 62)) with
        | false => rw [q2] at h4; exact h4.elim
        | true =>
          rw [q2] at h4
          simp only [Bool.and_eq_true, decide_eq_true_eq] at q2
          exact ⟨j, rfl, q2.1, q2.2, h4 m1 H1 (Ext.refl _ _ _) r1 _ (src_rng 0 _)⟩
      | _ => exact h3.elim
end
end DiS
end

section
set_option Elab.async false
set_option linter.all false
set_option maxRecDepth 100000
set_option maxHeartbeats 4000000
/-! the rules: statements, loops, comprehensions, calls, defs -/
namespace DiS
open PySem PySem.Spec PyProof.Rows L2
open Di (Sto MO)
section
variable {X : Cx} {g : G} {W : WX} {pos : Pos} {e a : Expr} {xe xa : Di.Ex}
/-- from an expression's run inside a statement -/
theorem ofR_read {g : G} {W : WX} {α : Type} {m : Mp} {n : Nat} {σ : L2.St} {H : Hp} {ρ : Di.Env} {rr : Di.R α} {f : α → Sto → Di.O} {D : Ends} (re : RelE g m n H ρ σ) (h : PoO g W m n H (Di.ofR rr ρ f) D) :
    Po g W σ m n H rr (fun x S1 m1 H1 => PoO g W m1 S1.n H1 (f x S1) D) := by
  cases rr with
  | bad => exact h
  | exc e S => exact fun m' H' cls d e1 r1 x => h m' σ H' cls d e1 r1 (re.ext e1) x
  | ok x S => exact fun m' H' e1 r1 => PoO.ext e1 h
theorem z_expr (he : GE X g W e xe) (hs : swapsWith e none pos.line X.env = pure false := by rfl) : GS X g W (.Expr e pos) (.expr xe) :=
  gs_of (t := fun n => tDrop (tE g W n xe)) (fun n => ps_expr (he n) hs) fun n D σ H ⟨m, ρ, S, r, re, h⟩ =>
    ⟨m, ρ, S, r, re, (ofR_read re h).mono fun d S1 m1 H1 e1 r1 h1 v hv => h1 m1 σ H1 (Ext.refl _ _ _) r1 (re.ext e1)⟩
theorem z_doc {x : Str} {j : Nat} {pos' : Pos} : GS X g W (.Expr (.Constant (.str x) j pos) pos') .skip :=
  gs_of (t := fun n => tNext) (fun n => ps_doc) fun n D σ H ⟨m, ρ, S, r, re, h⟩ => h m σ H (Ext.refl _ _ _) r re
theorem z_ret (he : GE X g W e xe) : GS X g W (.Return (some e) pos) (.ret xe) :=
  gs_of (t := fun n => tRet (tE g W n xe)) (fun n => ps_ret (he n)) fun n D σ H ⟨m, ρ, S, r, re, h⟩ =>
    ⟨m, ρ, S, r, re, (ofR_read re h).mono fun d S1 m1 H1 e1 r1 h1 v hv => h1 m1 H1 v (Ext.refl _ _ _) r1 hv⟩
theorem z_retN : GS X g W (.Return none pos) (.ret (.lit .non)) := fun n => ps_imp ps_retN fun D σ H ⟨m, ρ, S, r, re, h⟩ => by
  cases n with
  | zero => exact h.elim
  | succ n => cases n with
    | zero => exact h.elim
    | succ n => exact h m H .non (Ext.refl _ _ _) r .non
theorem z_pass : GS X g W (.Pass pos) .skip := gs_of (t := fun n => tNext) (fun n => ps_pass) fun n D σ H ⟨m, ρ, S, r, re, h⟩ => h m σ H (Ext.refl _ _ _) r re
theorem z_brk : GS X g W (.Break pos) .brk := gs_of (t := fun n => tBreak) (fun n => ps_break) fun n D σ H ⟨m, ρ, S, r, re, h⟩ => h m σ H (Ext.refl _ _ _) r re
theorem z_cnt : GS X g W (.Continue pos) .cnt := gs_of (t := fun n => tCont) (fun n => ps_continue) fun n D σ H ⟨m, ρ, S, r, re, h⟩ => h m σ H (Ext.refl _ _ _) r re
/-- a stored value -/
theorem asg_read {g : G} {W : WX} {n : Nat} {t : Di.Tg} {D : Ends} {σ : L2.St} {H : Hp} (h : tS g W (n + 1) (.asg t xe) D σ H) : tE g W n xe σ H fun x H1 => tgT g t x σ H1 D.nx := by
  obtain ⟨m, ρ, S, r, re, h⟩ := h
  refine ⟨m, ρ, S, r, re, (ofR_read re h).mono fun d S1 m1 H1 e1 r1 h1 v hv => ?_⟩
  cases q : Di.bindT t d ρ with
  | none => rw [q] at h1; exact h1.elim
  | some ρ' =>
    rw [q] at h1
    exact ⟨m1, S1.n, ρ, d, ρ', re.ext e1, hv, q, fun σ' re' _ => h1 m1 σ' H1 (Ext.refl _ _ _) r1 re'⟩
theorem z_set {i : Nat} {x : Str} {pos' : Pos} (hN : X.N.Nodup) (hi : X.N[i]? = some x) (hx : Loc X.env.scope x) (he : GE X g W e xe) (hs : swapsWith e (some (.Name x pos')) pos.line X.env = pure false := by rfl) (hf : X.fn x = true ∨ X.env.scope.names.lookup x = some .local := by first | exact .inl rfl | exact .inr rfl | assumption) :
    GS X g W (.Assign [.Name x pos'] e pos) (.asg (.name i) xe) :=
  gs_of (t := fun n => tAsg (tE g W n xe) (gName i)) (fun n => ps_set hN hi hx (he n) hs hf) fun n D σ H h => by
    obtain ⟨m, ρ, S, r, re, h⟩ := asg_read h
    refine ⟨m, ρ, S, r, re, h.mono fun d S1 m1 H1 e1 r1 h1 v hv => ?_⟩
    obtain ⟨m2, n2, ρ2, d2, ρ', re2, hv2, hb, q⟩ := h1 v hv
    have e : ρ2.set i (some d2) = ρ' := Option.some.inj hb
    subst e
    exact q _ (re2.set i hv2) (off_set σ i _)
theorem z_asg {tg : Expr} {t : Di.Tg} (he : GE X g W e xe) (hg : PG X tg (tgT g t)) (hs : swapsWithSole [tg] e pos.line X.env = pure false := by rfl) (hw : swappedStores [tg] e X.env = pure none := by rfl)
    (h1 : (assignEach [tg] X.env).map (·.2) = [assign tg X.env] := by rfl) : GS X g W (.Assign [tg] e pos) (.asg t xe) :=
  gs_of (t := fun n => tAsg (tE g W n xe) (tgT g t)) (fun n => ps_asg (he n) hg hs hw h1) fun n D σ H h => asg_read h
/-- a, b = x, y, plain local names -/
theorem z_par {i j : Nat} {x y : Str} {a b : Expr} {xs : List Di.Ex} {px py pt : Pos} {kt k2 : Nat} {pt2 : Pos} (hc : X.calm = true) (hN : X.N.Nodup) (hi : X.N[i]? = some x) (hj : X.N[j]? = some y) (hij : i ≠ j)
    (hx : X.env.scope.names.lookup x = some .local) (hy : X.env.scope.names.lookup y = some .local) (ha : GA X g W [a, b] xs)
    (hw : swappedStores [.Tuple [.Name x px, .Name y py] kt pt] (.Tuple [a, b] k2 pt2) X.env = pure (some [x, y]))
    (hs : swapsWithSole [.Tuple [.Name x px, .Name y py] kt pt] (.Tuple [a, b] k2 pt2) pos.line X.env = pure false := by rfl) :
    GS X g W (.Assign [.Tuple [.Name x px, .Name y py] kt pt] (.Tuple [a, b] k2 pt2) pos) (.asg (.tup [.name i, .name j]) (.tup xs)) := fun n => by
  cases n with
  | zero => exact ⟨fun pins s σ H D I q => (tS_zero q).elim⟩
  | succ n =>
  cases n with
  | zero => exact ⟨fun pins s σ H D I ⟨m, ρ, S, r, re, h⟩ => h.elim⟩
  | succ n =>
  refine ps_imp (ps_par hc hN hi hj hij hx hy (ha n) hw hs) fun D σ H h => ?_
  obtain ⟨m, ρ, S, r, re, h⟩ := h
  have h0 : PoO g W m S.n H (Di.ofR (Di.bindR (Di.evL (Di.evs n).e xs ρ S) fun ds S => cond (Nat.ble ds.length Di.cap) (.ok (.tup ds) S) .bad) ρ fun d S => (match Di.bindT (.tup [.name i, .name j]) d ρ with
    | some ρ => .nx ρ S
    | none => .bad)) D := h
  refine ⟨m, ρ, S, r, re, (ofR_read re h0).bind.mono fun ds S1 m1 H1 e1 r1 h1 vs hvs => ?_⟩
  cases q : Nat.ble ds.length Di.cap with
  | false => rw [q] at h1; exact h1.elim
  | true =>
    rw [q] at h1
    have h2 := h1 m1 H1 (Ext.refl _ _ _) r1
    cases hvs with
    | nil => exact h2.elim
    | @cons d v _ _ hd hr => cases hr with
      | nil => exact h2.elim
      | @cons d2 v2 _ _ hd2 hr2 => cases hr2 with
        | cons _ _ => exact h2.elim
        | nil => exact ⟨v, v2, rfl, h2 m1 _ H1 (Ext.refl _ _ _) r1 (((re.ext e1).set i hd).set j hd2)⟩
/-- xs[i] = e -/
theorem z_asgI {o i : Expr} {xo xi : Di.Ex} {tpos : Pos} (he : GE X g W e xe) (ho : GE X g W o xo) (hi : GE X g W i xi)
    (ha : ∀ v, assign (.Subscript o i tpos) X.env v = (do
      let ov ← holding [v] (eval o X.env)
      let iv ← holding [v, ov] (eval i X.env)
      standAt tpos
      holding [v, ov, iv] (setItem ov iv v)
      release [v, ov, iv] []) := by intro _; rfl) (hs : swapsWithSole [.Subscript o i tpos] e pos.line X.env = pure false := by rfl) (hw : swappedStores [.Subscript o i tpos] e X.env = pure none := by rfl)
    (h1 : (assignEach [.Subscript o i tpos] X.env).map (·.2) = [assign (.Subscript o i tpos) X.env] := by rfl) : GS X g W (.Assign [.Subscript o i tpos] e pos) (.asgI xo xi xe) :=
  gs_of (t := fun n => tAsg (tE g W n xe) (gSub (tE g W n xo) (tE g W n xi) rSetL)) (fun n => ps_asg (he n) (pg_sub (ho n) (hi n) set_list ha) hs hw h1) fun n D σ H ⟨m, ρ, S, r, re, h⟩ =>
    ⟨m, ρ, S, r, re, (ofR_read re h).mono fun d S1 m1 H1 e1 r1 h1 v hv =>
      ⟨m1, ρ, S1, r1, re.ext e1, (ofR_read (re.ext e1) h1).mono fun x S2 m2 H2 e2 r2 h2 w hw =>
        ⟨m2, ρ, S2, r2, (re.ext e1).ext e2, (ofR_read ((re.ext e1).ext e2) h2).mono fun y S3 m3 H3 e3 r3 h3 z hz => by
          have hw3 := hw.ext e3
          have hv3 := (hv.ext e2).ext e3
          cases hw3 with
          | @ref k hk =>
            have h4 : PoO g W m3 S3.n H3 (match (match S3.get k with
              | some (.lst xs) => (match y with
                | .int k2 => (match Di.seqIx xs.length k2 with
                  | some j => some (S3.set k (.lst (xs.set j d)))
                  | none => none)
                | _ => none)
              | _ => none) with
              | some S => .nx ρ S
              | none => .bad) D := h3
            cases q : S3.get k with
            | none => rw [q] at h4; exact h4.elim
            | some ob =>
              rw [q] at h4
              cases ob with
              | lst xs =>
                cases hz with
                | int k2 =>
                  have h5 : PoO g W m3 S3.n H3 (match (match Di.seqIx xs.length k2 with
                    | some j => some (S3.set k (.lst (xs.set j d)))
                    | none => none) with
                    | some S => .nx ρ S
                    | none => .bad) D := h4
                  cases q2 : Di.seqIx xs.length k2 with
                  | none => rw [q2] at h5; exact h5.elim
                  | some j =>
                    rw [q2] at h5
                    obtain ⟨vs, e4, hs4⟩ := lst_of r3 q
                    obtain ⟨e5, r5⟩ := r3.setL q (hs4.set hv3 j)
                    refine ⟨m3 k, vs, k2, j, rfl, rfl, e4, ?_, ?_⟩
                    · rw [← hs4.length]; exact seqIx_ixN q2
                    · exact h5 m3 σ _ e5 r5 ((((re.ext e1).ext e2).ext e3).ext e5)
                | _ => exact h4.elim
              | rol _ => exact h4.elim
              | dct _ => exact h4.elim
              | ins _ _ => exact h4.elim
          | _ => exact h3.elim⟩⟩⟩
/-! ### blocks -/
variable {st : Stmt} {rest : List Stmt} {x : Di.Sx} {xs : List Di.Sx}
theorem b_nil : GSs X g W [] [] := fun n => pss_imp pss_nil fun D σ H ⟨m, ρ, S, r, re, h⟩ => h m σ H (Ext.refl _ _ _) r re
theorem b_cons (h1 : GS X g W st x) (h2 : GSs X g W rest xs) : GSs X g W (st :: rest) (x :: xs) := fun n =>
  pss_imp (pss_cons (h1 n) (h2 n)) fun D σ H ⟨m, ρ, S, r, re, h⟩ => by
    have h' : PoO g W m S.n H (match (Di.evs n).s x ρ S with
      | .nx ρ S => Di.run (Di.evs n).s xs ρ S
      | o => o) D := h
    refine ⟨m, ρ, S, r, re, ?_⟩
    cases q : (Di.evs n).s x ρ S with
    | nx ρ1 S1 =>
      rw [q] at h'
      exact fun m1 σ1 H1 e1 r1 re1 => ⟨m1, ρ1, S1, r1, re1, PoO.ext e1 h'⟩
    | rt d S1 => rw [q] at h'; exact h'
    | bk ρ1 S1 => rw [q] at h'; exact h'
    | ct ρ1 S1 => rw [q] at h'; exact h'
    | exc e1 ρ1 S1 => rw [q] at h'; exact h'
    | bad => rw [q] at h'; exact h'
theorem z_if {t : Expr} {xt : Di.Ex} {a b : List Stmt} {xa xb : List Di.Sx} (hc : GT X g W t xt) (ha : GSs X g W a xa) (hb : GSs X g W b xb) : GS X g W (.If t a b pos) (.ifs xt xa xb) :=
  gs_of (t := fun n => tIfS (tT g W n xt) (tSs g W n xa) (tSs g W n xb)) (fun n => ps_if (hc n) (ha n) (hb n)) fun n D σ H ⟨m, ρ, S, r, re, h⟩ =>
    ⟨m, ρ, S, r, re, (ofR_read re h).mono fun k S1 m1 H1 e1 r1 h1 => by
      cases k with
      | true => exact iteT (A := tSs g W n xa D σ H1) (B := tSs g W n xb D σ H1) ⟨m1, ρ, S1, r1, re.ext e1, h1⟩
      | false => exact iteF (A := tSs g W n xa D σ H1) (B := tSs g W n xb D σ H1) ⟨m1, ρ, S1, r1, re.ext e1, h1⟩⟩
/-! ### for -/
theorem z_for {tg iter : Expr} {body : List Stmt} {sr : Di.Sr} {t : Di.Tg} {xb : List Di.Sx} (hp : PassesOwn (model X.prog X.w) X.A X.env X.xe) (hc : X.calm = true) (hi : GI X g W tg iter sr) (hg : PG X tg (tgT g t)) (hb : GSs X g W body xb)
    (hs : ∀ x, foldedSetIterable iter X.env x = pure x := by intro _; rfl) : GS X g W (.For tg iter body [] pos) (.forI t sr xb) :=
  gs_of (t := fun n => tFor (tI g W n sr) (tgT g t) (tSs g W n xb)) (fun n => ps_for hp hc (hi n) hg (hb n) hs) fun n D σ H ⟨m, ρ, S, r, re, h⟩ => by
    refine ⟨m, ρ, S, r, re, (ofR_read re h).mono fun src S1 m1 H1 e1 r1 h1 J hJ => ?_⟩
    refine ⟨fun i k σ H => ∃ m2 ρ2 S2, Ext m1 S1.n H1 m2 S2.n H ∧ RelS g m2 S2 H ∧ RelE g m2 S2.n H ρ2 σ ∧ PoO g W m2 S2.n H (Di.loopI (Di.run (Di.evs n).s xb) t src k i ρ2 S2) D,
      ⟨Di.far, m1, ρ, S1, Ext.refl _ _ _, r1, re.ext e1, h1⟩, ?_⟩
    rintro i k σ2 H2 ⟨m2, ρ2, S2, e2, r2, re2, h2⟩
    cases k with
    | zero => exact h2.elim
    | succ k =>
      have h3 : PoO g W m2 S2.n H2 (match src.at S2 i with
        | none => .bad
        | some none => .nx ρ2 S2
        | some (some d) => (match Di.bindT t d ρ2 with
          | none => .bad
          | some ρ => (match Di.run (Di.evs n).s xb ρ S2 with
            | .nx ρ S => Di.loopI (Di.run (Di.evs n).s xb) t src k (i + 1) ρ S
            | .ct ρ S => Di.loopI (Di.run (Di.evs n).s xb) t src k (i + 1) ρ S
            | .bk ρ S => .nx ρ S
            | .rt d S => .rt d S
            | .exc e ρ S => .exc e ρ S
            | .bad => .bad))) D := h2
      cases q : src.at S2 i with
      | none => rw [q] at h3; exact h3.elim
      | some o =>
        rw [q] at h3
        cases o with
        | none => exact .inl ⟨hJ.no m2 S2 H2 i e2 r2 q, h3 m2 σ2 H2 (Ext.refl _ _ _) r2 re2⟩
        | some d =>
          obtain ⟨go, yl⟩ := hJ.yes m2 S2 H2 i d e2 r2 q
          refine .inr ⟨go, fun σ H => ∃ m2 ρ2 S2, Ext m1 S1.n H1 m2 S2.n H ∧ RelS g m2 S2 H ∧ RelE g m2 S2.n H ρ2 σ ∧ PoO g W m2 S2.n H (Di.loopI (Di.run (Di.evs n).s xb) t src k (i + 1) ρ2 S2) D,
            fun σ' H' w => ⟨k, Nat.lt_succ_self k, w⟩, fun v H3 y => ?_⟩
          obtain ⟨e3, r3, hv⟩ := yl v H3 y
          have h4 : PoO g W m2 S2.n H2 (match Di.bindT t d ρ2 with
            | none => .bad
            | some ρ => (match Di.run (Di.evs n).s xb ρ S2 with
              | .nx ρ S => Di.loopI (Di.run (Di.evs n).s xb) t src k (i + 1) ρ S
              | .ct ρ S => Di.loopI (Di.run (Di.evs n).s xb) t src k (i + 1) ρ S
              | .bk ρ S => .nx ρ S
              | .rt d S => .rt d S
              | .exc e ρ S => .exc e ρ S
              | .bad => .bad)) D := h3
          cases q2 : Di.bindT t d ρ2 with
          | none => rw [q2] at h4; exact h4.elim
          | some ρ3 =>
            rw [q2] at h4
            refine ⟨m2, S2.n, ρ2, d, ρ3, re2.ext e3, hv, q2, fun σ4 re4 _ => ⟨m2, ρ3, S2, r3, re4, ?_⟩⟩
            have h5 : PoO g W m2 S2.n H2 (match Di.run (Di.evs n).s xb ρ3 S2 with
              | .nx ρ S => Di.loopI (Di.run (Di.evs n).s xb) t src k (i + 1) ρ S
              | .ct ρ S => Di.loopI (Di.run (Di.evs n).s xb) t src k (i + 1) ρ S
              | .bk ρ S => .nx ρ S
              | .rt d S => .rt d S
              | .exc e ρ S => .exc e ρ S
              | .bad => .bad) D := h4
            have h6 := PoO.ext e3 h5
            have e6 := e2.trans e3
            cases q3 : Di.run (Di.evs n).s xb ρ3 S2 with
            | nx ρ5 S5 =>
              rw [q3] at h6
              exact fun m5 σ5 H5 e5 r5 re5 => ⟨m5, ρ5, S5, e6.trans e5, r5, re5, PoO.ext e5 h6⟩
            | ct ρ5 S5 =>
              rw [q3] at h6
              exact fun m5 σ5 H5 e5 r5 re5 => ⟨m5, ρ5, S5, e6.trans e5, r5, re5, PoO.ext e5 h6⟩
            | bk ρ5 S5 => rw [q3] at h6; exact h6
            | rt d5 S5 => rw [q3] at h6; exact h6
            | exc x5 ρ5 S5 => rw [q3] at h6; exact h6
            | bad => rw [q3] at h6; exact h6
/-! ### comprehensions -/
/-- no wish -/
abbrev W0 : WX := fun _ _ _ _ => False
theorem XC.blk (c : XC X g) (s : Shared) (H : Hp) (scope : Scope) (ce : Env) (fp : List Addr) : XC (X.blk s H scope ce fp) g := ⟨c.K, c.calm, c.nd, c.room⟩
theorem wipe_same {σ σ2 : L2.St} {l vs : List Nat} (h : Off l (L2.wipe σ vs) σ2) (hl : ∀ i ∈ l, i ∈ vs) : L2.wipe σ2 vs = L2.wipe σ vs := by
  have none_of : ∀ (vs : List Nat) (σ : L2.St) (i : Nat), i ∈ vs → (L2.wipe σ vs)[i]? = some none ∨ (L2.wipe σ vs)[i]? = none := by
    intro vs
    induction vs with
    | nil => intro σ i h; cases h
    | cons v vs ih =>
      intro σ i h
      show ((L2.wipe σ vs).set v none)[i]? = some none ∨ ((L2.wipe σ vs).set v none)[i]? = none
      by_cases e : v = i
      · subst e
        by_cases hlt : v < (L2.wipe σ vs).length
        · exact .inl (by rw [List.getElem?_set_self hlt])
        · exact .inr (List.getElem?_eq_none (by rw [List.length_set]; omega))
      · rw [List.getElem?_set_ne e]
        refine ih σ i ?_
        rcases List.mem_cons.mp h with z | z
        · exact absurd z.symm e
        · exact z
  have len := h.1
  apply List.ext_getElem?
  intro i
  by_cases hi : i ∈ vs
  · have a := none_of vs σ2 i hi
    have b := none_of vs σ i hi
    have l1 : (L2.wipe σ2 vs).length = (L2.wipe σ vs).length := by rw [wipe_length, len]
    by_cases hb : i < (L2.wipe σ vs).length
    · have x1 : (L2.wipe σ2 vs)[i]? ≠ none := by rw [List.getElem?_eq_getElem (by omega)]; exact fun q => nomatch q
      have x2 : (L2.wipe σ vs)[i]? ≠ none := by rw [List.getElem?_eq_getElem hb]; exact fun q => nomatch q
      rw [a.resolve_right x1, b.resolve_right x2]
    · rw [List.getElem?_eq_none (by omega), List.getElem?_eq_none (by omega)]
  · rw [wipe_out hi, h.2 i fun q => hi (hl i q)]
theorem pts_imp {ifs : List Expr} {t t' : TT} (h : PTs X ifs t) (k : ∀ σ H Q, t' σ H Q → t σ H Q) : PTs X ifs t' := ⟨fun pins s σ H Q I q => h.run pins s σ H Q I (k σ H Q q)⟩
def tTs (g : G) (W : WX) (n : Nat) (xs : List Di.Ex) : TT := fun σ H Q => ∃ m ρ S, RelS g m S H ∧ RelE g m S.n H ρ σ ∧ Po g W σ m S.n H (Di.evTs (Di.evs n).e xs ρ S) (kB Q)
def GTs (X : Cx) (g : G) (W : WX) (es : List Expr) (xs : List Di.Ex) : Prop := ∀ n, PTs X es (tTs g W n xs)
theorem ts_nil : GTs X g W [] [] := fun n => pts_imp pts_nil fun σ H Q ⟨m, ρ, S, r, re, h⟩ => h m H (Ext.refl _ _ _) r
theorem ts_one (h : GT X g W e xe) : GTs X g W [e] [xe] := fun n => pts_imp (pts_one (h n)) fun σ H Q h => h
/-- the list at D -/
theorem lc_turn {n : Nat} {t : Di.Tg} {src : Di.Src} {ts : List Di.Ex} {xe : Di.Ex} {own : List Nat} {ρ : Di.Env} {σ : L2.St} {D : Nat} {Q : VK} {m1 : Mp} {S1 : Sto} {H1 : Hp} {p : Addr} {J : It}
    (hsub : ∀ i ∈ slotsT t, i ∈ own) (hJ : SrcR g m1 S1.n H1 src J) (hD : D < S1.n) (hp : m1 D = p) (re : RelE g m1 S1.n H1 ρ σ)
    (i k : Nat) (H : Hp) (w : ∃ m S, Ext m1 S1.n H1 m S.n H ∧ RelS g m S H ∧ Po g W0 σ m S.n H (Di.loopC (Di.evs n).e t src ts xe own ρ D k i S) (fun _ _ m' H' => m' D = p → Q (.ref p) H')) :
    (J.stop i H ∧ Q (.ref p) H) ∨ (J.go i H ∧ ∃ Nx : Hp → Prop, (∀ H', Nx H' → ∃ k', k' < k ∧ ∃ m S, Ext m1 S1.n H1 m S.n H' ∧ RelS g m S H' ∧ Po g W0 σ m S.n H' (Di.loopC (Di.evs n).e t src ts xe own ρ D k' (i + 1) S) (fun _ _ m' H' => m' D = p → Q (.ref p) H')) ∧
      ∀ x H', J.yld i H x H' → tgT g t x (L2.wipe σ own) H' fun σ2 H2 => L2.wipe σ2 own = L2.wipe σ own ∧ tTs g W0 n ts σ2 H2 fun b H3 =>
        if b = true then tE g W0 n xe σ2 H3 fun y H4 => ∃ acc, H4 p = some (.lst acc) ∧ acc.length < sizeLine ∧ Nx (upd H4 p (.lst (acc ++ [y]))) else Nx H3) := by
  obtain ⟨m2, S2, e2, r2, h2⟩ := w
  have hmD : ∀ {m : Mp} {n : Nat} {H : Hp}, Ext m1 S1.n H1 m n H → m D = p := fun {m n H} e => (e.ids D hD).trans hp
  cases k with
  | zero => exact h2.elim
  | succ k =>
    have h3 : Po g W0 σ m2 S2.n H (match src.at S2 i with
      | none => Di.R.bad
      | some none => .ok () S2
      | some (some d) => (match Di.bindT t d (Di.wipe ρ own) with
        | none => .bad
        | some ρ2 => (match Di.evTs (Di.evs n).e ts ρ2 S2 with
          | .ok true S => (match (Di.evs n).e xe ρ2 S with
            | .ok y S => (match S.get D with
              | some (.lst acc) => cond (Nat.blt acc.length Di.cap) (Di.loopC (Di.evs n).e t src ts xe own ρ D k (i + 1) (S.set D (.lst (acc ++ [y])))) .bad
              | _ => .bad)
            | _ => .bad)
          | .ok false S => Di.loopC (Di.evs n).e t src ts xe own ρ D k (i + 1) S
          | _ => .bad))) (fun _ _ m' H' => m' D = p → Q (.ref p) H') := h2
    cases q : src.at S2 i with
    | none => rw [q] at h3; exact h3.elim
    | some o =>
      rw [q] at h3
      cases o with
      | none => exact .inl ⟨hJ.no m2 S2 H i e2 r2 q, h3 m2 H (Ext.refl _ _ _) r2 (hmD e2)⟩
      | some d =>
        obtain ⟨go, yl⟩ := hJ.yes m2 S2 H i d e2 r2 q
        refine .inr ⟨go, fun H' => ∃ m S, Ext m1 S1.n H1 m S.n H' ∧ RelS g m S H' ∧ Po g W0 σ m S.n H' (Di.loopC (Di.evs n).e t src ts xe own ρ D k (i + 1) S) (fun _ _ m' H' => m' D = p → Q (.ref p) H'),
          fun H' w => ⟨k, Nat.lt_succ_self k, w⟩, fun v H3 y => ?_⟩
        obtain ⟨e3, r3, hv⟩ := yl v H3 y
        cases q2 : Di.bindT t d (Di.wipe ρ own) with
        | none =>
          have h4 : Po g W0 σ m2 S2.n H (match Di.bindT t d (Di.wipe ρ own) with
            | none => Di.R.bad
            | some ρ2 => _) (fun _ _ m' H' => m' D = p → Q (.ref p) H') := h3
          rw [q2] at h4
          exact h4.elim
        | some ρ3 =>
          have h4 : Po g W0 σ m2 S2.n H (match Di.bindT t d (Di.wipe ρ own) with
            | none => Di.R.bad
            | some ρ2 => (match Di.evTs (Di.evs n).e ts ρ2 S2 with
              | .ok true S => (match (Di.evs n).e xe ρ2 S with
                | .ok y S => (match S.get D with
                  | some (.lst acc) => cond (Nat.blt acc.length Di.cap) (Di.loopC (Di.evs n).e t src ts xe own ρ D k (i + 1) (S.set D (.lst (acc ++ [y])))) .bad
                  | _ => .bad)
                | _ => .bad)
              | .ok false S => Di.loopC (Di.evs n).e t src ts xe own ρ D k (i + 1) S
              | _ => .bad)) (fun _ _ m' H' => m' D = p → Q (.ref p) H') := h3
          rw [q2] at h4
          have re3 : RelE g m2 S2.n H3 (Di.wipe ρ own) (L2.wipe σ own) := ((re.ext e2).ext e3).wipe own
          refine ⟨m2, S2.n, Di.wipe ρ own, d, ρ3, re3, hv, q2, fun σ4 re4 off => ⟨wipe_same off hsub, m2, ρ3, S2, r3, re4, ?_⟩⟩
          have h5 : Po g W0 σ m2 S2.n H (match Di.evTs (Di.evs n).e ts ρ3 S2 with
              | .ok true S => (match (Di.evs n).e xe ρ3 S with
                | .ok y S => (match S.get D with
                  | some (.lst acc) => cond (Nat.blt acc.length Di.cap) (Di.loopC (Di.evs n).e t src ts xe own ρ D k (i + 1) (S.set D (.lst (acc ++ [y])))) .bad
                  | _ => .bad)
                | _ => .bad)
              | .ok false S => Di.loopC (Di.evs n).e t src ts xe own ρ D k (i + 1) S
              | _ => .bad) (fun _ _ m' H' => m' D = p → Q (.ref p) H') := h4
          have poE : ∀ {m m' : Mp} {n1 n2 : Nat} {Ha Hb : Hp} {rr : Di.R Unit}, Ext m n1 Ha m' n2 Hb → Po g W0 σ m n1 Ha rr (fun _ _ m' H' => m' D = p → Q (.ref p) H') → Po g W0 σ m' n2 Hb rr (fun _ _ m' H' => m' D = p → Q (.ref p) H') := fun {m m' n1 n2 Ha Hb rr} e h => by
            cases rr with
            | bad => exact h
            | exc x S => exact fun m3 H3 cls d e' => h m3 H3 cls d (e.trans e')
            | ok x S => exact fun m3 H3 e' => h m3 H3 (e.trans e')
          cases q3 : Di.evTs (Di.evs n).e ts ρ3 S2 with
          | bad => rw [q3] at h5; exact h5.elim
          | exc x S5 => rw [q3] at h5; exact h5.elim
          | ok b S5 =>
            rw [q3] at h5
            intro m5 H5 e5 r5
            have e25 := (e2.trans e3).trans e5
            cases b with
            | false =>
              simp only [Bool.false_eq_true, if_false]
              exact ⟨m5, S5, e25, r5, poE (e3.trans e5) h5⟩
            | true =>
              simp only [if_true]
              refine ⟨m5, ρ3, S5, r5, re4.ext e5, ?_⟩
              have h6 : Po g W0 σ m2 S2.n H (match (Di.evs n).e xe ρ3 S5 with
                | .ok y S => (match S.get D with
                  | some (.lst acc) => cond (Nat.blt acc.length Di.cap) (Di.loopC (Di.evs n).e t src ts xe own ρ D k (i + 1) (S.set D (.lst (acc ++ [y])))) .bad
                  | _ => .bad)
                | _ => .bad) (fun _ _ m' H' => m' D = p → Q (.ref p) H') := h5
              cases q4 : (Di.evs n).e xe ρ3 S5 with
              | bad => rw [q4] at h6; exact h6.elim
              | exc x S6 => rw [q4] at h6; exact h6.elim
              | ok yd S6 =>
                rw [q4] at h6
                intro m6 H6 e6 r6 v6 hv6
                have h7 : Po g W0 σ m2 S2.n H (match S6.get D with
                  | some (.lst acc) => cond (Nat.blt acc.length Di.cap) (Di.loopC (Di.evs n).e t src ts xe own ρ D k (i + 1) (S6.set D (.lst (acc ++ [yd])))) .bad
                  | _ => .bad) (fun _ _ m' H' => m' D = p → Q (.ref p) H') := h6
                cases q5 : S6.get D with
                | none => rw [q5] at h7; exact h7.elim
                | some ob =>
                  rw [q5] at h7
                  cases ob with
                  | lst acc =>
                    have h8 : Po g W0 σ m2 S2.n H (cond (Nat.blt acc.length Di.cap) (Di.loopC (Di.evs n).e t src ts xe own ρ D k (i + 1) (S6.set D (.lst (acc ++ [yd])))) .bad) (fun _ _ m' H' => m' D = p → Q (.ref p) H') := h7
                    cases q6 : Nat.blt acc.length Di.cap with
                    | false => rw [q6] at h8; exact h8.elim
                    | true =>
                      rw [q6] at h8
                      obtain ⟨ws, e7, hw⟩ := lst_of r6 q5
                      obtain ⟨e8, r8⟩ := r6.setL q5 (hw.append (.cons hv6 .nil))
                      have e26 := e25.trans e6
                      rw [hmD e26] at e7 e8 r8
                      refine ⟨ws, e7, by rw [← hw.length]; exact cap_lt q6, m6, S6.set D (.lst (acc ++ [yd])), e26.trans e8, r8, ?_⟩
                      exact poE ((e3.trans e5).trans (e6.trans e8)) h8
                  | rol _ => exact h7.elim
                  | dct _ => exact h7.elim
                  | ins _ _ => exact h7.elim
/-- [elt for t in src if ..] -/
theorem comp_read {n : Nat} {t : Di.Tg} {sr : Di.Sr} {ts : List Di.Ex} {xe : Di.Ex} {own : List Nat} {σ : L2.St} {H : Hp} {Q : VK} (hsub : ∀ i ∈ slotsT t, i ∈ own) (h : tE g W (n + 1) (.comp own t sr ts xe) σ H Q) :
    tLc (tI g W n sr) (tgT g t) (tTs g W0 n ts) (tE g W0 n xe) own σ H Q := by
  obtain ⟨m, ρ, S, r, re, h⟩ := h
  refine ⟨m, ρ, S, r, re, (Po.bind h).mono fun src S1 m1 H1 e1 r1 h1 J hJ p hp => ?_⟩
  have h2 : Po g W σ m1 S1.n H1 (match Di.loopC (Di.evs n).e t src ts xe own ρ S1.n Di.far 0 (S1.push (.lst [])) with
    | .ok _ S => Di.R.ok (.ref S1.n) S
    | _ => .bad) (kV g Q) := h1
  obtain ⟨ep, rp⟩ := r1.pushL hp (DVs.nil (g := g) (m := m1) (n := S1.n) (H := H1))
  have hJ2 : SrcR g (mset m1 S1.n p) (S1.n + 1) (upd H1 p (.lst [])) src J := ⟨fun m' S' H' i d e => hJ.yes m' S' H' i d (ep.trans e), fun m' S' H' i e => hJ.no m' S' H' i (ep.trans e)⟩
  have start : Po g W0 σ (mset m1 S1.n p) (S1.n + 1) (upd H1 p (.lst [])) (Di.loopC (Di.evs n).e t src ts xe own ρ S1.n Di.far 0 (S1.push (.lst []))) (fun _ _ m' H' => m' S1.n = p → Q (.ref p) H') := by
    cases q : Di.loopC (Di.evs n).e t src ts xe own ρ S1.n Di.far 0 (S1.push (.lst [])) with
    | bad => rw [q] at h2; exact h2.elim
    | exc x S2 => rw [q] at h2; exact h2.elim
    | ok u S2 =>
      rw [q] at h2
      intro m2 H2 e2 r2 hm
      have h3 := h2 m2 H2 (ep.trans e2) r2 (.ref (m2 S1.n)) (.ref (Nat.lt_of_lt_of_le (Nat.lt_succ_self _) e2.le))
      rw [hm] at h3
      exact h3
  refine ⟨fun i k H => ∃ m S, Ext (mset m1 S1.n p) (S1.push (.lst [])).n (upd H1 p (.lst [])) m S.n H ∧ RelS g m S H ∧ Po g W0 σ m S.n H (Di.loopC (Di.evs n).e t src ts xe own ρ S1.n k i S) (fun _ _ m' H' => m' S1.n = p → Q (.ref p) H'), ⟨Di.far, mset m1 S1.n p, S1.push (.lst []), Ext.refl _ _ _, rp, start⟩, fun i k H w => ?_⟩
  exact lc_turn (S1 := S1.push (.lst [])) hsub hJ2 (Nat.lt_succ_self _) (mset_self _ _ _) ((re.ext e1).ext ep) i k H w
theorem s_comp {elt tg iter : Expr} {ifs : List Expr} {scope : Scope} {own : List (Str × Nat)} {t : Di.Tg} {sr : Di.Sr} {ts : List Di.Ex} {xt : Di.Ex} (c : XC X g) (hi : GI X g W tg iter sr) (ok : BlkOk X.N X.env.scope scope own)
    (hsub : ∀ i ∈ slotsT t, i ∈ own.map (·.2))
    (hg : ∀ (s : Shared) (H : Hp) (C : Addr) (cl : List (Str × Addr)) (fp : List Addr), PG (X.blk s H scope (compEnvC scope cl C X.env) fp) tg (tgT g t)) (ht : ∀ (s : Shared) (H : Hp) (C : Addr) (cl : List (Str × Addr)) (fp : List Addr), GTs (X.blk s H scope (compEnvC scope cl C X.env) fp) g W0 ifs ts)
    (he : ∀ (s : Shared) (H : Hp) (C : Addr) (cl : List (Str × Addr)) (fp : List Addr), GE (X.blk s H scope (compEnvC scope cl C X.env) fp) g W0 elt xt) (hs : ∀ x, foldedSetIterable iter X.env x = pure x := by intro _; rfl) :
    GE X g W (.ListComp elt [⟨tg, iter, ifs, 0⟩] scope pos) (.comp (own.map (·.2)) t sr ts xt) :=
  ge_of (t := fun n => tLc (tI g W n sr) (tgT g t) (tTs g W0 n ts) (tE g W0 n xt) (own.map (·.2))) (fun n => pe_lc c.calm c.nd (hi n) ok hg (fun s H C cl fp => ht s H C cl fp n) (fun s H C cl fp => he s H C cl fp n) hs) fun n σ H Q h => comp_read hsub h
theorem z_setLc {i : Nat} {y : Str} {py : Pos} {elt tg iter : Expr} {ifs : List Expr} {scope : Scope} {own : List (Str × Nat)} {spos : Pos} {t : Di.Tg} {sr : Di.Sr} {ts : List Di.Ex} {xt : Di.Ex} (c : XC X g) (hy : X.N[i]? = some y) (hyl : X.env.scope.names.lookup y = some .local)
    (hsw : swapsWith (.ListComp elt [⟨tg, iter, ifs, 0⟩] scope pos) (some (.Name y py)) spos.line X.env = pure true) (hi : GI X g W tg iter sr) (ok : BlkOk X.N X.env.scope scope own) (hsub : ∀ i ∈ slotsT t, i ∈ own.map (·.2))
    (hg : ∀ (s : Shared) (H : Hp) (C : Addr) (cl : List (Str × Addr)) (fp : List Addr), PG (X.blk s H scope (compEnvC scope cl C X.env) fp) tg (tgT g t)) (ht : ∀ (s : Shared) (H : Hp) (C : Addr) (cl : List (Str × Addr)) (fp : List Addr), GTs (X.blk s H scope (compEnvC scope cl C X.env) fp) g W0 ifs ts)
    (he : ∀ (s : Shared) (H : Hp) (C : Addr) (cl : List (Str × Addr)) (fp : List Addr), GE (X.blk s H scope (compEnvC scope cl C X.env) fp) g W0 elt xt) (hs : ∀ x, foldedSetIterable iter X.env x = pure x := by intro _; rfl) :
    GS X g W (.Assign [.Name y py] (.ListComp elt [⟨tg, iter, ifs, 0⟩] scope pos) spos) (.asg (.name i) (.comp (own.map (·.2)) t sr ts xt)) := fun n => by
  cases n with
  | zero => exact ⟨fun pins s σ H D I q => (tS_zero q).elim⟩
  | succ n =>
  cases n with
  | zero => exact ⟨fun pins s σ H D I ⟨m, ρ, S, r, re, h⟩ => h.elim⟩
  | succ n =>
  refine ps_imp (ps_setLc c.calm c.nd hy hyl hsw (hi n) ok hg (fun s H C cl fp => ht s H C cl fp n) (fun s H C cl fp => he s H C cl fp n) hs) fun D σ H h => ?_
  refine comp_read (n := n) hsub ?_
  obtain ⟨m, ρ, S, r, re, h⟩ := asg_read h
  refine ⟨m, ρ, S, r, re, h.mono fun d S1 m1 H1 e1 r1 h1 v hv => ?_⟩
  obtain ⟨m2, n2, ρ2, d2, ρ', re2, hv2, hb, q⟩ := h1 v hv
  have e : ρ2.set i (some d2) = ρ' := Option.some.inj hb
  subst e
  exact q _ (re2.set i hv2) (off_set σ i _)
/-! ### calls, defs -/
def PoF (g : G) (m : Mp) (n : Nat) (H : Hp) (r : Di.R Di.D) (Q : VK) (E : XK) : Prop := match r with
  | .ok d S' => ∀ m' H', Ext m n H m' S'.n H' → RelS g m' S' H' → ∀ v, DV g m' S'.n H' d v → Q v H'
  | .exc e S' => ∀ m' H' cls d, Ext m n H m' S'.n H' → RelS g m' S' H' → XR g m' S'.n H' e cls d → E cls d H'
  | .bad => False
/-- a def's promise: what its Di form does -/
def spI (g : G) (n : Nat) (f : Di.Fn) : Sp := fun vs H Q E => ∃ m S ds, RelS g m S H ∧ DVs g m S.n H ds vs ∧ PoF g m S.n H ((Di.evs n).f f ds S) Q E
def GF (P : Program) (w : World) (mg : Str → Option Value) (base : Heap) (g : G) (k : Nat) (f : Addr) (fd : FuncData) (ps : List Str) (fn : Di.Fn) : Prop := ∀ n, FnOk P w g.K mg base (L2.CX P w) k f fd ps (spI g n fn)
theorem s_call {k : Nat} {f : Addr} {fd : FuncData} {ps : List Str} {fn : Di.Fn} {x : Str} {p : Pos} {es : List Expr} {xs : List Di.Ex} (c : XC X g) (tk : Takes X W) (F : GF X.prog X.w X.mg X.base g k f fd ps fn) (hr : Room k X.A) (hg : Gl X x) (hm : X.mg x = some (.ref f))
    (hk : PySem.W.keepIn g.K (.ref f) = true) (hb : Binds g.K fd ps []) (ha : GA X g W (e :: es) xs) (hdb : (x == ("__debug__" : Str)) = false := by decide) (he : starEach (e :: es) X.env = (false, eval e X.env) :: starEach es X.env := by rfl) (hpl : (backTo pos (starEach es X.env)).any (·.1) = false := by rfl) :
    GE X g W (.Call (.Name x p) (e :: es) [] pos) (.call fn xs) :=
  ge_of (t := fun n => tCallS (spI g n fn) (WE W) (tA g W n xs)) (fun n => pe_callS (by rw [c.K]; exact F n) hr hg hm (by rw [c.K]; exact hk) (by rw [c.K]; exact hb) (fun σ => passAt tk σ) (ha n) hdb he hpl) fun n σ H Q ⟨m, ρ, S, r, re, h⟩ =>
    args_read (f := fun ds S => (Di.evs n).f fn ds S) r re h fun ds S1 m1 H1 vs r1 hvs h1 => ⟨m1, S1, ds, r1, hvs, by
      cases q : (Di.evs n).f fn ds S1 with
      | bad => rw [q] at h1; exact h1
      | ok d S2 => rw [q] at h1; exact h1
      | exc x S2 => rw [q] at h1; exact h1⟩
/-- THE RULE for a def -/
theorem fn_ok {P : Program} {w : World} {mg : Str → Option Value} {base : Heap} {x qual : Str} {params : Arguments} {body : List Stmt} {scope : Scope} {dvs : List V} {kws : List (Str × V)} {f : Addr} {fd : FuncData} {N ps : List Str} {k : Nat} {fn : Di.Fn}
    (F : FunD g.K x qual params body scope dvs kws f fd) (S : FnScope N ps scope) (hN : N.length = fn.ns) (hp : ps.length = fn.np)
    (hbody : ∀ (cdv : Value) (A : Around) (outer : List Env) (s : Shared) (H : Hp) (E : XK), Room k (A.deeper (envOfC qual scope s.heap.objs.size f cdv)) → GSs (cxOf (L2.CX P w) P w g.K mg base N qual scope f cdv A outer s H E) g (fun cls d _ H => E cls d H) body fn.body) :
    GF P w mg base g (k + 1) f fd ps fn := fun n => by
  refine F.ok S (fun vs H Q E h => ?_) fun cdv A outer s H vs Q E hr h => ?_
  · obtain ⟨m, S, ds, r, hvs, h⟩ := h
    cases n with
    | zero => exact h.elim
    | succ n =>
      have h' : PoF g m S.n H (cond (Nat.beq ds.length fn.np) _ .bad) Q E := h
      cases q : Nat.beq ds.length fn.np with
      | false => rw [q] at h'; exact h'.elim
      | true => rw [← hvs.length, hp]; exact Nat.eq_of_beq_eq_true q
  · obtain ⟨m, S, ds, r, hvs, h⟩ := h
    cases n with
    | zero => exact h.elim
    | succ n =>
      have h' : PoF g m S.n H (cond (Nat.beq ds.length fn.np) (match Di.run (Di.evs n).s fn.body (Di.start fn.ns ds) S with
        | .nx _ S => Di.R.ok .non S
        | .rt d S => .ok d S
        | .exc e _ S => .exc e S
        | _ => .bad) .bad) Q E := h
      cases q : Nat.beq ds.length fn.np with
      | false => rw [q] at h'; exact h'.elim
      | true =>
        rw [q] at h'
        refine ⟨_, hbody cdv A outer s H E hr n, m, Di.start fn.ns ds, S, r, ?_, ?_⟩
        · rw [← hN]; exact relE_start hvs
        · have h2 : PoF g m S.n H (match Di.run (Di.evs n).s fn.body (Di.start fn.ns ds) S with
            | .nx _ S => Di.R.ok .non S
            | .rt d S => .ok d S
            | .exc e _ S => .exc e S
            | _ => .bad) Q E := h'
          cases q2 : Di.run (Di.evs n).s fn.body (Di.start fn.ns ds) S with
          | nx ρ S2 => rw [q2] at h2; exact fun m' σ' H' e r' _ => h2 m' H' e r' _ .non
          | rt d S2 => rw [q2] at h2; exact fun m' H' v e r' hv => h2 m' H' e r' v hv
          | bk ρ S2 => rw [q2] at h2; exact h2.elim
          | ct ρ S2 => rw [q2] at h2; exact h2.elim
          | exc x ρ S2 => rw [q2] at h2; exact fun m' σ' H' cls d e r' _ z => h2 m' H' cls d e r' z
          | bad => rw [q2] at h2; exact h2.elim
end
end DiS
end

section
set_option Elab.async false
set_option linter.all false
set_option maxRecDepth 100000
set_option maxHeartbeats 4000000
/-! defs by name -/
namespace DiS
open PySem PySem.Spec PyProof.Rows L2
open Di (Sto MO)
/-- a def that stands under a name and does what fn says -/
structure Fo (P : Program) (w : World) (mg : Str → Option Value) (base : Heap) (g : G) (k : Nat) (x : Str) (ps : List Str) (fn : Di.Fn) : Prop where
  ex : ∃ (f : Addr) (fd : FuncData), mg x = some (.ref f) ∧ PySem.W.keepIn g.K (.ref f) = true ∧ Binds g.K fd ps [] ∧ GF P w mg base g k f fd ps fn
section
variable {X : Cx} {g : G} {W : WX} {pos : Pos} {e : Expr}
theorem s_callF {k : Nat} {ps : List Str} {fn : Di.Fn} {x : Str} {p : Pos} {es : List Expr} {xs : List Di.Ex} (c : XC X g) (tk : Takes X W) (F : Fo X.prog X.w X.mg X.base g k x ps fn) (hr : Room k X.A) (hg : Gl X x)
    (ha : GA X g W (e :: es) xs) (hdb : (x == ("__debug__" : Str)) = false := by decide) (he : starEach (e :: es) X.env = (false, eval e X.env) :: starEach es X.env := by rfl) (hpl : (backTo pos (starEach es X.env)).any (·.1) = false := by rfl) :
    GE X g W (.Call (.Name x p) (e :: es) [] pos) (.call fn xs) := by
  obtain ⟨f, fd, hm, hk, hb, G⟩ := F.ex
  exact s_call c tk G hr hg hm hk hb ha hdb he hpl
end
end DiS
end

section
set_option Elab.async false
set_option linter.all false
set_option maxRecDepth 100000
set_option maxHeartbeats 4000000
/-! a law's end -/
namespace DiS
open PySem PySem.Spec PyProof.Rows L2
open Di (Sto MO)
/-- the store at the law's entry: the script, to be read only -/
def sto0 (ns : List Int) : Sto := (⟨0, .nil⟩ : Sto).push (.rol (ns.map .int))
theorem dvs_ints {g : G} {m : Mp} {n : Nat} {H : Hp} : ∀ ns : List Int, DVs g m n H (ns.map .int) (ns.map V.int)
  | [] => .nil
  | i :: ns => .cons (.int i) (dvs_ints ns)
theorem sto0_get {ns : List Int} {i : Nat} {o : MO} (h : (sto0 ns).get i = some o) : i = 0 ∧ o = .rol (ns.map .int) := by
  have h' : ((⟨0, .nil⟩ : Sto).push (.rol (ns.map .int))).get i = some o := h
  rw [Sto.get_push] at h'
  by_cases q : i = 0
  · rw [if_pos q] at h'
    exact ⟨q, (Option.some.inj h').symm⟩
  · rw [if_neg q] at h'
    exact nomatch (Di.Tr.get_nil i).symm.trans h'
theorem rel0 {g : G} {H : Hp} {a : Addr} {ns : List Int} (hO : Only H) (hS : SqL g.K H a (ns.map V.int)) : RelS g (fun _ => a) (sto0 ns) H := by
  refine ⟨fun i o h => ?_, fun i j oi oj hi hj _ _ _ => by rw [(sto0_get hi).1, (sto0_get hj).1]⟩
  obtain ⟨rfl, rfl⟩ := sto0_get h
  refine ⟨Nat.zero_lt_one, ns.map V.int, ?_, dvs_ints ns⟩
  rcases hS with (e | ⟨o, e⟩) | e
  · rcases hO a with z | ⟨x, xs, z⟩
    · rw [z] at e; cases e
    · rw [z] at e; cases e
  · exact .inl ⟨o, e⟩
  · exact .inr e
def isTrue : Di.R Di.D → Bool
  | .ok (.bl true) _ => true
  | _ => false
/-- the Di run of a law at a script -/
def answers (n : Nat) (fn : Di.Fn) (ns : List Int) : Bool := isTrue ((Di.evs n).f fn [.ref 0] (sto0 ns))
theorem law_sp {g : G} {n : Nat} {fn : Di.Fn} {H : Hp} {a : Addr} {ns : List Int} (hO : Only H) (hS : SqL g.K H a (ns.map V.int)) (h : answers n fn ns = true) :
    spI g n fn [.ref a] H (fun v _ => v = .bl true) fun _ _ _ => False := by
  refine ⟨fun _ => a, sto0 ns, [.ref 0], rel0 hO hS, .cons (.ref Nat.zero_lt_one) .nil, ?_⟩
  have h' : isTrue ((Di.evs n).f fn [.ref 0] (sto0 ns)) = true := h
  cases q : (Di.evs n).f fn [.ref 0] (sto0 ns) with
  | bad => rw [q] at h'; cases h'
  | exc e S => rw [q] at h'; cases h'
  | ok d S =>
    rw [q] at h'
    cases d with
    | bl b =>
      cases b with
      | false => cases h'
      | true =>
        intro m' H' e r v hv
        cases hv
        rfl
    | _ => cases h'
theorem walk_di {l : PySem.W.OpenLaw} {n k fuel : Nat} {q : Program} {loose : List Str} {XP : (Str → Option Value) → Heap → Prop} {YP : World → Heap → Prop} {d : DefRec} {x : Str} {fn : Di.Fn}
    (hn : l.most = some n) (hn2 : n ≤ sizeLine) (hdf : d.params.defaults = []) (hr : Room k callerA)
    (hlaw : ∀ ns : List Int, ns.length ≤ n → (∀ z ∈ ns, Builtin.Int.intBits z ≤ 1048576) → answers fuel fn ns = true)
    (facts : ∀ (w : World) (mg : Str → Option Value) (fa : Addr) (h : Heap), YP w h → h.Ns mainGlobals mg → mg d.name = some (.ref fa) →
      ∃ (g : G) (fd : FuncData), g.K.In h ∧ (∀ (s : Shared) (u : Value), BindsTo s fd ⟨[u], []⟩ [(x, u)]) ∧
        ∀ base : Heap, g.K.In base → base.Ns mainGlobals mg → GF l.prog w mg base g k fa fd [x] fn) :
    PySem.W.WalkO q loose XP YP l.row.toRowW d [] (fun f vs => PySem.call f vs) := by
  refine Att.attach_callB hn hdf fun w s0 s1 mg mb fa o pm cd doc a vs ns gr yp ho hd hcd hmg hobj hints hlen hbits hgens => ?_
  obtain ⟨g, fd, kin, hb, F⟩ := facts w mg fa _ yp gr.T.g hmg
  refine law_call (CX := L2.CX l.prog w) (sp := spI g fuel fn) kin gr.T.g gr.T.b gr.T.builtins gr.T.nolimit hgens hobj hints (Nat.le_trans hlen hn2) hr (fun base h1 h2 => F base h1 h2 fuel) hb
    (fun H hO hS => law_sp hO hS (hlaw ns hlen hbits)) fun H e s' h => ?_
  obtain ⟨_, _, _, _, _, _, _, _, _, _, _, _, z⟩ := h
  exact z
end DiS
end

section
set_option Elab.async false
set_option linter.all false
set_option maxRecDepth 100000
set_option maxHeartbeats 4000000
namespace DiG
open PySem PySem.Spec PyProof.Rows L2 DiS
open Di (Sto MO)
abbrev topS (i : Nat) : Stmt := PySem.Challenge.pw_growntexts_k15_rows_joined.main.body.getD i (.Pass ⟨0, 0, 0, 0⟩)
abbrev FnP (g : G) (x : Str) (st : Stmt) (f : Addr) (fd : FuncData) : Prop := FunD g.K x x (defArgs st) (defBody st) (defScope st) [] [] f fd
def d_row_text : Di.Fn := .mk 2 5 [.asg (.name 2) (.lst []),
  .forI (.tup [.name 3, .name 4]) (.seq (.var 0)) [.ifs (.cmp .eq (.var 3) (.lit (.str [116, 111, 108, 100]))) [.expr (.mth .append (.var 2) [.var 4])] [.expr (.mth .append (.var 2) [.ite (.cmp .eq (.var 3) (.lit (.str [98, 111, 120]))) (.idx (.var 1) (.var 4)) (.rev (.idx (.var 1) (.var 4)))])]],
  .ret (.mth .join (.lit (.str [])) [.var 2])]
abbrev n_row_text : List Str := ["row", "texts", "found", "sort", "what"]
theorem sc_row_text : FnScope n_row_text ["row", "texts"] (defScope (topS 1)) := ⟨rfl, rfl, rfl, by decide +kernel, rfl, by decide +kernel, by decide +kernel⟩
theorem gf_row_text {P : Program} {w : World} {mg : Str → Option Value} {base : Heap} {g : G} {f : Addr} {fd : FuncData} (F : FnP g "row_text" (topS 1) f fd)   : GF P w mg base g 2 f fd ["row", "texts"] d_row_text := by
  refine fn_ok F sc_row_text rfl rfl fun cdv A outer s H E hr => ?_
  have c : XC (cxOf (L2.CX P w) P w g.K mg base n_row_text "row_text" (defScope (topS 1)) f cdv A outer s H E) g := ⟨rfl, rfl, sc_row_text.nd, hr.mono (by decide)⟩
  have tk : Takes (cxOf (L2.CX P w) P w g.K mg base n_row_text "row_text" (defScope (topS 1)) f cdv A outer s H E) (fun cls d _ H => E cls d H) := takes_of rfl rfl rfl rfl
  exact b_cons (z_set (i := 2) c.nd rfl (by first | exact Or.inl rfl | exact Or.inr rfl) (s_lst (s_nil))) (b_cons (z_for (passes_of rfl) c.calm (i_seq c (s_var (pv 0))) (g_tup c (g_cons (g_name (pg_name c.nd (i := 3) rfl (by first | exact Or.inl rfl | exact Or.inr rfl))) (g_cons (g_name (pg_name c.nd (i := 4) rfl (by first | exact Or.inl rfl | exact Or.inr rfl))) (g_nil)))) (b_cons (z_if (t_cmp (opr_eq c) (s_var (pv 3)) (s_str) (nomark _)) (b_cons (z_expr (s_bm PySem.F.plainAttrs_list PySem.F.slot_list_append PySem.F.type_list_append (recv_lst c fun _ _ => rfl) mr_append (s_var (pv 2)) (s_cons (s_var (pv 4)) (s_nil)))) (b_nil)) (b_cons (z_expr (s_bm PySem.F.plainAttrs_list PySem.F.slot_list_append PySem.F.type_list_append (recv_lst c fun _ _ => rfl) mr_append (s_var (pv 2)) (s_cons (s_ite (t_cmp (opr_eq c) (s_var (pv 3)) (s_str) (nomark _)) (s_idx c (s_var (pv 1)) (s_var (pv 4)) (fun _ _ => rfl)) (s_rev (s_idx c (s_var (pv 1)) (s_var (pv 4)) (fun _ _ => rfl)) step_m1)) (s_nil)))) (b_nil))) (b_nil))) (b_cons (z_ret (s_bm PySem.F.plainAttrs_str PySem.F.slot_str_join PySem.F.type_str_join (recv_str fun _ _ => rfl) (mr_join c) (s_str) (s_cons (s_var (pv 2)) (s_nil)))) (b_nil)))
theorem ok_row_text {P : Program} {w : World} {mg : Str → Option Value} {base : Heap} {g : G} {f : Addr} {fd : FuncData} (F : FnP g "row_text" (topS 1) f fd) (hm : mg "row_text" = some (.ref f))   : Fo P w mg base g 2 "row_text" ["row", "texts"] d_row_text :=
  ⟨f, fd, hm, F.kp, F.bindsN fun _ _ _ _ _ _ us hl => match us, hl with | [_, _], _ => rfl, gf_row_text F ⟩
def d_law_seed : Di.Fn := .mk 2 4 [.asg (.name 2) (.bin .add (.bin .mul (.lit (.int 8627)) (.var 1)) (.lit (.int 131))),
  .ifs (.cmp .lt (.var 1) (.prim .len [.var 0])) [.asg (.name 2) (.prim .abs [.idx (.var 0) (.var 1)])] [.ifs (.cmp .gt (.prim .len [.var 0]) (.lit (.int 0))) [.asg (.name 2) (.bin .add (.var 2) (.bin .mul (.bin .mod (.prim .int [.prim .abs [.idx (.var 0) (.bin .mod (.prim .int [.var 1]) (.prim .len [.var 0]))]]) (.lit (.int 2147483629))) (.lit (.int 48023))))] []],
  .asg (.name 3) (.ite (.cmp .ge (.var 2) (.bin .pow (.lit (.int 10)) (.lit (.int 18)))) (.var 2) (.lit (.int 0))),
  .ret (.lst [.var 3, .bin .add (.bin .mod (.prim .int [.bin .add (.bin .mul (.bin .mod (.prim .int [.var 2]) (.lit (.int 2147483629))) (.lit (.int 48271))) (.bin .mul (.lit (.int 42209)) (.var 1))]) (.lit (.int 2147483629))) (.lit (.int 1))])]
abbrev n_law_seed : List Str := ["_law_script", "_law_k", "_law_cell", "_law_great"]
theorem sc_law_seed : FnScope n_law_seed ["_law_script", "_law_k"] (defScope (topS 3)) := ⟨rfl, rfl, rfl, by decide +kernel, rfl, by decide +kernel, by decide +kernel⟩
theorem gf_law_seed {P : Program} {w : World} {mg : Str → Option Value} {base : Heap} {g : G} {f : Addr} {fd : FuncData} (F : FnP g "_law_seed" (topS 3) f fd) (g_abs : mg "abs" = none) (g_int : mg "int" = none) (g_len : mg "len" = none)  : GF P w mg base g 2 f fd ["_law_script", "_law_k"] d_law_seed := by
  refine fn_ok F sc_law_seed rfl rfl fun cdv A outer s H E hr => ?_
  have c : XC (cxOf (L2.CX P w) P w g.K mg base n_law_seed "_law_seed" (defScope (topS 3)) f cdv A outer s H E) g := ⟨rfl, rfl, sc_law_seed.nd, hr.mono (by decide)⟩
  have tk : Takes (cxOf (L2.CX P w) P w g.K mg base n_law_seed "_law_seed" (defScope (topS 3)) f cdv A outer s H E) (fun cls d _ H => E cls d H) := takes_of rfl rfl rfl rfl
  exact b_cons (z_set (i := 2) c.nd rfl (by first | exact Or.inl rfl | exact Or.inr rfl) (s_bin (opr_add c) (s_bin opr_mul (s_int) (s_var (pv 1))) (s_int))) (b_cons (z_if (t_cmp opr_lt (s_var (pv 1)) (s_callB (cr_len c) rfl g_len boot_len (s_cons (s_var (pv 0)) (s_nil))) (nomark _)) (b_cons (z_set (i := 2) c.nd rfl (by first | exact Or.inl rfl | exact Or.inr rfl) (s_callB cr_abs rfl g_abs boot_abs (s_cons (s_idx c (s_var (pv 0)) (s_var (pv 1)) (fun _ _ => rfl)) (s_nil)))) (b_nil)) (b_cons (z_if (t_cmp opr_gt (s_callB (cr_len c) rfl g_len boot_len (s_cons (s_var (pv 0)) (s_nil))) (s_int) (nomark _)) (b_cons (z_set (i := 2) c.nd rfl (by first | exact Or.inl rfl | exact Or.inr rfl) (s_bin (opr_add c) (s_var (pv 2)) (s_bin opr_mul (s_bin opr_mod (s_callTy cr_int rfl g_int boot_int (s_cons (s_callB cr_abs rfl g_abs boot_abs (s_cons (s_idx c (s_var (pv 0)) (s_bin opr_mod (s_callTy cr_int rfl g_int boot_int (s_cons (s_var (pv 1)) (s_nil))) (s_callB (cr_len c) rfl g_len boot_len (s_cons (s_var (pv 0)) (s_nil)))) (fun _ _ => rfl)) (s_nil))) (s_nil))) (s_int)) (s_int)))) (b_nil)) (b_nil)) (b_nil))) (b_cons (z_set (i := 3) c.nd rfl (by first | exact Or.inl rfl | exact Or.inr rfl) (s_ite (t_cmp opr_ge (s_var (pv 2)) (s_bin opr_pow (s_int) (s_int)) (nomark _)) (s_var (pv 2)) (s_int))) (b_cons (z_ret (s_lst (s_cons (s_var (pv 3)) (s_cons (s_bin (opr_add c) (s_bin opr_mod (s_callTy cr_int rfl g_int boot_int (s_cons (s_bin (opr_add c) (s_bin opr_mul (s_bin opr_mod (s_callTy cr_int rfl g_int boot_int (s_cons (s_var (pv 2)) (s_nil))) (s_int)) (s_int)) (s_bin opr_mul (s_int) (s_var (pv 1)))) (s_nil))) (s_int)) (s_int)) (s_nil))))) (b_nil))))
theorem ok_law_seed {P : Program} {w : World} {mg : Str → Option Value} {base : Heap} {g : G} {f : Addr} {fd : FuncData} (F : FnP g "_law_seed" (topS 3) f fd) (hm : mg "_law_seed" = some (.ref f)) (g_abs : mg "abs" = none) (g_int : mg "int" = none) (g_len : mg "len" = none)  : Fo P w mg base g 2 "_law_seed" ["_law_script", "_law_k"] d_law_seed :=
  ⟨f, fd, hm, F.kp, F.bindsN fun _ _ _ _ _ _ us hl => match us, hl with | [_, _], _ => rfl, gf_law_seed F g_abs g_int g_len⟩
def d_law_choose : Di.Fn := .mk 2 4 [.ifs (.cmp .gt (.idx (.var 0) (.lit (.int 0))) (.lit (.int 0))) [.asg (.name 3) (.bin .mod (.prim .int [.idx (.var 0) (.lit (.int 0))]) (.var 1)),
  .asgI (.var 0) (.lit (.int 0)) (.bin .fdiv (.idx (.var 0) (.lit (.int 0))) (.var 1)),
  .ret (.var 3)] [],
  .asg (.name 2) (.bin .mod (.prim .int [.bin .add (.bin .mul (.idx (.var 0) (.lit (.int 1))) (.lit (.int 41077))) (.lit (.int 83))]) (.lit (.int 2147483563))),
  .asgI (.var 0) (.lit (.int 1)) (.bin .add (.bin .mod (.prim .int [.bin .add (.bin .mul (.var 2) (.lit (.int 39373))) (.lit (.int 6211))]) (.lit (.int 2147483629))) (.lit (.int 1))),
  .ret (.bin .mod (.prim .int [.bin .fdiv (.bin .add (.bin .mul (.var 2) (.lit (.int 2147483647))) (.idx (.var 0) (.lit (.int 1)))) (.lit (.int 8191))]) (.var 1))]
abbrev n_law_choose : List Str := ["_law_box", "_law_many", "_law_raw", "_law_digit"]
theorem sc_law_choose : FnScope n_law_choose ["_law_box", "_law_many"] (defScope (topS 4)) := ⟨rfl, rfl, rfl, by decide +kernel, rfl, by decide +kernel, by decide +kernel⟩
theorem gf_law_choose {P : Program} {w : World} {mg : Str → Option Value} {base : Heap} {g : G} {f : Addr} {fd : FuncData} (F : FnP g "_law_choose" (topS 4) f fd) (g_int : mg "int" = none)  : GF P w mg base g 2 f fd ["_law_box", "_law_many"] d_law_choose := by
  refine fn_ok F sc_law_choose rfl rfl fun cdv A outer s H E hr => ?_
  have c : XC (cxOf (L2.CX P w) P w g.K mg base n_law_choose "_law_choose" (defScope (topS 4)) f cdv A outer s H E) g := ⟨rfl, rfl, sc_law_choose.nd, hr.mono (by decide)⟩
  have tk : Takes (cxOf (L2.CX P w) P w g.K mg base n_law_choose "_law_choose" (defScope (topS 4)) f cdv A outer s H E) (fun cls d _ H => E cls d H) := takes_of rfl rfl rfl rfl
  exact b_cons (z_if (t_cmp opr_gt (s_idx c (s_var (pv 0)) (s_int) (fun _ _ => rfl)) (s_int) (nomark _)) (b_cons (z_set (i := 3) c.nd rfl (by first | exact Or.inl rfl | exact Or.inr rfl) (s_bin opr_mod (s_callTy cr_int rfl g_int boot_int (s_cons (s_idx c (s_var (pv 0)) (s_int) (fun _ _ => rfl)) (s_nil))) (s_var (pv 1)))) (b_cons (z_asgI (s_bin opr_fdiv (s_idx c (s_var (pv 0)) (s_int) (fun _ _ => rfl)) (s_var (pv 1))) (s_var (pv 0)) (s_int)) (b_cons (z_ret (s_var (pv 3))) (b_nil)))) (b_nil)) (b_cons (z_set (i := 2) c.nd rfl (by first | exact Or.inl rfl | exact Or.inr rfl) (s_bin opr_mod (s_callTy cr_int rfl g_int boot_int (s_cons (s_bin (opr_add c) (s_bin opr_mul (s_idx c (s_var (pv 0)) (s_int) (fun _ _ => rfl)) (s_int)) (s_int)) (s_nil))) (s_int))) (b_cons (z_asgI (s_bin (opr_add c) (s_bin opr_mod (s_callTy cr_int rfl g_int boot_int (s_cons (s_bin (opr_add c) (s_bin opr_mul (s_var (pv 2)) (s_int)) (s_int)) (s_nil))) (s_int)) (s_int)) (s_var (pv 0)) (s_int)) (b_cons (z_ret (s_bin opr_mod (s_callTy cr_int rfl g_int boot_int (s_cons (s_bin opr_fdiv (s_bin (opr_add c) (s_bin opr_mul (s_var (pv 2)) (s_int)) (s_idx c (s_var (pv 0)) (s_int) (fun _ _ => rfl))) (s_int)) (s_nil))) (s_var (pv 1)))) (b_nil))))
theorem ok_law_choose {P : Program} {w : World} {mg : Str → Option Value} {base : Heap} {g : G} {f : Addr} {fd : FuncData} (F : FnP g "_law_choose" (topS 4) f fd) (hm : mg "_law_choose" = some (.ref f)) (g_int : mg "int" = none)  : Fo P w mg base g 2 "_law_choose" ["_law_box", "_law_many"] d_law_choose :=
  ⟨f, fd, hm, F.kp, F.bindsN fun _ _ _ _ _ _ us hl => match us, hl with | [_, _], _ => rfl, gf_law_choose F g_int⟩
def d_law_one_of : Di.Fn := .mk 2 2 [.ret (.idx (.var 1) (.call d_law_choose [.var 0, .prim .len [.var 1]]))]
abbrev n_law_one_of : List Str := ["_law_box", "_law_some"]
theorem sc_law_one_of : FnScope n_law_one_of ["_law_box", "_law_some"] (defScope (topS 5)) := ⟨rfl, rfl, rfl, by decide +kernel, rfl, by decide +kernel, by decide +kernel⟩
theorem gf_law_one_of {P : Program} {w : World} {mg : Str → Option Value} {base : Heap} {g : G} {f : Addr} {fd : FuncData} (F : FnP g "_law_one_of" (topS 5) f fd) (g_len : mg "len" = none) (F_law_choose : Fo P w mg base g 2 "_law_choose" ["_law_box", "_law_many"] d_law_choose) : GF P w mg base g 4 f fd ["_law_box", "_law_some"] d_law_one_of := by
  refine fn_ok F sc_law_one_of rfl rfl fun cdv A outer s H E hr => ?_
  have c : XC (cxOf (L2.CX P w) P w g.K mg base n_law_one_of "_law_one_of" (defScope (topS 5)) f cdv A outer s H E) g := ⟨rfl, rfl, sc_law_one_of.nd, hr.mono (by decide)⟩
  have tk : Takes (cxOf (L2.CX P w) P w g.K mg base n_law_one_of "_law_one_of" (defScope (topS 5)) f cdv A outer s H E) (fun cls d _ H => E cls d H) := takes_of rfl rfl rfl rfl
  exact b_cons (z_ret (s_idx c (s_var (pv 1)) (s_callF c tk F_law_choose (hr.mono (by decide)) rfl (s_cons (s_var (pv 0)) (s_cons (s_callB (cr_len c) rfl g_len boot_len (s_cons (s_var (pv 1)) (s_nil))) (s_nil)))) (fun _ _ => rfl))) (b_nil)
theorem ok_law_one_of {P : Program} {w : World} {mg : Str → Option Value} {base : Heap} {g : G} {f : Addr} {fd : FuncData} (F : FnP g "_law_one_of" (topS 5) f fd) (hm : mg "_law_one_of" = some (.ref f)) (g_len : mg "len" = none) (F_law_choose : Fo P w mg base g 2 "_law_choose" ["_law_box", "_law_many"] d_law_choose) : Fo P w mg base g 4 "_law_one_of" ["_law_box", "_law_some"] d_law_one_of :=
  ⟨f, fd, hm, F.kp, F.bindsN fun _ _ _ _ _ _ us hl => match us, hl with | [_, _], _ => rfl, gf_law_one_of F g_len F_law_choose⟩
def d_law_told : Di.Fn := .mk 3 4 [.ret (.mth .join (.lit (.str [])) [.comp [3] (.name 3) (.rng1 (.call d_law_choose [.var 0, .bin .add (.var 2) (.lit (.int 1))])) [] (.call d_law_one_of [.var 0, .prim .list [.var 1]])])]
abbrev n_law_told : List Str := ["_law_box", "_law_marks", "_law_most", "_law_turn"]
theorem sc_law_told : FnScope n_law_told ["_law_box", "_law_marks", "_law_most"] (defScope (topS 6)) := ⟨rfl, rfl, rfl, by decide +kernel, rfl, by decide +kernel, by decide +kernel⟩
theorem gf_law_told {P : Program} {w : World} {mg : Str → Option Value} {base : Heap} {g : G} {f : Addr} {fd : FuncData} (F : FnP g "_law_told" (topS 6) f fd) (g_list : mg "list" = none) (g_range : mg "range" = none) (F_law_choose : Fo P w mg base g 2 "_law_choose" ["_law_box", "_law_many"] d_law_choose) (F_law_one_of : Fo P w mg base g 4 "_law_one_of" ["_law_box", "_law_some"] d_law_one_of) : GF P w mg base g 6 f fd ["_law_box", "_law_marks", "_law_most"] d_law_told := by
  refine fn_ok F sc_law_told rfl rfl fun cdv A outer s H E hr => ?_
  have c : XC (cxOf (L2.CX P w) P w g.K mg base n_law_told "_law_told" (defScope (topS 6)) f cdv A outer s H E) g := ⟨rfl, rfl, sc_law_told.nd, hr.mono (by decide)⟩
  have tk : Takes (cxOf (L2.CX P w) P w g.K mg base n_law_told "_law_told" (defScope (topS 6)) f cdv A outer s H E) (fun cls d _ H => E cls d H) := takes_of rfl rfl rfl rfl
  exact b_cons (z_ret (s_bm PySem.F.plainAttrs_str PySem.F.slot_str_join PySem.F.type_str_join (recv_str fun _ _ => rfl) (mr_join c) (s_str) (s_cons (s_comp (own := [("_law_turn", 3)]) c (i_rng1 rfl g_range (s_callF c tk F_law_choose (hr.mono (by decide)) rfl (s_cons (s_var (pv 0)) (s_cons (s_bin (opr_add c) (s_var (pv 2)) (s_int)) (s_nil))))) (blkOk_by (N := n_law_told) (sc := (defScope (topS 6))) (by decide +kernel)) (by decide) (fun _ _ _ _ _ => g_name (pg_name (c.blk _ _ _ _ _).nd (i := 3) rfl (by first | exact Or.inl rfl | exact Or.inr rfl))) (fun _ _ _ _ _ => ts_nil) (fun _ _ _ _ _ => s_callF (c.blk _ _ _ _ _) takes0 F_law_one_of (hr.mono (by decide)) rfl (s_cons (s_var (pv 0)) (s_cons (s_callTy (cr_list (c.blk _ _ _ _ _)) rfl g_list boot_list (s_cons (s_var (pv 1)) (s_nil))) (s_nil))))) (s_nil)))) (b_nil)
theorem ok_law_told {P : Program} {w : World} {mg : Str → Option Value} {base : Heap} {g : G} {f : Addr} {fd : FuncData} (F : FnP g "_law_told" (topS 6) f fd) (hm : mg "_law_told" = some (.ref f)) (g_list : mg "list" = none) (g_range : mg "range" = none) (F_law_choose : Fo P w mg base g 2 "_law_choose" ["_law_box", "_law_many"] d_law_choose) (F_law_one_of : Fo P w mg base g 4 "_law_one_of" ["_law_box", "_law_some"] d_law_one_of) : Fo P w mg base g 6 "_law_told" ["_law_box", "_law_marks", "_law_most"] d_law_told :=
  ⟨f, fd, hm, F.kp, F.bindsN fun _ _ _ _ _ _ us hl => match us, hl with | [_, _, _], _ => rfl, gf_law_told F g_list g_range F_law_choose F_law_one_of⟩
def d_law_closed : Di.Fn := .mk 2 5 [.ifs (.cmp .isN (.var 0) (.lit .non)) [.ret (.lit .non)] [],
  .asg (.name 2) (.lit (.str [])),
  .forI (.tup [.name 3, .name 4]) (.seq (.var 0)) [.ifs (.cmp .eq (.var 3) (.lit (.str [116, 111, 108, 100]))) [.asg (.name 2) (.bin .add (.var 2) (.var 4))] [.asg (.name 2) (.bin .add (.var 2) (.ite (.cmp .eq (.var 3) (.lit (.str [98, 111, 120]))) (.idx (.var 1) (.var 4)) (.rev (.idx (.var 1) (.var 4)))))]],
  .ret (.var 2)]
abbrev n_law_closed : List Str := ["_law_close", "_law_cells", "_law_found", "_law_kind", "_law_what"]
theorem sc_law_closed : FnScope n_law_closed ["_law_close", "_law_cells"] (defScope (topS 7)) := ⟨rfl, rfl, rfl, by decide +kernel, rfl, by decide +kernel, by decide +kernel⟩
theorem gf_law_closed {P : Program} {w : World} {mg : Str → Option Value} {base : Heap} {g : G} {f : Addr} {fd : FuncData} (F : FnP g "_law_closed" (topS 7) f fd)   : GF P w mg base g 2 f fd ["_law_close", "_law_cells"] d_law_closed := by
  refine fn_ok F sc_law_closed rfl rfl fun cdv A outer s H E hr => ?_
  have c : XC (cxOf (L2.CX P w) P w g.K mg base n_law_closed "_law_closed" (defScope (topS 7)) f cdv A outer s H E) g := ⟨rfl, rfl, sc_law_closed.nd, hr.mono (by decide)⟩
  have tk : Takes (cxOf (L2.CX P w) P w g.K mg base n_law_closed "_law_closed" (defScope (topS 7)) f cdv A outer s H E) (fun cls d _ H => E cls d H) := takes_of rfl rfl rfl rfl
  exact b_cons (z_if (t_cmp opr_isN (s_var (pv 0)) (s_non) (nomark _)) (b_cons (z_ret (s_non)) (b_nil)) (b_nil)) (b_cons (z_set (i := 2) c.nd rfl (by first | exact Or.inl rfl | exact Or.inr rfl) (s_str)) (b_cons (z_for (passes_of rfl) c.calm (i_seq c (s_var (pv 0))) (g_tup c (g_cons (g_name (pg_name c.nd (i := 3) rfl (by first | exact Or.inl rfl | exact Or.inr rfl))) (g_cons (g_name (pg_name c.nd (i := 4) rfl (by first | exact Or.inl rfl | exact Or.inr rfl))) (g_nil)))) (b_cons (z_if (t_cmp (opr_eq c) (s_var (pv 3)) (s_str) (nomark _)) (b_cons (z_set (i := 2) c.nd rfl (by first | exact Or.inl rfl | exact Or.inr rfl) (s_bin (opr_add c) (s_var (pv 2)) (s_var (pv 4)))) (b_nil)) (b_cons (z_set (i := 2) c.nd rfl (by first | exact Or.inl rfl | exact Or.inr rfl) (s_bin (opr_add c) (s_var (pv 2)) (s_ite (t_cmp (opr_eq c) (s_var (pv 3)) (s_str) (nomark _)) (s_idx c (s_var (pv 1)) (s_var (pv 4)) (fun _ _ => rfl)) (s_rev (s_idx c (s_var (pv 1)) (s_var (pv 4)) (fun _ _ => rfl)) step_01)))) (b_nil))) (b_nil))) (b_cons (z_ret (s_var (pv 2))) (b_nil))))
theorem ok_law_closed {P : Program} {w : World} {mg : Str → Option Value} {base : Heap} {g : G} {f : Addr} {fd : FuncData} (F : FnP g "_law_closed" (topS 7) f fd) (hm : mg "_law_closed" = some (.ref f))   : Fo P w mg base g 2 "_law_closed" ["_law_close", "_law_cells"] d_law_closed :=
  ⟨f, fd, hm, F.kp, F.bindsN fun _ _ _ _ _ _ us hl => match us, hl with | [_, _], _ => rfl, gf_law_closed F ⟩
def d_law : Di.Fn := .mk 1 12 [.forI (.name 1) (.rng1 (.prim .max2 [.lit (.int 1), .prim .min2 [.lit (.int 3), .prim .len [.var 0]]])) [.asg (.name 2) (.call d_law_seed [.var 0, .var 1]),
  .forI (.name 3) (.rng1 (.lit (.int 12))) [.asg (.name 4) (.comp [10] (.name 10) (.rng1 (.bin .add (.lit (.int 1)) (.call d_law_choose [.var 2, .lit (.int 2)]))) [] (.call d_law_told [.var 2, .lit (.str [97, 98, 99]), .lit (.int 6)])),
  .asg (.name 5) (.lst []),
  .forI (.name 6) (.rng1 (.call d_law_choose [.var 2, .lit (.int 5)])) [.asg (.name 7) (.call d_law_one_of [.var 2, .lst [.lit (.str [98, 111, 120]), .lit (.str [116, 117, 114, 110, 101, 100]), .lit (.str [116, 111, 108, 100])]]),
  .expr (.mth .append (.var 5) [.tup [.var 7, .ite (.cmp .eq (.var 7) (.lit (.str [116, 111, 108, 100]))) (.bin .add (.call d_law_told [.var 2, .lit (.str [97, 98, 99]), .lit (.int 2)]) (.lit (.str [97]))) (.call d_law_choose [.var 2, .prim .len [.var 4]])]])],
  .ifs (.cmp .gt (.prim .len [.comp [7, 11] (.tup [.name 7, .name 11]) (.seq (.var 5)) [.cmp .ne (.var 7) (.lit (.str [116, 111, 108, 100]))] (.lit (.int 1))]) (.lit (.int 2))) [.cnt] [],
  .asg (.tup [.name 8, .name 9]) (.tup [.call d_law_closed [.var 5, .var 4], .tup [.prim .list [.var 5], .prim .list [.var 4]]]),
  .ifs (.or (.cmp .ne (.prim .repr [.call d_row_text [.var 5, .var 4]]) (.prim .repr [.var 8])) (.cmp .ne (.tup [.var 5, .var 4]) (.var 9))) [.ret (.lit (.bl false))] [],
  .ifs (.cmp .ne (.call d_row_text [.prim .tuple [.var 5], .prim .tuple [.var 4]]) (.var 8)) [.ret (.lit (.bl false))] []]],
  .ret (.and (.cmp .eq (.call d_row_text [.lst [], .tup [.lit (.str [97])]]) (.lit (.str []))) (.cmp .eq (.call d_row_text [.tup [.tup [.lit (.str [116, 117, 114, 110, 101, 100]), .lit (.int 0)]], .lst [.lit (.str [97, 98, 99])]]) (.lit (.str [99, 98, 97]))))]
abbrev n_law : List Str := ["_law_script", "_law_k", "_law_box", "_law_turn", "_law_cells", "_law_row", "_law_part", "_law_sort", "_law_due", "_law_had", "_law_spot", "_law_what"]
theorem sc_law : FnScope n_law ["_law_script"] (defScope (topS 8)) := ⟨rfl, rfl, rfl, by decide +kernel, rfl, by decide +kernel, by decide +kernel⟩
theorem gf_law {P : Program} {w : World} {mg : Str → Option Value} {base : Heap} {g : G} {f : Addr} {fd : FuncData} (F : FnP g "law" (topS 8) f fd) (g_len : mg "len" = none) (g_list : mg "list" = none) (g_max : mg "max" = none) (g_min : mg "min" = none) (g_range : mg "range" = none) (g_repr : mg "repr" = none) (g_tuple : mg "tuple" = none) (F_law_seed : Fo P w mg base g 2 "_law_seed" ["_law_script", "_law_k"] d_law_seed) (F_law_choose : Fo P w mg base g 2 "_law_choose" ["_law_box", "_law_many"] d_law_choose) (F_law_told : Fo P w mg base g 6 "_law_told" ["_law_box", "_law_marks", "_law_most"] d_law_told) (F_law_one_of : Fo P w mg base g 4 "_law_one_of" ["_law_box", "_law_some"] d_law_one_of) (F_law_closed : Fo P w mg base g 2 "_law_closed" ["_law_close", "_law_cells"] d_law_closed) (Frow_text : Fo P w mg base g 2 "row_text" ["row", "texts"] d_row_text) : GF P w mg base g 8 f fd ["_law_script"] d_law := by
  refine fn_ok F sc_law rfl rfl fun cdv A outer s H E hr => ?_
  have c : XC (cxOf (L2.CX P w) P w g.K mg base n_law "law" (defScope (topS 8)) f cdv A outer s H E) g := ⟨rfl, rfl, sc_law.nd, hr.mono (by decide)⟩
  have tk : Takes (cxOf (L2.CX P w) P w g.K mg base n_law "law" (defScope (topS 8)) f cdv A outer s H E) (fun cls d _ H => E cls d H) := takes_of rfl rfl rfl rfl
  exact b_cons (z_for (passes_of rfl) c.calm (i_rng1 rfl g_range (s_callB (cr_max2 c) rfl g_max boot_max (s_cons (s_int) (s_cons (s_callB (cr_min2 c) rfl g_min boot_min (s_cons (s_int) (s_cons (s_callB (cr_len c) rfl g_len boot_len (s_cons (s_var (pv 0)) (s_nil))) (s_nil)))) (s_nil))))) (g_name (pg_name c.nd (i := 1) rfl (by first | exact Or.inl rfl | exact Or.inr rfl))) (b_cons (z_set (i := 2) c.nd rfl (by first | exact Or.inl rfl | exact Or.inr rfl) (s_callF c tk F_law_seed (hr.mono (by decide)) rfl (s_cons (s_var (pv 0)) (s_cons (s_var (pv 1)) (s_nil))))) (b_cons (z_for (passes_of rfl) c.calm (i_rng1 rfl g_range (s_int)) (g_name (pg_name c.nd (i := 3) rfl (by first | exact Or.inl rfl | exact Or.inr rfl))) (b_cons (z_setLc (i := 4) (hy := rfl) (hyl := rfl) (hsw := sw_true rfl rfl rfl (by decide +kernel)) (own := [("_law_spot", 10)]) c (i_rng1 rfl g_range (s_bin (opr_add c) (s_int) (s_callF c tk F_law_choose (hr.mono (by decide)) rfl (s_cons (s_var (pv 2)) (s_cons (s_int) (s_nil)))))) (blkOk_by (N := n_law) (sc := (defScope (topS 8))) (by decide +kernel)) (by decide) (fun _ _ _ _ _ => g_name (pg_name (c.blk _ _ _ _ _).nd (i := 10) rfl (by first | exact Or.inl rfl | exact Or.inr rfl))) (fun _ _ _ _ _ => ts_nil) (fun _ _ _ _ _ => s_callF (c.blk _ _ _ _ _) takes0 F_law_told (hr.mono (by decide)) rfl (s_cons (s_var (pv 2)) (s_cons (s_str) (s_cons (s_int) (s_nil)))))) (b_cons (z_set (i := 5) c.nd rfl (by first | exact Or.inl rfl | exact Or.inr rfl) (s_lst (s_nil))) (b_cons (z_for (passes_of rfl) c.calm (i_rng1 rfl g_range (s_callF c tk F_law_choose (hr.mono (by decide)) rfl (s_cons (s_var (pv 2)) (s_cons (s_int) (s_nil))))) (g_name (pg_name c.nd (i := 6) rfl (by first | exact Or.inl rfl | exact Or.inr rfl))) (b_cons (z_set (i := 7) c.nd rfl (by first | exact Or.inl rfl | exact Or.inr rfl) (s_callF c tk F_law_one_of (hr.mono (by decide)) rfl (s_cons (s_var (pv 2)) (s_cons (s_lst (s_cons (s_str) (s_cons (s_str) (s_cons (s_str) (s_nil))))) (s_nil))))) (b_cons (z_expr (s_bm PySem.F.plainAttrs_list PySem.F.slot_list_append PySem.F.type_list_append (recv_lst c fun _ _ => rfl) mr_append (s_var (pv 5)) (s_cons (s_tup (s_cons (s_var (pv 7)) (s_cons (s_ite (t_cmp (opr_eq c) (s_var (pv 7)) (s_str) (nomark _)) (s_bin (opr_add c) (s_callF c tk F_law_told (hr.mono (by decide)) rfl (s_cons (s_var (pv 2)) (s_cons (s_str) (s_cons (s_int) (s_nil))))) (s_str)) (s_callF c tk F_law_choose (hr.mono (by decide)) rfl (s_cons (s_var (pv 2)) (s_cons (s_callB (cr_len c) rfl g_len boot_len (s_cons (s_var (pv 4)) (s_nil))) (s_nil))))) (s_nil)))) (s_nil)))) (b_nil)))) (b_cons (z_if (t_cmp opr_gt (s_callB (cr_len c) rfl g_len boot_len (s_cons (s_comp (own := [("_law_sort", 7), ("_law_what", 11)]) c (i_seq c (s_var (pv 5))) (blkOk_by (N := n_law) (sc := (defScope (topS 8))) (by decide +kernel)) (by decide) (fun _ _ _ _ _ => g_tup (c.blk _ _ _ _ _) (g_cons (g_name (pg_name (c.blk _ _ _ _ _).nd (i := 7) rfl (by first | exact Or.inl rfl | exact Or.inr rfl))) (g_cons (g_name (pg_name (c.blk _ _ _ _ _).nd (i := 11) rfl (by first | exact Or.inl rfl | exact Or.inr rfl))) (g_nil)))) (fun _ _ _ _ _ => ts_one (t_cmp (opr_ne (c.blk _ _ _ _ _)) (s_var (pv 7)) (s_str) (nomark _))) (fun _ _ _ _ _ => s_int)) (s_nil))) (s_int) (nomark _)) (b_cons (z_cnt) (b_nil)) (b_nil)) (b_cons (z_par (i := 8) (j := 9) c.calm c.nd rfl rfl (by decide) rfl rfl (s_cons (s_callF c tk F_law_closed (hr.mono (by decide)) rfl (s_cons (s_var (pv 5)) (s_cons (s_var (pv 4)) (s_nil)))) (s_cons (s_tup (s_cons (s_callTy (cr_list c) rfl g_list boot_list (s_cons (s_var (pv 5)) (s_nil))) (s_cons (s_callTy (cr_list c) rfl g_list boot_list (s_cons (s_var (pv 4)) (s_nil))) (s_nil)))) (s_nil))) (by rfl)) (b_cons (z_if (t_w (w_or (t_cmp (opr_ne c) (s_callB cr_repr rfl g_repr boot_repr (s_cons (s_callF c tk Frow_text (hr.mono (by decide)) rfl (s_cons (s_var (pv 5)) (s_cons (s_var (pv 4)) (s_nil)))) (s_nil))) (s_callB cr_repr rfl g_repr boot_repr (s_cons (s_var (pv 8)) (s_nil))) (nomark _)) (w_or1 (t_cmp (opr_ne c) (s_tup (s_cons (s_var (pv 5)) (s_cons (s_var (pv 4)) (s_nil)))) (s_var (pv 9)) (nomark _))))) (b_cons (z_ret (s_bl)) (b_nil)) (b_nil)) (b_cons (z_if (t_cmp (opr_ne c) (s_callF c tk Frow_text (hr.mono (by decide)) rfl (s_cons (s_callTy (cr_tuple c) rfl g_tuple boot_tuple (s_cons (s_var (pv 5)) (s_nil))) (s_cons (s_callTy (cr_tuple c) rfl g_tuple boot_tuple (s_cons (s_var (pv 4)) (s_nil))) (s_nil)))) (s_var (pv 8)) (nomark _)) (b_cons (z_ret (s_bl)) (b_nil)) (b_nil)) (b_nil))))))))) (b_nil)))) (b_cons (z_ret (s_and c (s_cmp (opr_eq c) (s_callF c tk Frow_text (hr.mono (by decide)) rfl (s_cons (s_lst (s_nil)) (s_cons (s_tup (s_cons (s_str) (s_nil))) (s_nil)))) (s_str) (nomark _)) (s_one (s_cmp (opr_eq c) (s_callF c tk Frow_text (hr.mono (by decide)) rfl (s_cons (s_tup (s_cons (s_tup (s_cons (s_str) (s_cons (s_int) (s_nil)))) (s_nil))) (s_cons (s_lst (s_cons (s_str) (s_nil))) (s_nil)))) (s_str) (nomark _))))) (b_nil))
theorem ok_law {P : Program} {w : World} {mg : Str → Option Value} {base : Heap} {g : G} {f : Addr} {fd : FuncData} (F : FnP g "law" (topS 8) f fd) (hm : mg "law" = some (.ref f)) (g_len : mg "len" = none) (g_list : mg "list" = none) (g_max : mg "max" = none) (g_min : mg "min" = none) (g_range : mg "range" = none) (g_repr : mg "repr" = none) (g_tuple : mg "tuple" = none) (F_law_seed : Fo P w mg base g 2 "_law_seed" ["_law_script", "_law_k"] d_law_seed) (F_law_choose : Fo P w mg base g 2 "_law_choose" ["_law_box", "_law_many"] d_law_choose) (F_law_told : Fo P w mg base g 6 "_law_told" ["_law_box", "_law_marks", "_law_most"] d_law_told) (F_law_one_of : Fo P w mg base g 4 "_law_one_of" ["_law_box", "_law_some"] d_law_one_of) (F_law_closed : Fo P w mg base g 2 "_law_closed" ["_law_close", "_law_cells"] d_law_closed) (Frow_text : Fo P w mg base g 2 "row_text" ["row", "texts"] d_row_text) : Fo P w mg base g 8 "law" ["_law_script"] d_law :=
  ⟨f, fd, hm, F.kp, F.bindsN fun _ _ _ _ _ _ us hl => match us, hl with | [_], _ => rfl, gf_law F g_len g_list g_max g_min g_range g_repr g_tuple F_law_seed F_law_choose F_law_told F_law_one_of F_law_closed Frow_text⟩
def e_row_text : He.DefD := ⟨("row_text", none), "row_text", "row_text", defArgs (topS 1), defBody (topS 1), defScope (topS 1), [], []⟩
def e_law_seed : He.DefD := ⟨("_law_seed", none), "_law_seed", "_law_seed", defArgs (topS 3), defBody (topS 3), defScope (topS 3), [], []⟩
def e_law_choose : He.DefD := ⟨("_law_choose", none), "_law_choose", "_law_choose", defArgs (topS 4), defBody (topS 4), defScope (topS 4), [], []⟩
def e_law_one_of : He.DefD := ⟨("_law_one_of", none), "_law_one_of", "_law_one_of", defArgs (topS 5), defBody (topS 5), defScope (topS 5), [], []⟩
def e_law_told : He.DefD := ⟨("_law_told", none), "_law_told", "_law_told", defArgs (topS 6), defBody (topS 6), defScope (topS 6), [], []⟩
def e_law_closed : He.DefD := ⟨("_law_closed", none), "_law_closed", "_law_closed", defArgs (topS 7), defBody (topS 7), defScope (topS 7), [], []⟩
def e_law : He.DefD := ⟨("law", none), "law", "law", defArgs (topS 8), defBody (topS 8), defScope (topS 8), [], []⟩
def fn : List He.DefD := [e_row_text, e_law_seed, e_law_choose, e_law_one_of, e_law_told, e_law_closed, e_law]
def fa : List He.Fa := [.glo "row_text", .glo "_law_seed", .glo "_law_choose", .glo "_law_one_of", .glo "_law_told", .glo "_law_closed", .glo "law", .free "abs", .free "int", .free "len", .free "list", .free "max", .free "min", .free "range", .free "repr", .free "tuple"]
abbrev Rw : PySem.W.OpenRow := PySem.W.OpenLaw.row PySem.Challenge.rw_growntexts_k15_rows_joined
abbrev hk : PySem.W.Hook := He.hookD 4 fa fn
def ob (s : PySem.W.SharedT) : He.AlD := He.obsDG 4 fa fn (HandSHeadRun.getT s)
theorem ob_eq (s : PySem.W.SharedT) : ob s = hk.obs s.abs := He.obsDG_eq (HandSHeadRun.getT_eq s)
theorem run (w : World) : HandSHeadRun.RunEq Rw (PySem.W.view Rw.prog [8]) hk ob 4000 ["row_text", "_law_seed", "_law_choose", "_law_one_of", "_law_told", "_law_closed"] w := by
  intro os
  kernel_rfl
theorem facts {P : Program} {w : World} {K : PySem.W.Frag} {h : Heap} {mg : Str → Option Value} {f : Addr} (X : K.In h) (N0 : h.Ns mainGlobals mg) (hfa : mg ("law" : Str) = some (.ref f)) (c : He.SaysD fa fn K) :
    ∃ (g : G) (fd : FuncData), g.K.In h ∧ (∀ (s : Shared) (v : Value), BindsTo s fd ⟨[v], []⟩ [("_law_script", v)]) ∧ ∀ base : Heap, g.K.In base → base.Ns mainGlobals mg → GF P w mg base g 8 f fd ["_law_script"] d_law := by
  obtain ⟨fd0, F0⟩ := c.def_ 0 (d := e_row_text) rfl
  obtain ⟨fd1, F1⟩ := c.def_ 1 (d := e_law_seed) rfl
  obtain ⟨fd2, F2⟩ := c.def_ 2 (d := e_law_choose) rfl
  obtain ⟨fd3, F3⟩ := c.def_ 3 (d := e_law_one_of) rfl
  obtain ⟨fd4, F4⟩ := c.def_ 4 (d := e_law_told) rfl
  obtain ⟨fd5, F5⟩ := c.def_ 5 (d := e_law_closed) rfl
  obtain ⟨fd6, F6⟩ := c.def_ 6 (d := e_law) rfl
  have e := hfa.symm.trans (He.glo_ok X N0 (c.fact 6 (f := .glo "law") rfl))
  cases e
  have b := FunD.bindsA (ps := ["_law_script"]) F6 fun _ _ _ _ _ _ us hl => match us, hl with | [_], _ => rfl
  have g_abs : mg "abs" = none := He.free_ok X N0 (c.fact 7 (f := .free "abs") rfl)
  have g_int : mg "int" = none := He.free_ok X N0 (c.fact 8 (f := .free "int") rfl)
  have g_len : mg "len" = none := He.free_ok X N0 (c.fact 9 (f := .free "len") rfl)
  have g_list : mg "list" = none := He.free_ok X N0 (c.fact 10 (f := .free "list") rfl)
  have g_max : mg "max" = none := He.free_ok X N0 (c.fact 11 (f := .free "max") rfl)
  have g_min : mg "min" = none := He.free_ok X N0 (c.fact 12 (f := .free "min") rfl)
  have g_range : mg "range" = none := He.free_ok X N0 (c.fact 13 (f := .free "range") rfl)
  have g_repr : mg "repr" = none := He.free_ok X N0 (c.fact 14 (f := .free "repr") rfl)
  have g_tuple : mg "tuple" = none := He.free_ok X N0 (c.fact 15 (f := .free "tuple") rfl)
  refine ⟨⟨K, fun _ => 0, fun _ => ""⟩, fd6, X, fun s v => b s [v] rfl, fun base _ _ => ?_⟩
  have V0 := ok_row_text (P := P) (w := w) (mg := mg) (base := base) (g := ⟨K, fun _ => 0, fun _ => ""⟩) F0 (He.glo_ok X N0 (c.fact 0 (f := .glo "row_text") rfl)) 
  have V1 := ok_law_seed (P := P) (w := w) (mg := mg) (base := base) (g := ⟨K, fun _ => 0, fun _ => ""⟩) F1 (He.glo_ok X N0 (c.fact 1 (f := .glo "_law_seed") rfl)) g_abs g_int g_len
  have V2 := ok_law_choose (P := P) (w := w) (mg := mg) (base := base) (g := ⟨K, fun _ => 0, fun _ => ""⟩) F2 (He.glo_ok X N0 (c.fact 2 (f := .glo "_law_choose") rfl)) g_int
  have V3 := ok_law_one_of (P := P) (w := w) (mg := mg) (base := base) (g := ⟨K, fun _ => 0, fun _ => ""⟩) F3 (He.glo_ok X N0 (c.fact 3 (f := .glo "_law_one_of") rfl)) g_len V2
  have V4 := ok_law_told (P := P) (w := w) (mg := mg) (base := base) (g := ⟨K, fun _ => 0, fun _ => ""⟩) F4 (He.glo_ok X N0 (c.fact 4 (f := .glo "_law_told") rfl)) g_list g_range V2 V3
  have V5 := ok_law_closed (P := P) (w := w) (mg := mg) (base := base) (g := ⟨K, fun _ => 0, fun _ => ""⟩) F5 (He.glo_ok X N0 (c.fact 5 (f := .glo "_law_closed") rfl)) 
  exact gf_law F6 g_len g_list g_max g_min g_range g_repr g_tuple V1 V2 V4 V3 V5 V0
end DiG
open PySem PySem.W PySem.Calls PyProof.Rows
theorem DiG.holds (fuel : Nat) (hlaw : ∀ ns : List Int, ns.length ≤ 63 → (∀ z ∈ ns, Builtin.Int.intBits z ≤ 1048576) → DiS.answers fuel DiG.d_law ns = true) : PySem.Challenge.rw_growntexts_k15_rows_joined.Holds := by
  w_on; o_law
  refine HandSHeadRun.head_any (r := OpenLaw.row PySem.Challenge.rw_growntexts_k15_rows_joined) (q := view (OpenLaw.row PySem.Challenge.rw_growntexts_k15_rows_joined).prog [8]) (H := DiG.hk) (ob := DiG.ob) (M := 4000) (loose := ["row_text", "_law_seed", "_law_choose", "_law_one_of", "_law_told", "_law_closed"]) (d := HandSHeadRun.topDef (OpenLaw.row PySem.Challenge.rw_growntexts_k15_rows_joined).prog 8) (kwd := []) DiG.ob_eq
    (by kernel_rfl) (fun s => by kernel_rfl) DiG.run (by kernel_rfl) (by kernel_rfl) (by kernel_rfl) (by rfl) (by first | assumption | decide +kernel) (by decide +kernel) ⟨rfl, rfl, rfl, rfl, rfl, by decide +kernel⟩ ?hw ?hc
  case hw => w_witness2
  case hc =>
    refine DiS.walk_di (l := PySem.Challenge.rw_growntexts_k15_rows_joined) (n := 63) (k := 8) (x := "_law_script") (fuel := fuel) (fn := DiG.d_law) rfl (by decide) (by kernel_rfl) ⟨rfl, by decide, by decide⟩ hlaw ?F
    intro w mg fa h Y N0 hmg0
    obtain ⟨K, KX, c⟩ := Y
    have hmg : mg ("law" : PySem.Str) = some (.ref fa) := by
      have e : (HandSHeadRun.topDef (OpenLaw.row PySem.Challenge.rw_growntexts_k15_rows_joined).prog 8).name = ("law" : PySem.Str) := by kernel_rfl
      rw [← e]
      exact hmg0
    exact DiG.facts KX N0 hmg c
end

section
set_option Elab.async false
set_option linter.all false
set_option maxRecDepth 100000
namespace DiG
open Di
/-- the box of drawn numbers -/
def Bx (S : Sto) (b : Nat) : Prop := b < S.n ∧ ∃ x y : Int, S.get b = some (.lst [.int x, .int y])
variable {n : Nat} {S : Sto} {b : Nat} {Q X : D → Sto → Prop}
theorem at0 {α : Type} {x : α} {r : List α} : atD (x :: r) 0 = some x := atD_nat (k := 0) rfl
theorem at1 {α : Type} {x y : α} {r : List α} : atD (x :: y :: r) 1 = some y := atD_nat (k := 1) rfl
theorem mulOk_r {i j : Int} (h1 : -(2 ^ 64) < j) (h2 : j < 2 ^ 64) : mulOk i j = true := by
  unfold mulOk
  rw [decide_eq_true h1, decide_eq_true h2]
  exact Bool.or_true _
theorem mulOk_l {i j : Int} (h1 : -(2 ^ 64) < i) (h2 : i < 2 ^ 64) : mulOk i j = true := by
  unfold mulOk
  rw [decide_eq_true h1, decide_eq_true h2]
  rfl
theorem choose_spec {many : Int} (hn : 12 ≤ n) (h : Bx S b) (hm : 0 < many) (hm2 : many < 1073741824)
    (q : ∀ (d : Int) S', 0 ≤ d → d < many → Bx S' b → Fr b S S' → Q (.int d) S') : WF n d_law_choose [.ref b, .int many] S Q X := by
  obtain ⟨n, rfl⟩ := Nat.exists_eq_add_of_le' hn
  obtain ⟨hb, x, y, h⟩ := h
  have i0 := items_lst h
  unfold d_law_choose
  refine f_mk [some (.ref b), some (.int many), none, none] rfl rfl ?_
  simp only [e_lit, e_var, e_bin, e_cmp, t_ev, e_not, e_and, e_or, e_ite, a_nil, a_cons, e_tup, e_lst, e_idx, e_rev, e_prim, e_mth, e_call, b_nil, b_cons, s_set, s_asgI, s_expr, s_ret, s_ifs, s_skip, s_brk, s_cnt, List.getElem?_cons_zero, List.getElem?_cons_succ, List.set_cons_zero, List.set_cons_succ, wd_add_i, wd_add_s, wd_sub, wd_mul, wd_mod, wd_fdiv, wd_lt, wd_le, wd_gt, wd_ge, wd_eq_s, wd_ne_s, wd_eq_i, wd_ne_i, wd_isN, wd_abs, wd_int, wd_max2, wd_min2, wd_len_s, wd_list_s, wd_rev, truth_bl, wd_pow, List.set_cons_zero, List.set_cons_succ, wd_idx i0 at0, wd_idx i0 at1]
  refine ⟨fun _ => ⟨hm, ⟨hm, hm2⟩, _, put_at (k := 0) h (by simp), ?_⟩, fun _ => ⟨mulOk_r (by decide) (by decide), by decide, mulOk_r (by decide) (by decide), by decide, _, put_at (k := 1) h (by simp), mulOk_r (by decide) (by decide), ?_⟩⟩
  · exact q _ _ (Int.emod_nonneg _ (by omega)) (Int.emod_lt_of_pos _ hm) ⟨hb, _, _, get_set_same⟩ Fr.set
  · simp only [e_lit, e_var, e_bin, e_cmp, t_ev, e_not, e_and, e_or, e_ite, a_nil, a_cons, e_tup, e_lst, e_idx, e_rev, e_prim, e_mth, e_call, b_nil, b_cons, s_set, s_asgI, s_expr, s_ret, s_ifs, s_skip, s_brk, s_cnt, List.getElem?_cons_zero, List.getElem?_cons_succ, List.set_cons_zero, List.set_cons_succ, wd_add_i, wd_add_s, wd_sub, wd_mul, wd_mod, wd_fdiv, wd_lt, wd_le, wd_gt, wd_ge, wd_eq_s, wd_ne_s, wd_eq_i, wd_ne_i, wd_isN, wd_abs, wd_int, wd_max2, wd_min2, wd_len_s, wd_list_s, wd_rev, truth_bl, wd_pow, List.set_cons_zero, List.set_cons_succ, wd_idx (items_lst get_set_same) at1]
    refine ⟨⟨by decide, by decide⟩, hm, ?_⟩
    exact q _ _ (Int.emod_nonneg _ (by omega)) (Int.emod_lt_of_pos _ hm) ⟨hb, _, _, get_set_same⟩ Fr.set
theorem one_of_spec {x : D} {xs : List D} (hn : 20 ≤ n) (h : Bx S b) (hx : ∀ S', Fr b S S' → items S' x = some xs) (h0 : xs ≠ []) (hl : xs.length ≤ cap)
    (q : ∀ d S', d ∈ xs → Bx S' b → Fr b S S' → Q d S') : WF n d_law_one_of [.ref b, x] S Q X := by
  obtain ⟨n, rfl⟩ := Nat.exists_eq_add_of_le' hn
  unfold d_law_one_of
  refine f_mk [some (.ref b), some x] rfl rfl ?_
  simp only [e_lit, e_var, e_bin, e_cmp, t_ev, e_not, e_and, e_or, e_ite, a_nil, a_cons, e_tup, e_lst, e_idx, e_rev, e_prim, e_mth, e_call, b_nil, b_cons, s_set, s_asgI, s_expr, s_ret, s_ifs, s_skip, s_brk, s_cnt, List.getElem?_cons_zero, List.getElem?_cons_succ, List.set_cons_zero, List.set_cons_succ, wd_add_i, wd_add_s, wd_sub, wd_mul, wd_mod, wd_fdiv, wd_lt, wd_le, wd_gt, wd_ge, wd_eq_s, wd_ne_s, wd_eq_i, wd_ne_i, wd_isN, wd_abs, wd_int, wd_max2, wd_min2, wd_len_s, wd_list_s, wd_rev, truth_bl, wd_pow, List.set_cons_zero, List.set_cons_succ, wd_len (hx S (Fr.refl b S))]
  have hp : 0 < xs.length := List.length_pos_iff.mpr h0
  have hc : xs.length ≤ 1000000 := hl
  refine choose_spec (by omega) h (by omega) (by omega) fun d S' h1 h2 h3 h4 => ?_
  obtain ⟨k, rfl⟩ := Int.eq_ofNat_of_zero_le h1
  have hk : k < xs.length := by omega
  rw [wd_idx (hx S' h4) (atD_nat (List.getElem?_eq_getElem hk))]
  exact q _ _ (List.getElem_mem hk) h3 h4
/-- a text of the marks -/
def Of (marks : Tx) (most : Nat) (t : Tx) : Prop := t.length ≤ most ∧ ∀ c ∈ t, c ∈ marks
theorem told_spec {marks : Tx} {most : Nat} (hn : 40 ≤ n) (h : Bx S b) (h0 : marks ≠ []) (hl : marks.length ≤ 1000) (hm : most ≤ 1000)
    (q : ∀ t S', Of marks most t → Bx S' b → Fr b S S' → Q (.str t) S') : WF n d_law_told [.ref b, .str marks, .int most] S Q X := by
  obtain ⟨n, rfl⟩ := Nat.exists_eq_add_of_le' hn
  unfold d_law_told
  refine f_mk [some (.ref b), some (.str marks), some (.int most), none] rfl rfl ?_
  simp only [e_lit, e_var, e_bin, e_cmp, t_ev, e_not, e_and, e_or, e_ite, a_nil, a_cons, e_tup, e_lst, e_idx, e_rev, e_prim, e_mth, e_call, b_nil, b_cons, s_set, s_asgI, s_expr, s_ret, s_ifs, s_skip, s_brk, s_cnt, List.getElem?_cons_zero, List.getElem?_cons_succ, List.set_cons_zero, List.set_cons_succ, wd_add_i, wd_add_s, wd_sub, wd_mul, wd_mod, wd_fdiv, wd_lt, wd_le, wd_gt, wd_ge, wd_eq_s, wd_ne_s, wd_eq_i, wd_ne_i, wd_isN, wd_abs, wd_int, wd_max2, wd_min2, wd_len_s, wd_list_s, wd_rev, truth_bl, wd_pow, List.set_cons_zero, List.set_cons_succ, e_comp, i_rng]
  refine ⟨rfl, choose_spec (by omega) h (by omega) (by omega) fun d S1 h1 h2 h3 h4 => ⟨⟨by omega, by omega⟩, ?_⟩⟩
  obtain ⟨k, rfl⟩ := Int.eq_ofNat_of_zero_le h1
  have hk : k ≤ most := by omega
  refine comp_inv (P := fun i S' => Bx S' b ∧ Fr b S S' ∧ S1.n < S'.n ∧ ∃ ts : List Tx, S'.get S1.n = some (.lst (ts.map .str)) ∧ ts.length = i ∧ ∀ t ∈ ts, ∃ c ∈ marks, t = [c]) k (by unfold far; omega) ?_ ?_ ?_
  · obtain ⟨hb, x, y, hx⟩ := h3
    exact ⟨⟨Nat.lt_succ_of_lt hb, x, y, by rw [get_push_old hb]; exact hx⟩, h4.trans Fr.push, Nat.lt_succ_self _, [], get_push_new, rfl, fun t ht => nomatch ht⟩
  · rintro i S2 hi ⟨g1, g2, g3, ts, g4, g5, g6⟩
    refine ⟨_, _, at_rng (by omega), rfl, ?_⟩
    rw [ts_nil]
    refine ⟨fun _ => ?_, fun z => nomatch z⟩
    simp only [wipe, bindT, e_lit, e_var, e_bin, e_cmp, t_ev, e_not, e_and, e_or, e_ite, a_nil, a_cons, e_tup, e_lst, e_idx, e_rev, e_prim, e_mth, e_call, b_nil, b_cons, s_set, s_asgI, s_expr, s_ret, s_ifs, s_skip, s_brk, s_cnt, List.getElem?_cons_zero, List.getElem?_cons_succ, List.set_cons_zero, List.set_cons_succ, wd_add_i, wd_add_s, wd_sub, wd_mul, wd_mod, wd_fdiv, wd_lt, wd_le, wd_gt, wd_ge, wd_eq_s, wd_ne_s, wd_eq_i, wd_ne_i, wd_isN, wd_abs, wd_int, wd_max2, wd_min2, wd_len_s, wd_list_s, wd_rev, truth_bl, wd_pow, List.set_cons_zero, List.set_cons_succ]
    refine ⟨by unfold cap; omega, ?_⟩
    have fp : Fr b S2 (S2.push (.lst (marks.map fun c => .str [c]))) := Fr.push
    have bp : Bx (S2.push (.lst (marks.map fun c => .str [c]))) b := by
      obtain ⟨hb, x, y, hx⟩ := g1
      exact ⟨Nat.lt_succ_of_lt hb, x, y, by rw [get_push_old hb]; exact hx⟩
    refine one_of_spec (by omega) bp (xs := marks.map fun c => .str [c]) (fun S' f => items_lst (by rw [f.old S2.n (Nat.lt_succ_self _) (Nat.ne_of_gt g1.1)]; exact get_push_new)) (by simpa using h0) (by rw [List.length_map]; unfold cap; omega) fun d S3 k1 k2 k3 => ?_
    obtain ⟨c, hc, rfl⟩ := List.mem_map.mp k1
    have f3 := fp.trans k3
    have gs : S3.get S1.n = some (.lst (ts.map .str)) := by
      rw [f3.old S1.n g3 (Nat.ne_of_gt h3.1)]
      exact g4
    refine ⟨ts.map .str, gs, by rw [List.length_map, g5]; unfold cap; omega, ?_⟩
    obtain ⟨kb, x, y, kx⟩ := k2
    refine ⟨⟨kb, x, y, by rw [get_set_ne (Nat.ne_of_lt h3.1)]; exact kx⟩, (g2.trans f3).new h4.le, Nat.lt_of_lt_of_le g3 f3.le, ts ++ [[c]], by rw [get_set_same, List.map_append]; rfl, by rw [List.length_append, g5]; rfl, fun t ht => ?_⟩
    rcases List.mem_append.mp ht with z | z
    · exact g6 t z
    · exact ⟨c, hc, List.mem_singleton.mp z⟩
  · rintro S2 ⟨g1, g2, g3, ts, g4, g5, g6⟩
    refine ⟨end_rng, ?_⟩
    rw [wd_join0 (items_lst g4)]
    have len : ∀ ts : List Tx, (∀ t ∈ ts, ∃ c ∈ marks, t = [c]) → ts.flatten.length = ts.length := by
      intro ts
      induction ts with
      | nil => intro _; rfl
      | cons t ts ih =>
        intro g
        obtain ⟨c, _, e⟩ := g t (List.mem_cons_self ..)
        rw [List.flatten_cons, List.length_append, ih fun t ht => g t (List.mem_cons_of_mem _ ht), e, List.length_cons, Nat.add_comm]
        rfl
    refine ⟨by rw [len ts g6, g5]; unfold cap; omega, q _ _ ⟨by rw [len ts g6, g5]; exact hk, fun c hc => ?_⟩ g1 g2⟩
    obtain ⟨t, ht, hct⟩ := List.mem_flatten.mp hc
    obtain ⟨c2, h2, rfl⟩ := g6 t ht
    rw [List.mem_singleton.mp hct]
    exact h2
theorem bx_push {o : MO} (h : Bx S b) : Bx (S.push o) b := by
  obtain ⟨hb, x, y, hx⟩ := h
  exact ⟨Nat.lt_succ_of_lt hb, x, y, by rw [get_push_old hb]; exact hx⟩
theorem bx_fr {S' : Sto} (h : Bx S b) (f : Fr S.n S S') : Bx S' b := by
  obtain ⟨hb, x, y, hx⟩ := h
  exact ⟨Nat.lt_of_lt_of_le hb f.le, x, y, by rw [f.old b hb (Nat.ne_of_lt hb)]; exact hx⟩
theorem seed_spec {ns : List Int} {k : Nat} (hn : 20 ≤ n) (h : S.get 0 = some (.rol (ns.map .int))) (q : ∀ x y : Int, Q (.ref S.n) (S.push (.lst [.int x, .int y]))) : WF n d_law_seed [.ref 0, .int k] S Q X := by
  obtain ⟨n, rfl⟩ := Nat.exists_eq_add_of_le' hn
  have i0 := items_rol h
  unfold d_law_seed
  refine f_mk [some (.ref 0), some (.int k), none, none] rfl rfl ?_
  have tail : ∀ cell : Int, ((0 ≤ (18 : Int) ∧ (18 : Int) ≤ 1000000 ∧ (10 : Int).natAbs < 2 ^ 64)) := fun _ => ⟨by decide, by decide, by decide⟩
  simp only [e_lit, e_var, e_bin, e_cmp, t_ev, e_not, e_and, e_or, e_ite, a_nil, a_cons, e_tup, e_lst, e_idx, e_rev, e_prim, e_mth, e_call, b_nil, b_cons, s_set, s_asgI, s_expr, s_ret, s_ifs, s_skip, s_brk, s_cnt, List.getElem?_cons_zero, List.getElem?_cons_succ, List.set_cons_zero, List.set_cons_succ, wd_add_i, wd_add_s, wd_sub, wd_mul, wd_mod, wd_fdiv, wd_lt, wd_le, wd_gt, wd_ge, wd_eq_s, wd_ne_s, wd_eq_i, wd_ne_i, wd_isN, wd_abs, wd_int, wd_max2, wd_min2, wd_len_s, wd_list_s, wd_rev, truth_bl, wd_pow, List.set_cons_zero, List.set_cons_succ, wd_len i0, List.length_map, List.length_cons, List.length_nil]
  refine ⟨mulOk_l (by decide) (by decide), fun z => ?_, fun z => ⟨fun z2 => ?_, fun z2 => ?_⟩⟩
  · have hk : k < ns.length := by
      have := of_decide_eq_true z
      omega
    have a1 : atD (ns.map D.int) (k : Int) = some (.int ns[k]) := atD_nat (by rw [List.getElem?_map, List.getElem?_eq_getElem hk]; rfl)
    simp only [e_lit, e_var, e_bin, e_cmp, t_ev, e_not, e_and, e_or, e_ite, a_nil, a_cons, e_tup, e_lst, e_idx, e_rev, e_prim, e_mth, e_call, b_nil, b_cons, s_set, s_asgI, s_expr, s_ret, s_ifs, s_skip, s_brk, s_cnt, List.getElem?_cons_zero, List.getElem?_cons_succ, List.set_cons_zero, List.set_cons_succ, wd_add_i, wd_add_s, wd_sub, wd_mul, wd_mod, wd_fdiv, wd_lt, wd_le, wd_gt, wd_ge, wd_eq_s, wd_ne_s, wd_eq_i, wd_ne_i, wd_isN, wd_abs, wd_int, wd_max2, wd_min2, wd_len_s, wd_list_s, wd_rev, truth_bl, wd_pow, List.set_cons_zero, List.set_cons_succ, wd_idx i0 a1]
    refine ⟨⟨by decide, by decide, by decide⟩, fun _ => ?_, fun _ => ?_⟩
    · exact ⟨by decide, mulOk_r (by decide) (by decide), mulOk_l (by decide) (by decide), by decide, by decide, q _ _⟩
    · exact ⟨by decide, mulOk_r (by decide) (by decide), mulOk_l (by decide) (by decide), by decide, by decide, q _ _⟩
  · have hp : 0 < (ns.length : Int) := of_decide_eq_true z2
    refine ⟨hp, ?_⟩
    have h1 := Int.emod_nonneg (k : Int) (Int.ne_of_gt hp)
    have h2 := Int.emod_lt_of_pos (k : Int) hp
    obtain ⟨j, hj⟩ := Int.eq_ofNat_of_zero_le h1
    rw [hj] at h2 ⊢
    have hk : j < ns.length := by omega
    have a1 : atD (ns.map D.int) (j : Int) = some (.int ns[j]) := atD_nat (by rw [List.getElem?_map, List.getElem?_eq_getElem hk]; rfl)
    simp only [e_lit, e_var, e_bin, e_cmp, t_ev, e_not, e_and, e_or, e_ite, a_nil, a_cons, e_tup, e_lst, e_idx, e_rev, e_prim, e_mth, e_call, b_nil, b_cons, s_set, s_asgI, s_expr, s_ret, s_ifs, s_skip, s_brk, s_cnt, List.getElem?_cons_zero, List.getElem?_cons_succ, List.set_cons_zero, List.set_cons_succ, wd_add_i, wd_add_s, wd_sub, wd_mul, wd_mod, wd_fdiv, wd_lt, wd_le, wd_gt, wd_ge, wd_eq_s, wd_ne_s, wd_eq_i, wd_ne_i, wd_isN, wd_abs, wd_int, wd_max2, wd_min2, wd_len_s, wd_list_s, wd_rev, truth_bl, wd_pow, List.set_cons_zero, List.set_cons_succ, wd_idx i0 a1]
    refine ⟨by decide, mulOk_r (by decide) (by decide), ⟨by decide, by decide, by decide⟩, fun _ => ?_, fun _ => ?_⟩
    · exact ⟨by decide, mulOk_r (by decide) (by decide), mulOk_l (by decide) (by decide), by decide, by decide, q _ _⟩
    · exact ⟨by decide, mulOk_r (by decide) (by decide), mulOk_l (by decide) (by decide), by decide, by decide, q _ _⟩
  · refine ⟨⟨by decide, by decide, by decide⟩, fun _ => ?_, fun _ => ?_⟩
    · exact ⟨by decide, mulOk_r (by decide) (by decide), mulOk_l (by decide) (by decide), by decide, by decide, q _ _⟩
    · exact ⟨by decide, mulOk_r (by decide) (by decide), mulOk_l (by decide) (by decide), by decide, by decide, q _ _⟩
/-! ### rows -/
abbrev sTold : Tx := [116, 111, 108, 100]
abbrev sBox : Tx := [98, 111, 120]
abbrev sTurned : Tx := [116, 117, 114, 110, 101, 100]
def lim (t : Tx) : Prop := t.length ≤ 10 ∧ ∀ c ∈ t, c < 1000
/-- a part of a row over m boxes -/
inductive Pt (m : Nat) : D → Prop
  | told (t : Tx) : lim t → Pt m (.tup [.str sTold, .str t])
  | box (k : Nat) : k < m → Pt m (.tup [.str sBox, .int k])
  | turned (k : Nat) : k < m → Pt m (.tup [.str sTurned, .int k])
def pc (ts : List Tx) : D → Tx
  | .tup [.str s, .str t] => t
  | .tup [.str s, .int k] => cond (decide (s = sBox)) (ts.getD k.toNat []) (ts.getD k.toNat []).reverse
  | _ => []
def rowT (ts : List Tx) (rows : List D) : Tx := (rows.map (pc ts)).flatten
theorem getD_lim {ts : List Tx} (h : ∀ t ∈ ts, lim t) (k : Nat) : (ts.getD k []).length ≤ 10 ∧ ∀ c ∈ ts.getD k [], c < 1000 := by
  rw [List.getD_eq_getElem?_getD]
  cases q : ts[k]? with
  | none => exact ⟨Nat.zero_le _, fun c hc => nomatch hc⟩
  | some t => exact h t (List.mem_of_getElem? q)
theorem pc_lim {ts : List Tx} {m : Nat} {d : D} (h : ∀ t ∈ ts, lim t) (p : Pt m d) : lim (pc ts d) := by
  cases p with
  | told t ht => exact ht
  | box k hk => exact getD_lim h k
  | turned k hk =>
    have := getD_lim h k
    show lim (ts.getD k []).reverse
    exact ⟨by rw [List.length_reverse]; exact this.1, fun c hc => this.2 c (List.mem_reverse.mp hc)⟩
theorem rowT_lim {ts : List Tx} {m : Nat} (h : ∀ t ∈ ts, lim t) : ∀ {rows : List D}, (∀ d ∈ rows, Pt m d) → (rowT ts rows).length ≤ 10 * rows.length ∧ ∀ c ∈ rowT ts rows, c < 1000 := by
  intro rows
  induction rows with
  | nil => intro _; exact ⟨Nat.le_refl _, fun c hc => nomatch hc⟩
  | cons d rows ih =>
    intro p
    have h1 := pc_lim h (p d (List.mem_cons_self ..))
    have h2 := ih fun d hd => p d (List.mem_cons_of_mem _ hd)
    have e : rowT ts (d :: rows) = pc ts d ++ rowT ts rows := by unfold rowT; rw [List.map_cons, List.flatten_cons]
    rw [e, List.length_append, List.length_cons]
    refine ⟨by have := h1.1; omega, fun c hc => ?_⟩
    rcases List.mem_append.mp hc with z | z
    · exact h1.2 c z
    · exact h2.2 c z
theorem take_succ' {α : Type} {xs : List α} {i : Nat} {x : α} (h : xs[i]? = some x) : xs.take (i + 1) = xs.take i ++ [x] := by
  rw [List.take_add_one, h]
  rfl
theorem rowT_snoc (ts : List Tx) (l : List D) (d : D) : rowT ts (l ++ [d]) = rowT ts l ++ pc ts d := by
  unfold rowT
  rw [List.map_append, List.flatten_append]
  simp
theorem row_text_spec {x y : D} {ts : List Tx} {rows : List D} (hn : 20 ≤ n) (hx : Has S.n S x rows) (hy : Has S.n S y (ts.map .str)) (hr : ∀ d ∈ rows, Pt ts.length d) (ht : ∀ t ∈ ts, lim t) (hl : rows.length ≤ 1000)
    (q : ∀ S', Fr S.n S S' → Q (.str (rowT ts rows)) S') : WF n d_row_text [x, y] S Q X := by
  obtain ⟨n, rfl⟩ := Nat.exists_eq_add_of_le' hn
  unfold d_row_text
  refine f_mk [some x, some y, none, none, none] rfl rfl ?_
  simp only [e_lit, e_var, e_bin, e_cmp, t_ev, e_not, e_and, e_or, e_ite, a_nil, a_cons, e_tup, e_lst, e_idx, e_rev, e_prim, e_mth, e_call, b_nil, b_cons, s_set, s_asgI, s_expr, s_ret, s_ifs, s_skip, s_brk, s_cnt, List.getElem?_cons_zero, List.getElem?_cons_succ, List.set_cons_zero, List.set_cons_succ, wd_add_i, wd_add_s, wd_sub, wd_mul, wd_mod, wd_fdiv, wd_lt, wd_le, wd_gt, wd_ge, wd_eq_s, wd_ne_s, wd_eq_i, wd_ne_i, wd_isN, wd_abs, wd_int, wd_max2, wd_min2, wd_len_s, wd_list_s, wd_rev, truth_bl, wd_pow, List.set_cons_zero, List.set_cons_succ, s_for, i_seq, List.length_nil]
  have f0 : Fr S.n S (S.push (.lst [])) := Fr.push
  obtain ⟨src, s1, s2⟩ := src_items (hx _ f0)
  refine ⟨Nat.zero_le _, src, s1, ?_⟩
  refine loop_inv (P := fun i ρ S' => (∃ c3 c4, ρ = [some x, some y, some (.ref S.n), c3, c4]) ∧ Fr S.n S S' ∧ S.n < S'.n ∧ S'.get S.n = some (.lst (((rows.take i).map (pc ts)).map .str))) rows.length (by unfold far; omega) ?_ ?_ ?_
  · exact ⟨⟨none, none, rfl⟩, f0, Nat.lt_succ_self _, get_push_new⟩
  · rintro i ρ S2 hi ⟨⟨c3, c4, rfl⟩, g1, g0, g2⟩
    have hd := List.getElem?_eq_getElem hi
    have pd := hr _ (List.getElem_mem hi)
    have hy2 := hy S2 g1
    have fin : ∀ t : Tx, pc ts rows[i] = t → ∀ {o : MO}, o = .lst (((rows.take i).map (pc ts)).map .str ++ [.str t]) → Fr S.n S (S2.set S.n o) ∧ S.n < (S2.set S.n o).n ∧ (S2.set S.n o).get S.n = some (.lst (((rows.take (i + 1)).map (pc ts)).map .str)) := by
      intro t e o eo
      refine ⟨g1.new (Nat.le_refl _), g0, ?_⟩
      rw [get_set_same, eo, take_succ' hd, List.map_append, List.map_append]
      show _ = some (MO.lst (_ ++ [D.str (pc ts rows[i])]))
      rw [e]
    have cap1 : (((rows.take i).map (pc ts)).map D.str).length < cap := by
      rw [List.length_map, List.length_map, List.length_take]
      unfold cap
      omega
    refine ⟨rows[i], ?_⟩
    have hs : src.at S2 i = some (some rows[i]) := by rw [s2 S2 i (hx S2 g1), hd]
    cases q1 : rows[i] with
    | tup l =>
      rw [q1] at pd hs fin
      cases pd with
      | told t htt =>
        refine ⟨_, hs, rfl, ?_⟩
        simp only [e_lit, e_var, e_bin, e_cmp, t_ev, e_not, e_and, e_or, e_ite, a_nil, a_cons, e_tup, e_lst, e_idx, e_rev, e_prim, e_mth, e_call, b_nil, b_cons, s_set, s_asgI, s_expr, s_ret, s_ifs, s_skip, s_brk, s_cnt, List.getElem?_cons_zero, List.getElem?_cons_succ, List.set_cons_zero, List.set_cons_succ, wd_add_i, wd_add_s, wd_sub, wd_mul, wd_mod, wd_fdiv, wd_lt, wd_le, wd_gt, wd_ge, wd_eq_s, wd_ne_s, wd_eq_i, wd_ne_i, wd_isN, wd_abs, wd_int, wd_max2, wd_min2, wd_len_s, wd_list_s, wd_rev, truth_bl, wd_pow, List.set_cons_zero, List.set_cons_succ, recv_append g2, wd_append g2]
        refine ⟨fun _ => ⟨trivial, cap1, ⟨_, _, rfl⟩, fin t rfl rfl⟩, fun z => ?_⟩
        simp at z
      | box k hk =>
        refine ⟨_, hs, rfl, ?_⟩
        have a1 : atD (ts.map D.str) (k : Int) = some (.str (ts.getD k [])) := atD_nat (by rw [List.getElem?_map, List.getD_eq_getElem?_getD, List.getElem?_eq_getElem hk]; rfl)
        simp only [e_lit, e_var, e_bin, e_cmp, t_ev, e_not, e_and, e_or, e_ite, a_nil, a_cons, e_tup, e_lst, e_idx, e_rev, e_prim, e_mth, e_call, b_nil, b_cons, s_set, s_asgI, s_expr, s_ret, s_ifs, s_skip, s_brk, s_cnt, List.getElem?_cons_zero, List.getElem?_cons_succ, List.set_cons_zero, List.set_cons_succ, wd_add_i, wd_add_s, wd_sub, wd_mul, wd_mod, wd_fdiv, wd_lt, wd_le, wd_gt, wd_ge, wd_eq_s, wd_ne_s, wd_eq_i, wd_ne_i, wd_isN, wd_abs, wd_int, wd_max2, wd_min2, wd_len_s, wd_list_s, wd_rev, truth_bl, wd_pow, List.set_cons_zero, List.set_cons_succ, recv_append g2, wd_append g2, wd_idx hy2 a1]
        refine ⟨fun z => ?_, fun _ => ⟨trivial, fun _ => ⟨cap1, ⟨_, _, rfl⟩, fin _ rfl rfl⟩, fun z => ?_⟩⟩
        · simp at z
        · simp at z
      | turned k hk =>
        refine ⟨_, hs, rfl, ?_⟩
        have a1 : atD (ts.map D.str) (k : Int) = some (.str (ts.getD k [])) := atD_nat (by rw [List.getElem?_map, List.getD_eq_getElem?_getD, List.getElem?_eq_getElem hk]; rfl)
        simp only [e_lit, e_var, e_bin, e_cmp, t_ev, e_not, e_and, e_or, e_ite, a_nil, a_cons, e_tup, e_lst, e_idx, e_rev, e_prim, e_mth, e_call, b_nil, b_cons, s_set, s_asgI, s_expr, s_ret, s_ifs, s_skip, s_brk, s_cnt, List.getElem?_cons_zero, List.getElem?_cons_succ, List.set_cons_zero, List.set_cons_succ, wd_add_i, wd_add_s, wd_sub, wd_mul, wd_mod, wd_fdiv, wd_lt, wd_le, wd_gt, wd_ge, wd_eq_s, wd_ne_s, wd_eq_i, wd_ne_i, wd_isN, wd_abs, wd_int, wd_max2, wd_min2, wd_len_s, wd_list_s, wd_rev, truth_bl, wd_pow, List.set_cons_zero, List.set_cons_succ, recv_append g2, wd_append g2, wd_idx hy2 a1]
        refine ⟨fun z => ?_, fun _ => ⟨trivial, fun z => ?_, fun _ => ⟨?_, cap1, ⟨_, _, rfl⟩, fin _ rfl rfl⟩⟩⟩
        · simp at z
        · simp at z
        · have := (getD_lim ht k).1
          unfold cap
          omega
    | _ => rw [q1] at pd; cases pd
  · rintro ρ S2 ⟨⟨c3, c4, rfl⟩, g1, g0, g2⟩
    refine ⟨by rw [s2 S2 _ (hx S2 g1), List.getElem?_eq_none (Nat.le_refl _)], ?_⟩
    rw [List.take_length] at g2
    simp only [e_lit, e_var, e_bin, e_cmp, t_ev, e_not, e_and, e_or, e_ite, a_nil, a_cons, e_tup, e_lst, e_idx, e_rev, e_prim, e_mth, e_call, b_nil, b_cons, s_set, s_asgI, s_expr, s_ret, s_ifs, s_skip, s_brk, s_cnt, List.getElem?_cons_zero, List.getElem?_cons_succ, List.set_cons_zero, List.set_cons_succ, wd_add_i, wd_add_s, wd_sub, wd_mul, wd_mod, wd_fdiv, wd_lt, wd_le, wd_gt, wd_ge, wd_eq_s, wd_ne_s, wd_eq_i, wd_ne_i, wd_isN, wd_abs, wd_int, wd_max2, wd_min2, wd_len_s, wd_list_s, wd_rev, truth_bl, wd_pow, List.set_cons_zero, List.set_cons_succ, wd_join0 (items_lst g2)]
    refine ⟨rfl, ?_, q _ g1⟩
    have := (rowT_lim ht hr).1
    unfold rowT at this
    unfold cap
    omega
theorem closed_spec {x y : D} {ts : List Tx} {rows : List D} (hn : 20 ≤ n) (hx : Has S.n S x rows) (hy : Has S.n S y (ts.map .str)) (hr : ∀ d ∈ rows, Pt ts.length d) (ht : ∀ t ∈ ts, lim t) (hl : rows.length ≤ 1000)
    (q : Q (.str (rowT ts rows)) S) : WF n d_law_closed [x, y] S Q X := by
  obtain ⟨n, rfl⟩ := Nat.exists_eq_add_of_le' hn
  unfold d_law_closed
  refine f_mk [some x, some y, none, none, none] rfl rfl ?_
  simp only [e_lit, e_var, e_bin, e_cmp, t_ev, e_not, e_and, e_or, e_ite, a_nil, a_cons, e_tup, e_lst, e_idx, e_rev, e_prim, e_mth, e_call, b_nil, b_cons, s_set, s_asgI, s_expr, s_ret, s_ifs, s_skip, s_brk, s_cnt, List.getElem?_cons_zero, List.getElem?_cons_succ, List.set_cons_zero, List.set_cons_succ, wd_add_i, wd_add_s, wd_sub, wd_mul, wd_mod, wd_fdiv, wd_lt, wd_le, wd_gt, wd_ge, wd_eq_s, wd_ne_s, wd_eq_i, wd_ne_i, wd_isN, wd_abs, wd_int, wd_max2, wd_min2, wd_len_s, wd_list_s, wd_rev, truth_bl, wd_pow, List.set_cons_zero, List.set_cons_succ, s_for, i_seq, List.length_nil, hx.isNon]
  obtain ⟨src, s1, s2⟩ := src_items hx.now
  refine ⟨fun z => (nomatch z), fun _ => ⟨src, s1, ?_⟩⟩
  refine loop_inv (P := fun i ρ S' => (∃ c3 c4, ρ = [some x, some y, some (.str (rowT ts (rows.take i))), c3, c4]) ∧ S' = S) rows.length (by unfold far; omega) ?_ ?_ ?_
  · exact ⟨⟨none, none, rfl⟩, rfl⟩
  · rintro i ρ S2 hi ⟨⟨c3, c4, rfl⟩, rfl⟩
    have hd := List.getElem?_eq_getElem hi
    have pd := hr _ (List.getElem_mem hi)
    have hy2 := hy.now
    have len : (rowT ts (rows.take i)).length ≤ 10000 := by
      have := (rowT_lim (rows := rows.take i) ht fun d hd => hr d (List.mem_of_mem_take hd)).1
      rw [List.length_take] at this
      omega
    have fin : ∀ t : Tx, pc ts rows[i] = t → rowT ts (rows.take i) ++ t = rowT ts (rows.take (i + 1)) := by
      intro t e
      rw [take_succ' hd, rowT_snoc, e]
    refine ⟨rows[i], ?_⟩
    have hs : src.at S2 i = some (some rows[i]) := by rw [s2 S2 i hx.now, hd]
    cases q1 : rows[i] with
    | tup l =>
      rw [q1] at pd hs fin
      cases pd with
      | told t htt =>
        refine ⟨_, hs, rfl, ?_⟩
        simp only [e_lit, e_var, e_bin, e_cmp, t_ev, e_not, e_and, e_or, e_ite, a_nil, a_cons, e_tup, e_lst, e_idx, e_rev, e_prim, e_mth, e_call, b_nil, b_cons, s_set, s_asgI, s_expr, s_ret, s_ifs, s_skip, s_brk, s_cnt, List.getElem?_cons_zero, List.getElem?_cons_succ, List.set_cons_zero, List.set_cons_succ, wd_add_i, wd_add_s, wd_sub, wd_mul, wd_mod, wd_fdiv, wd_lt, wd_le, wd_gt, wd_ge, wd_eq_s, wd_ne_s, wd_eq_i, wd_ne_i, wd_isN, wd_abs, wd_int, wd_max2, wd_min2, wd_len_s, wd_list_s, wd_rev, truth_bl, wd_pow, List.set_cons_zero, List.set_cons_succ]
        refine ⟨fun _ => ⟨by have := htt.1; unfold cap; omega, ⟨_, _, by rw [fin t rfl]⟩, trivial⟩, fun z => ?_⟩
        simp at z
      | box k hk =>
        refine ⟨_, hs, rfl, ?_⟩
        have a1 : atD (ts.map D.str) (k : Int) = some (.str (ts.getD k [])) := atD_nat (by rw [List.getElem?_map, List.getD_eq_getElem?_getD, List.getElem?_eq_getElem hk]; rfl)
        simp only [e_lit, e_var, e_bin, e_cmp, t_ev, e_not, e_and, e_or, e_ite, a_nil, a_cons, e_tup, e_lst, e_idx, e_rev, e_prim, e_mth, e_call, b_nil, b_cons, s_set, s_asgI, s_expr, s_ret, s_ifs, s_skip, s_brk, s_cnt, List.getElem?_cons_zero, List.getElem?_cons_succ, List.set_cons_zero, List.set_cons_succ, wd_add_i, wd_add_s, wd_sub, wd_mul, wd_mod, wd_fdiv, wd_lt, wd_le, wd_gt, wd_ge, wd_eq_s, wd_ne_s, wd_eq_i, wd_ne_i, wd_isN, wd_abs, wd_int, wd_max2, wd_min2, wd_len_s, wd_list_s, wd_rev, truth_bl, wd_pow, List.set_cons_zero, List.set_cons_succ, wd_idx hy2 a1]
        refine ⟨fun z => ?_, fun _ => ⟨fun _ => ⟨?_, ⟨_, _, by rw [fin (ts.getD k []) rfl]⟩, trivial⟩, fun z => ?_⟩⟩
        · simp at z
        · have := (getD_lim ht k).1
          unfold cap
          omega
        · simp at z
      | turned k hk =>
        refine ⟨_, hs, rfl, ?_⟩
        have a1 : atD (ts.map D.str) (k : Int) = some (.str (ts.getD k [])) := atD_nat (by rw [List.getElem?_map, List.getD_eq_getElem?_getD, List.getElem?_eq_getElem hk]; rfl)
        simp only [e_lit, e_var, e_bin, e_cmp, t_ev, e_not, e_and, e_or, e_ite, a_nil, a_cons, e_tup, e_lst, e_idx, e_rev, e_prim, e_mth, e_call, b_nil, b_cons, s_set, s_asgI, s_expr, s_ret, s_ifs, s_skip, s_brk, s_cnt, List.getElem?_cons_zero, List.getElem?_cons_succ, List.set_cons_zero, List.set_cons_succ, wd_add_i, wd_add_s, wd_sub, wd_mul, wd_mod, wd_fdiv, wd_lt, wd_le, wd_gt, wd_ge, wd_eq_s, wd_ne_s, wd_eq_i, wd_ne_i, wd_isN, wd_abs, wd_int, wd_max2, wd_min2, wd_len_s, wd_list_s, wd_rev, truth_bl, wd_pow, List.set_cons_zero, List.set_cons_succ, wd_idx hy2 a1]
        have lk := (getD_lim ht k).1
        refine ⟨fun z => ?_, fun _ => ⟨fun z => ?_, fun _ => ⟨by unfold cap; omega, ?_, ⟨_, _, by rw [fin (ts.getD k []).reverse rfl]⟩, trivial⟩⟩⟩
        · simp at z
        · simp at z
        · rw [List.length_reverse]
          unfold cap
          omega
    | _ => rw [q1] at pd; cases pd
  · rintro ρ S2 ⟨⟨c3, c4, rfl⟩, rfl⟩
    refine ⟨by rw [s2 S2 _ hx.now, List.getElem?_eq_none (Nat.le_refl _)], ?_⟩
    rw [List.take_length]
    simp only [e_lit, e_var, e_bin, e_cmp, t_ev, e_not, e_and, e_or, e_ite, a_nil, a_cons, e_tup, e_lst, e_idx, e_rev, e_prim, e_mth, e_call, b_nil, b_cons, s_set, s_asgI, s_expr, s_ret, s_ifs, s_skip, s_brk, s_cnt, List.getElem?_cons_zero, List.getElem?_cons_succ, List.set_cons_zero, List.set_cons_succ, wd_add_i, wd_add_s, wd_sub, wd_mul, wd_mod, wd_fdiv, wd_lt, wd_le, wd_gt, wd_ge, wd_eq_s, wd_ne_s, wd_eq_i, wd_ne_i, wd_isN, wd_abs, wd_int, wd_max2, wd_min2, wd_len_s, wd_list_s, wd_rev, truth_bl, wd_pow, List.set_cons_zero, List.set_cons_succ]
    exact q
end DiG
end

section
set_option Elab.async false
set_option linter.all false
set_option maxRecDepth 100000
set_option maxHeartbeats 1000000
namespace DiG
open Di
open PySem (PyData)
variable {n : Nat} {S : Sto} {b : Nat} {Q X : D → Sto → Prop}
theorem reprD_ok {t : Tx} (h : t.length ≤ 11000) (hc : ∀ c ∈ t, c < 1000) : ∃ u, reprD (.str t) = some u := by
  have e : PyData.shown (.str ⟨t.toArray⟩) = PySem.reprText ⟨t.toArray⟩ := by simp only [PyData.shown]
  have l := PySem.StrLaws.reprText_len ⟨t.toArray⟩ fun c h => by
    have := hc c (by simpa using h)
    omega
  have l2 : (PySem.reprText ⟨t.toArray⟩).cps.size ≤ 10 * t.length + 2 := by simpa [PySem.Str.length] using l
  show ∃ u, (match (PyData.str ⟨t.toArray⟩).shown with
    | ⟨a⟩ => cond (Nat.ble a.size cap) (some a.toList) none) = some u
  rw [e]
  cases q : PySem.reprText ⟨t.toArray⟩ with
  | mk a =>
    rw [q] at l2
    refine ⟨a.toList, ?_⟩
    show cond (Nat.ble a.size cap) (some a.toList) none = _
    rw [show Nat.ble a.size cap = true from Nat.ble_eq_true_of_le (by unfold cap; exact Nat.le_trans l2 (by omega))]
    rfl
theorem wd_repr {t u : Tx} (h : reprD (.str t) = some u) : Wd (prim .repr [.str t] S) Q ↔ Q (.str u) S := by
  show Wd (match reprD (.str t) with
    | some s => some (.str s, S)
    | none => none) Q ↔ _
  rw [h]
  exact Iff.rfl
/-! ### equal data -/
theorem allO_map {α β : Type} {f : α → Option β} {g : α → β} : ∀ {xs : List α}, (∀ x ∈ xs, f x = some (g x)) → allO f xs = some (xs.map g)
  | [], _ => rfl
  | x :: xs, h => by
    unfold allO
    rw [h x (List.mem_cons_self ..), allO_map fun y hy => h y (List.mem_cons_of_mem _ hy)]
    rfl
theorem eqD_same {x y : D} {pd : PyData} (hn : scalEq x y = none) (hx : toPD S 12 x = some pd) (hy : toPD S 12 y = some pd) (hs : pd.canLay0 = true) (hd : pd.depth ≤ 64) : eqD S x y = some true := by
  unfold eqD
  rw [hn]
  show dataEq S x y = some true
  unfold dataEq
  rw [hx, hy]
  show cond (PySem.SeqAt.shaped pd && PySem.SeqAt.shaped pd) (some (PyData.eqv pd pd)) none = _
  have e : PySem.SeqAt.shaped pd = true := by
    unfold PySem.SeqAt.shaped
    rw [hs, decide_eq_true hd]
    rfl
  rw [e, PySem.SeqAt.eqv_refl pd hs]
  rfl
theorem toPD_str {k : Nat} {t : Tx} : toPD S (k + 1) (.str t) = some (.str ⟨t.toArray⟩) := rfl
theorem toPD_int {k : Nat} {i : Int} : toPD S (k + 1) (.int i) = some (.int i) := rfl
theorem toPD_lst {k i : Nat} {xs : List D} {ys : List PyData} (h : S.get i = some (.lst xs)) (h2 : allO (toPD S k) xs = some ys) : toPD S (k + 1) (.ref i) = some (.list ys) := by
  show (match S.get i with
      | some (.lst xs) => (match allO (toPD S k) xs with
        | some ys => some (PyData.list ys)
        | none => none)
      | some (.rol xs) => (match allO (toPD S k) xs with
        | some ys => some (PyData.list ys)
        | none => none)
      | _ => none) = _
  rw [h]
  show (match allO (toPD S k) xs with
        | some ys => some (PyData.list ys)
        | none => none) = _
  rw [h2]
theorem toPD_tup {k : Nat} {xs : List D} {ys : List PyData} (h2 : allO (toPD S k) xs = some ys) : toPD S (k + 1) (.tup xs) = some (.tuple ys) := by
  show (match allO (toPD S k) xs with
      | some ys => some (PyData.tuple ys)
      | none => none) = _
  rw [h2]
def pdT (t : Tx) : PyData := .str ⟨t.toArray⟩
def pdP : D → PyData
  | .tup [.str s, .str t] => .tuple [pdT s, pdT t]
  | .tup [.str s, .int k] => .tuple [pdT s, .int k]
  | _ => .none
theorem canT {t : Tx} (h : ∀ c ∈ t, c < 1000) : (pdT t).canLay0 = true := by
  unfold pdT
  simp only [PyData.canLay0, PyData.strOk]
  rw [Array.all_eq_true']
  intro c hc
  have := h c (by simpa using hc)
  simp
  omega
theorem pt_pd {m k : Nat} {d : D} (p : Pt m d) : toPD S (k + 2) d = some (pdP d) := by cases p <;> rfl
theorem pt_can {m : Nat} {d : D} (p : Pt m d) : (pdP d).canLay0 = true := by
  have a1 : (pdT sTold).canLay0 = true := canT (by decide)
  have a2 : (pdT sBox).canLay0 = true := canT (by decide)
  have a3 : (pdT sTurned).canLay0 = true := canT (by decide)
  cases p with
  | told t ht =>
    show (PyData.tuple [pdT sTold, pdT t]).canLay0 = true
    simp only [PyData.canLay0, PyData.canLayAll0, a1, canT ht.2, Bool.and_true]
  | box k hk =>
    show (PyData.tuple [pdT sBox, .int k]).canLay0 = true
    simp only [PyData.canLay0, PyData.canLayAll0, a2, Bool.and_true]
  | turned k hk =>
    show (PyData.tuple [pdT sTurned, .int k]).canLay0 = true
    simp only [PyData.canLay0, PyData.canLayAll0, a3, Bool.and_true]
theorem pt_depth {m : Nat} {d : D} (p : Pt m d) : (pdP d).depth ≤ 1 := by
  cases p <;> simp [pdP, pdT, PyData.depth, PyData.depthAll]
theorem canAll {α : Type} {g : α → PyData} : ∀ {xs : List α}, (∀ x ∈ xs, (g x).canLay0 = true) → PyData.canLayAll0 (xs.map g) = true
  | [], _ => by simp only [List.map_nil, PyData.canLayAll0]
  | x :: xs, h => by
    rw [List.map_cons, PyData.canLayAll0, h x (List.mem_cons_self ..), canAll fun y hy => h y (List.mem_cons_of_mem _ hy)]
    rfl
theorem depthAll_le {α : Type} {g : α → PyData} {k : Nat} : ∀ {xs : List α}, (∀ x ∈ xs, (g x).depth ≤ k) → PyData.depthAll (xs.map g) ≤ k
  | [], _ => by simp only [List.map_nil, PyData.depthAll]; omega
  | x :: xs, h => by
    rw [List.map_cons, PyData.depthAll]
    have h1 := h x (List.mem_cons_self ..)
    have h2 := depthAll_le (g := g) fun y hy => h y (List.mem_cons_of_mem _ hy)
    omega
theorem had_same {m r c r2 c2 : Nat} {rows : List D} {ts : List Tx} (hr : S.get r = some (.lst rows)) (hc : S.get c = some (.lst (ts.map .str))) (hr2 : S.get r2 = some (.lst rows)) (hc2 : S.get c2 = some (.lst (ts.map .str)))
    (hp : ∀ d ∈ rows, Pt m d) (ht : ∀ t ∈ ts, lim t) : eqD S (.tup [.ref r, .ref c]) (.tup [.ref r2, .ref c2]) = some true := by
  have a1 : ∀ k, allO (toPD S (k + 2)) rows = some (rows.map pdP) := fun k => allO_map fun d hd => pt_pd (hp d hd)
  have a2 : ∀ k, allO (toPD S (k + 2)) (ts.map .str) = some ((ts.map D.str).map fun d => match d with
    | .str t => pdT t
    | _ => .none) := fun k => allO_map fun d hd => by
      obtain ⟨t, _, rfl⟩ := List.mem_map.mp hd
      rfl
  have b : ∀ i j, S.get i = some (.lst rows) → S.get j = some (.lst (ts.map .str)) → toPD S 12 (.tup [.ref i, .ref j]) = some (.tuple [.list (rows.map pdP), .list ((ts.map D.str).map fun d => match d with
    | .str t => pdT t
    | _ => .none)]) := fun i j hi hj => toPD_tup (k := 11) (by
      simp only [allO, toPD_lst (k := 10) hi (a1 8), toPD_lst (k := 10) hj (a2 8)])
  refine eqD_same rfl (b r c hr hc) (b r2 c2 hr2 hc2) ?_ ?_
  · simp only [PyData.canLay0, PyData.canLayAll0, Bool.and_true, Bool.and_eq_true]
    refine ⟨canAll fun d hd => pt_can (hp d hd), canAll fun d hd => ?_⟩
    obtain ⟨t, h1, rfl⟩ := List.mem_map.mp hd
    exact canT (ht t h1).2
  · simp only [PyData.depth, PyData.depthAll]
    have d1 : PyData.depthAll (rows.map pdP) ≤ 1 := depthAll_le fun d hd => pt_depth (hp d hd)
    have d2 : PyData.depthAll ((ts.map D.str).map fun d => match d with
      | .str t => pdT t
      | _ => .none) ≤ 1 := depthAll_le fun d hd => by
        obtain ⟨t, h1, rfl⟩ := List.mem_map.mp hd
        simp only [pdT, PyData.depth]
        omega
    omega
theorem cap2 {x y : D} : [x, y].length ≤ cap := by
  show 2 ≤ cap
  decide
/-- a turn's state -/
structure St (ns : List Int) (b : Nat) (S : Sto) : Prop where
  scr : S.get 0 = some (.rol (ns.map .int))
  pos : 0 < b
  bx : Bx S b
theorem St.fr {ns : List Int} {S' : Sto} (h : St ns b S) (f : Fr b S S') (hb : Bx S' b) : St ns b S' := ⟨by rw [f.old 0 (Nat.lt_trans h.pos h.bx.1) (Nat.ne_of_lt h.pos)]; exact h.scr, h.pos, hb⟩
theorem bx_set {i : Nat} {o : MO} (h : Bx S b) (hi : b ≠ i) : Bx (S.set i o) b := by
  obtain ⟨hb, x, y, hx⟩ := h
  exact ⟨hb, x, y, by rw [get_set_ne hi]; exact hx⟩
theorem of_lim {marks t : Tx} {m : Nat} (hm : m ≤ 10) (hc : ∀ c ∈ marks, c < 1000) (h : Of marks m t) : lim t := ⟨Nat.le_trans h.1 hm, fun c z => hc c (h.2 c z)⟩
abbrev xCells : Ex := .comp [10] (.name 10) (.rng1 (.bin .add (.lit (.int 1)) (.call d_law_choose [.var 2, .lit (.int 2)]))) [] (.call d_law_told [.var 2, .lit (.str [97, 98, 99]), .lit (.int 6)])
theorem cells_spec {c0 c1 c3 c4 c5 c6 c7 c8 c9 c10 c11 : Option D} (hn : 60 ≤ n) (h : Bx S b)
    (q : ∀ (c : Nat) (ts : List Tx) S', S'.get c = some (.lst (ts.map .str)) → c < S'.n → c ≠ b → 0 < ts.length → ts.length ≤ 2 → (∀ t ∈ ts, lim t) → Bx S' b → Fr b S S' → Q (.ref c) S') :
    WE n xCells [c0, c1, some (.ref b), c3, c4, c5, c6, c7, c8, c9, c10, c11] S Q X := by
  obtain ⟨n, rfl⟩ := Nat.exists_eq_add_of_le' hn
  simp only [xCells, e_comp, i_rng, e_lit, e_var, e_bin, e_cmp, t_ev, e_not, e_and, e_or, e_ite, a_nil, a_cons, e_tup, e_lst, e_idx, e_rev, e_prim, e_mth, e_call, b_nil, b_cons, s_set, s_asgI, s_expr, s_ret, s_ifs, s_skip, s_brk, s_cnt, List.getElem?_cons_zero, List.getElem?_cons_succ, List.set_cons_zero, List.set_cons_succ, wd_add_i, wd_add_s, wd_sub, wd_mul, wd_mod, wd_fdiv, wd_lt, wd_le, wd_gt, wd_ge, wd_eq_s, wd_ne_s, wd_eq_i, wd_ne_i, wd_isN, wd_abs, wd_int, wd_max2, wd_min2, wd_len_s, wd_list_s, wd_rev, truth_bl, wd_pow, List.set_cons_zero, List.set_cons_succ]
  refine choose_spec (by omega) h (by omega) (by omega) fun d S1 h1 h2 h3 h4 => ⟨⟨by omega, by omega⟩, ?_⟩
  obtain ⟨k, rfl⟩ := Int.eq_ofNat_of_zero_le h1
  have ek : (1 + (k : Int)).toNat = k + 1 := by omega
  rw [ek]
  have hk : k < 2 := by omega
  refine comp_inv (P := fun i S' => Bx S' b ∧ Fr b S S' ∧ S1.n < S'.n ∧ ∃ ts : List Tx, S'.get S1.n = some (.lst (ts.map .str)) ∧ ts.length = i ∧ ∀ t ∈ ts, lim t) (k + 1) (by unfold far; omega) ?_ ?_ ?_
  · exact ⟨bx_push h3, h4.trans Fr.push, Nat.lt_succ_self _, [], get_push_new, rfl, fun t ht => nomatch ht⟩
  · rintro i S2 hi ⟨g1, g2, g3, ts, g4, g5, g6⟩
    refine ⟨_, _, at_rng hi, rfl, ?_⟩
    rw [ts_nil]
    refine ⟨fun _ => ?_, fun z => nomatch z⟩
    simp only [wipe, bindT, e_lit, e_var, e_bin, e_cmp, t_ev, e_not, e_and, e_or, e_ite, a_nil, a_cons, e_tup, e_lst, e_idx, e_rev, e_prim, e_mth, e_call, b_nil, b_cons, s_set, s_asgI, s_expr, s_ret, s_ifs, s_skip, s_brk, s_cnt, List.getElem?_cons_zero, List.getElem?_cons_succ, List.set_cons_zero, List.set_cons_succ, wd_add_i, wd_add_s, wd_sub, wd_mul, wd_mod, wd_fdiv, wd_lt, wd_le, wd_gt, wd_ge, wd_eq_s, wd_ne_s, wd_eq_i, wd_ne_i, wd_isN, wd_abs, wd_int, wd_max2, wd_min2, wd_len_s, wd_list_s, wd_rev, truth_bl, wd_pow, List.set_cons_zero, List.set_cons_succ]
    refine told_spec (most := 6) (by omega) g1 (by decide) (by decide) (by decide) fun t S3 k1 k2 k3 => ?_
    have gs : S3.get S1.n = some (.lst (ts.map .str)) := by
      rw [k3.old S1.n g3 (Nat.ne_of_gt h3.1)]
      exact g4
    refine ⟨ts.map .str, gs, by rw [List.length_map, g5]; unfold cap; omega, bx_set k2 (Nat.ne_of_lt h3.1), (g2.trans k3).new h4.le, Nat.lt_of_lt_of_le g3 k3.le, ts ++ [t], by rw [get_set_same, List.map_append]; rfl, by rw [List.length_append, g5]; rfl, fun u hu => ?_⟩
    rcases List.mem_append.mp hu with z | z
    · exact g6 u z
    · rw [List.mem_singleton.mp z]
      exact of_lim (by decide) (by decide) k1
  · rintro S2 ⟨g1, g2, g3, ts, g4, g5, g6⟩
    exact ⟨end_rng, q _ ts S2 g4 g3 (Nat.ne_of_gt h3.1) (by omega) (by omega) g6 g1 g2⟩
abbrev sRow : Sx := .forI (.name 6) (.rng1 (.call d_law_choose [.var 2, .lit (.int 5)])) [.asg (.name 7) (.call d_law_one_of [.var 2, .lst [.lit (.str [98, 111, 120]), .lit (.str [116, 117, 114, 110, 101, 100]), .lit (.str [116, 111, 108, 100])]]),
  .expr (.mth .append (.var 5) [.tup [.var 7, .ite (.cmp .eq (.var 7) (.lit (.str [116, 111, 108, 100]))) (.bin .add (.call d_law_told [.var 2, .lit (.str [97, 98, 99]), .lit (.int 2)]) (.lit (.str [97]))) (.call d_law_choose [.var 2, .prim .len [.var 4]])]])]
/-- old objects stay, but those at b and r -/
def Fr2 (b r : Nat) (S S' : Sto) : Prop := S.n ≤ S'.n ∧ ∀ j, j < S.n → j ≠ b → j ≠ r → S'.get j = S.get j
theorem Fr2.fr {b r : Nat} {S S1 S2 : Sto} (h : Fr2 b r S S1) (f : Fr b S1 S2) : Fr2 b r S S2 := ⟨Nat.le_trans h.1 f.le, fun j hj h1 h2 => (f.old j (Nat.lt_of_lt_of_le hj h.1) h1).trans (h.2 j hj h1 h2)⟩
theorem Fr2.set {b r : Nat} {S S1 : Sto} {o : MO} (h : Fr2 b r S S1) : Fr2 b r S (S1.set r o) := ⟨h.1, fun j hj h1 h2 => by rw [get_set_ne h2]; exact h.2 j hj h1 h2⟩
theorem row_loop {c0 c1 c3 c6 c7 c8 c9 c10 c11 : Option D} {c r : Nat} {ts : List Tx} {Dd : Dn} (hn : 60 ≤ n) (h : Bx S b) (hc : S.get c = some (.lst (ts.map .str))) (hr : S.get r = some (.lst [])) (c1' : c < S.n) (r1 : r < S.n) (cb : c ≠ b) (rb : r ≠ b) (cr : c ≠ r)
    (h1 : 0 < ts.length) (h2 : ts.length ≤ 2)
    (q : ∀ (c6 c7 : Option D) (rows : List D) S', S'.get r = some (.lst rows) → rows.length ≤ 5 → (∀ d ∈ rows, Pt ts.length d) → Bx S' b → Fr2 b r S S' → Dd.nx [c0, c1, some (.ref b), c3, some (.ref c), some (.ref r), c6, c7, c8, c9, c10, c11] S')
    (hx : Dd.ex = fun _ _ _ => False) : WS n sRow [c0, c1, some (.ref b), c3, some (.ref c), some (.ref r), c6, c7, c8, c9, c10, c11] S Dd := by
  obtain ⟨n, rfl⟩ := Nat.exists_eq_add_of_le' hn
  simp only [sRow, s_for, i_rng, e_lit, e_var, e_bin, e_cmp, t_ev, e_not, e_and, e_or, e_ite, a_nil, a_cons, e_tup, e_lst, e_idx, e_rev, e_prim, e_mth, e_call, b_nil, b_cons, s_set, s_asgI, s_expr, s_ret, s_ifs, s_skip, s_brk, s_cnt, List.getElem?_cons_zero, List.getElem?_cons_succ, List.set_cons_zero, List.set_cons_succ, wd_add_i, wd_add_s, wd_sub, wd_mul, wd_mod, wd_fdiv, wd_lt, wd_le, wd_gt, wd_ge, wd_eq_s, wd_ne_s, wd_eq_i, wd_ne_i, wd_isN, wd_abs, wd_int, wd_max2, wd_min2, wd_len_s, wd_list_s, wd_rev, truth_bl, wd_pow, List.set_cons_zero, List.set_cons_succ]
  refine choose_spec (by omega) h (by omega) (by omega) fun d S1 g1 g2 g3 g4 => ⟨⟨by omega, by omega⟩, ?_⟩
  obtain ⟨k, rfl⟩ := Int.eq_ofNat_of_zero_le g1
  have ek : ((k : Int)).toNat = k := by omega
  rw [ek]
  refine loop_inv (P := fun i ρ S' => (∃ c6 c7, ρ = [c0, c1, some (.ref b), c3, some (.ref c), some (.ref r), c6, c7, c8, c9, c10, c11]) ∧ Bx S' b ∧ Fr2 b r S S' ∧ ∃ rows, S'.get r = some (.lst rows) ∧ rows.length = i ∧ ∀ d ∈ rows, Pt ts.length d) k (by unfold far; omega) ?_ ?_ ?_
  · exact ⟨⟨_, _, rfl⟩, g3, ⟨g4.le, fun j hj h1 h2 => g4.old j hj h1⟩, [], by rw [g4.old r r1 rb]; exact hr, rfl, fun d hd => nomatch hd⟩
  · rintro i ρ S2 hi ⟨⟨c6, c7, rfl⟩, f1, f2, rows, f3, f4, f5⟩
    refine ⟨_, _, at_rng hi, rfl, ?_⟩
    simp only [e_lit, e_var, e_bin, e_cmp, t_ev, e_not, e_and, e_or, e_ite, a_nil, a_cons, e_tup, e_lst, e_idx, e_rev, e_prim, e_mth, e_call, b_nil, b_cons, s_set, s_asgI, s_expr, s_ret, s_ifs, s_skip, s_brk, s_cnt, List.getElem?_cons_zero, List.getElem?_cons_succ, List.set_cons_zero, List.set_cons_succ, wd_add_i, wd_add_s, wd_sub, wd_mul, wd_mod, wd_fdiv, wd_lt, wd_le, wd_gt, wd_ge, wd_eq_s, wd_ne_s, wd_eq_i, wd_ne_i, wd_isN, wd_abs, wd_int, wd_max2, wd_min2, wd_len_s, wd_list_s, wd_rev, truth_bl, wd_pow, List.set_cons_zero, List.set_cons_succ]
    refine ⟨by decide, one_of_spec (by omega) (bx_push f1) (Has.lst get_push_new (Nat.lt_succ_self _) (Nat.ne_of_gt f1.1)) (by simp) (by decide) fun d S3 k1 k2 k3 => ?_⟩
    have k3' : Fr b S2 S3 := Fr.push.trans k3
    have f2' := f2.fr k3'
    have r2 : r < S2.n := Nat.lt_of_lt_of_le r1 f2.1
    have r3 : S3.get r = some (.lst rows) := by rw [k3'.old r r2 rb]; exact f3
    have c3' : S3.get c = some (.lst (ts.map .str)) := by rw [f2'.2 c c1' cb cr]; exact hc
    have fin : ∀ (S4 : Sto) (x : D), Bx S4 b → Fr b S3 S4 → Pt ts.length x → S4.get r = some (.lst rows) ∧ rows.length < cap ∧ Bx (S4.set r (.lst (rows ++ [x]))) b ∧ Fr2 b r S (S4.set r (.lst (rows ++ [x]))) ∧ ∃ rows', (S4.set r (.lst (rows ++ [x]))).get r = some (.lst rows') ∧ rows'.length = i + 1 ∧ ∀ d ∈ rows', Pt ts.length d := by
      intro S4 x b4 f4' px
      refine ⟨by rw [f4'.old r (Nat.lt_of_lt_of_le r2 k3'.le) rb]; exact r3, by rw [f4]; unfold cap; omega, bx_set b4 (Ne.symm rb), (f2'.fr f4').set, rows ++ [x], get_set_same, by rw [List.length_append, f4]; rfl, fun d hd => ?_⟩
      rcases List.mem_append.mp hd with z | z
      · exact f5 d z
      · rw [List.mem_singleton.mp z]
        exact px
    have ix := items_lst c3'
    have hlen : ((ts.map D.str).length : Int) = (ts.length : Int) := by rw [List.length_map]
    simp only [List.mem_cons, List.not_mem_nil, or_false] at k1
    rcases k1 with rfl | rfl | rfl
    · simp only [e_lit, e_var, e_bin, e_cmp, t_ev, e_not, e_and, e_or, e_ite, a_nil, a_cons, e_tup, e_lst, e_idx, e_rev, e_prim, e_mth, e_call, b_nil, b_cons, s_set, s_asgI, s_expr, s_ret, s_ifs, s_skip, s_brk, s_cnt, List.getElem?_cons_zero, List.getElem?_cons_succ, List.set_cons_zero, List.set_cons_succ, wd_add_i, wd_add_s, wd_sub, wd_mul, wd_mod, wd_fdiv, wd_lt, wd_le, wd_gt, wd_ge, wd_eq_s, wd_ne_s, wd_eq_i, wd_ne_i, wd_isN, wd_abs, wd_int, wd_max2, wd_min2, wd_len_s, wd_list_s, wd_rev, truth_bl, wd_pow, List.set_cons_zero, List.set_cons_succ, recv_append r3, wd_len ix, hlen]
      refine ⟨trivial, fun z => ?_, fun _ => ?_⟩
      · simp at z
      · refine choose_spec (by omega) k2 (by omega) (by omega) fun e S4 e1 e2 e3 e4 => ?_
        obtain ⟨j, rfl⟩ := Int.eq_ofNat_of_zero_le e1
        obtain ⟨w1, w2, w3, w4, w5⟩ := fin S4 _ e3 e4 (.box j (by omega))
        rw [wd_append w1]
        exact ⟨cap2, w2, ⟨_, _, rfl⟩, w3, w4, w5⟩
    · simp only [e_lit, e_var, e_bin, e_cmp, t_ev, e_not, e_and, e_or, e_ite, a_nil, a_cons, e_tup, e_lst, e_idx, e_rev, e_prim, e_mth, e_call, b_nil, b_cons, s_set, s_asgI, s_expr, s_ret, s_ifs, s_skip, s_brk, s_cnt, List.getElem?_cons_zero, List.getElem?_cons_succ, List.set_cons_zero, List.set_cons_succ, wd_add_i, wd_add_s, wd_sub, wd_mul, wd_mod, wd_fdiv, wd_lt, wd_le, wd_gt, wd_ge, wd_eq_s, wd_ne_s, wd_eq_i, wd_ne_i, wd_isN, wd_abs, wd_int, wd_max2, wd_min2, wd_len_s, wd_list_s, wd_rev, truth_bl, wd_pow, List.set_cons_zero, List.set_cons_succ, recv_append r3, wd_len ix, hlen]
      refine ⟨trivial, fun z => ?_, fun _ => ?_⟩
      · simp at z
      · refine choose_spec (by omega) k2 (by omega) (by omega) fun e S4 e1 e2 e3 e4 => ?_
        obtain ⟨j, rfl⟩ := Int.eq_ofNat_of_zero_le e1
        obtain ⟨w1, w2, w3, w4, w5⟩ := fin S4 _ e3 e4 (.turned j (by omega))
        rw [wd_append w1]
        exact ⟨cap2, w2, ⟨_, _, rfl⟩, w3, w4, w5⟩
    · simp only [e_lit, e_var, e_bin, e_cmp, t_ev, e_not, e_and, e_or, e_ite, a_nil, a_cons, e_tup, e_lst, e_idx, e_rev, e_prim, e_mth, e_call, b_nil, b_cons, s_set, s_asgI, s_expr, s_ret, s_ifs, s_skip, s_brk, s_cnt, List.getElem?_cons_zero, List.getElem?_cons_succ, List.set_cons_zero, List.set_cons_succ, wd_add_i, wd_add_s, wd_sub, wd_mul, wd_mod, wd_fdiv, wd_lt, wd_le, wd_gt, wd_ge, wd_eq_s, wd_ne_s, wd_eq_i, wd_ne_i, wd_isN, wd_abs, wd_int, wd_max2, wd_min2, wd_len_s, wd_list_s, wd_rev, truth_bl, wd_pow, List.set_cons_zero, List.set_cons_succ, recv_append r3, wd_len ix, hlen]
      refine ⟨trivial, fun _ => ?_, fun z => ?_⟩
      · refine told_spec (most := 2) (by omega) k2 (by decide) (by decide) (by decide) fun t S4 e1 e3 e4 => ?_
        simp only [e_lit, e_var, e_bin, e_cmp, t_ev, e_not, e_and, e_or, e_ite, a_nil, a_cons, e_tup, e_lst, e_idx, e_rev, e_prim, e_mth, e_call, b_nil, b_cons, s_set, s_asgI, s_expr, s_ret, s_ifs, s_skip, s_brk, s_cnt, List.getElem?_cons_zero, List.getElem?_cons_succ, List.set_cons_zero, List.set_cons_succ, wd_add_i, wd_add_s, wd_sub, wd_mul, wd_mod, wd_fdiv, wd_lt, wd_le, wd_gt, wd_ge, wd_eq_s, wd_ne_s, wd_eq_i, wd_ne_i, wd_isN, wd_abs, wd_int, wd_max2, wd_min2, wd_len_s, wd_list_s, wd_rev, truth_bl, wd_pow, List.set_cons_zero, List.set_cons_succ]
        have lt : lim (t ++ [97]) := ⟨by rw [List.length_append]; have := e1.1; simp; omega, fun c hc => by
          rcases List.mem_append.mp hc with z | z
          · exact (of_lim (m := 2) (marks := [97, 98, 99]) (by decide) (by decide) e1).2 c z
          · rw [List.mem_singleton.mp z]; decide⟩
        obtain ⟨w1, w2, w3, w4, w5⟩ := fin S4 _ e3 e4 (.told _ lt)
        rw [wd_append w1]
        exact ⟨by have := e1.1; unfold cap; simp; omega, cap2, w2, ⟨_, _, rfl⟩, w3, w4, w5⟩
      · simp at z
  · rintro ρ S2 ⟨⟨c6, c7, rfl⟩, f1, f2, rows, f3, f4, f5⟩
    exact ⟨end_rng, q _ _ rows S2 f3 (by omega) f5 f1 f2⟩
abbrev xCount : Ex := .comp [7, 11] (.tup [.name 7, .name 11]) (.seq (.var 5)) [.cmp .ne (.var 7) (.lit (.str [116, 111, 108, 100]))] (.lit (.int 1))
theorem count_spec {c0 c1 c2 c3 c4 c6 c7 c8 c9 c10 c11 : Option D} {r m : Nat} {rows : List D} (hn : 60 ≤ n) (hr : S.get r = some (.lst rows)) (r1 : r < S.n) (hl : rows.length ≤ 1000) (hp : ∀ d ∈ rows, Pt m d)
    (q : ∀ (l : List D) S', S'.get S.n = some (.lst l) → Fr S.n S S' → Q (.ref S.n) S') : WE n xCount [c0, c1, c2, c3, c4, some (.ref r), c6, c7, c8, c9, c10, c11] S Q X := by
  obtain ⟨n, rfl⟩ := Nat.exists_eq_add_of_le' hn
  simp only [xCount, e_comp, i_seq, e_lit, e_var, e_bin, e_cmp, t_ev, e_not, e_and, e_or, e_ite, a_nil, a_cons, e_tup, e_lst, e_idx, e_rev, e_prim, e_mth, e_call, b_nil, b_cons, s_set, s_asgI, s_expr, s_ret, s_ifs, s_skip, s_brk, s_cnt, List.getElem?_cons_zero, List.getElem?_cons_succ, List.set_cons_zero, List.set_cons_succ, wd_add_i, wd_add_s, wd_sub, wd_mul, wd_mod, wd_fdiv, wd_lt, wd_le, wd_gt, wd_ge, wd_eq_s, wd_ne_s, wd_eq_i, wd_ne_i, wd_isN, wd_abs, wd_int, wd_max2, wd_min2, wd_len_s, wd_list_s, wd_rev, truth_bl, wd_pow, List.set_cons_zero, List.set_cons_succ]
  obtain ⟨src, s1, s2⟩ := src_items (items_lst hr)
  refine ⟨src, s1, ?_⟩
  refine comp_inv (P := fun i S' => Fr S.n S S' ∧ ∃ l : List D, S'.get S.n = some (.lst l) ∧ l.length ≤ i) rows.length (by unfold far; omega) ⟨Fr.push, [], get_push_new, Nat.le_refl _⟩ ?_ ?_
  · rintro i S2 hi ⟨g1, l, g2, g3⟩
    have hd := List.getElem?_eq_getElem hi
    have pd := hp _ (List.getElem_mem hi)
    have ir : items S2 (.ref r) = some rows := items_lst (by rw [g1.old r r1 (Nat.ne_of_lt r1)]; exact hr)
    have hs : src.at S2 i = some (some rows[i]) := by rw [s2 S2 i ir, hd]
    have fin : ∀ y : D, ∃ acc, S2.get S.n = some (.lst acc) ∧ acc.length < cap ∧ Fr S.n S (S2.set S.n (.lst (acc ++ [y]))) ∧ ∃ l : List D, (S2.set S.n (.lst (acc ++ [y]))).get S.n = some (.lst l) ∧ l.length ≤ i + 1 := fun y =>
      ⟨l, g2, by unfold cap; omega, g1.new (Nat.le_refl _), l ++ [y], get_set_same, by rw [List.length_append]; simp; omega⟩
    refine ⟨rows[i], ?_⟩
    cases q1 : rows[i] with
    | tup l2 =>
      rw [q1] at pd hs
      have body : ∀ s x, l2 = [.str s, x] → ∃ ρ1, src.at S2 i = some (some (.tup l2)) ∧ bindT (.tup [.name 7, .name 11]) (.tup l2) (wipe [c0, c1, c2, c3, c4, some (.ref r), c6, c7, c8, c9, c10, c11] [7, 11]) = some ρ1 ∧ WTs (n + 59) [.cmp .ne (.var 7) (.lit (.str [116, 111, 108, 100]))] ρ1 S2 (fun b S_1 => (b = true → WE (n + 59) (.lit (.int 1)) ρ1 S_1 (fun y S_2 => ∃ acc, S_2.get S.n = some (.lst acc) ∧ acc.length < cap ∧ Fr S.n S (S_2.set S.n (.lst (acc ++ [y]))) ∧ ∃ l : List D, (S_2.set S.n (.lst (acc ++ [y]))).get S.n = some (.lst l) ∧ l.length ≤ i + 1) fun _ _ => False) ∧
            (b = false → Fr S.n S S_1 ∧ ∃ l : List D, S_1.get S.n = some (.lst l) ∧ l.length ≤ i + 1)) fun _ _ => False := by
        intro s x e
        subst e
        refine ⟨_, hs, rfl, ?_⟩
        rw [ts_one]
        simp only [wipe, e_lit, e_var, e_bin, e_cmp, t_ev, e_not, e_and, e_or, e_ite, a_nil, a_cons, e_tup, e_lst, e_idx, e_rev, e_prim, e_mth, e_call, b_nil, b_cons, s_set, s_asgI, s_expr, s_ret, s_ifs, s_skip, s_brk, s_cnt, List.getElem?_cons_zero, List.getElem?_cons_succ, List.set_cons_zero, List.set_cons_succ, wd_add_i, wd_add_s, wd_sub, wd_mul, wd_mod, wd_fdiv, wd_lt, wd_le, wd_gt, wd_ge, wd_eq_s, wd_ne_s, wd_eq_i, wd_ne_i, wd_isN, wd_abs, wd_int, wd_max2, wd_min2, wd_len_s, wd_list_s, wd_rev, truth_bl, wd_pow, List.set_cons_zero, List.set_cons_succ]
        exact ⟨fun _ => fin _, fun _ => ⟨g1, l, g2, Nat.le_succ_of_le g3⟩⟩
      cases pd with
      | told t ht => exact body _ _ rfl
      | box k hk => exact body _ _ rfl
      | turned k hk => exact body _ _ rfl
    | _ => rw [q1] at pd; cases pd
  · rintro S2 ⟨g1, l, g2, g3⟩
    have ir : items S2 (.ref r) = some rows := items_lst (by rw [g1.old r r1 (Nat.ne_of_lt r1)]; exact hr)
    exact ⟨by rw [s2 S2 _ ir, List.getElem?_eq_none (Nat.le_refl _)], q l S2 g2 g1⟩
theorem law_ok (ns : List Int) (hl : ns.length ≤ 63) : WF 100 d_law [.ref 0] (DiS.sto0 ns) (fun d _ => d = .bl true) fun _ _ => False := by
  unfold d_law
  refine f_mk [some (.ref 0), none, none, none, none, none, none, none, none, none, none, none] rfl rfl ?_
  have i0 : items (DiS.sto0 ns) (.ref 0) = some (ns.map .int) := items_rol get_push_new
  have lm : ((ns.map D.int).length : Int) = (ns.length : Int) := by rw [List.length_map]
  simp only [e_lit, e_var, e_bin, e_cmp, t_ev, e_not, e_and, e_or, e_ite, a_nil, a_cons, e_tup, e_lst, e_idx, e_rev, e_prim, e_mth, e_call, b_nil, b_cons, s_set, s_asgI, s_expr, s_ret, s_ifs, s_skip, s_brk, s_cnt, List.getElem?_cons_zero, List.getElem?_cons_succ, List.set_cons_zero, List.set_cons_succ, wd_add_i, wd_add_s, wd_sub, wd_mul, wd_mod, wd_fdiv, wd_lt, wd_le, wd_gt, wd_ge, wd_eq_s, wd_ne_s, wd_eq_i, wd_ne_i, wd_isN, wd_abs, wd_int, wd_max2, wd_min2, wd_len_s, wd_list_s, wd_rev, truth_bl, wd_pow, List.set_cons_zero, List.set_cons_succ, s_for, i_rng, wd_len i0, lm]
  refine ⟨⟨by split <;> split <;> omega, by split <;> split <;> omega⟩, ?_⟩
  have ht : ((if (if (ns.length : Int) < 3 then (ns.length : Int) else 3) > 1 then (if (ns.length : Int) < 3 then (ns.length : Int) else 3) else 1) : Int) ≤ 3 := by split <;> split <;> omega
  generalize ((if (if (ns.length : Int) < 3 then (ns.length : Int) else 3) > 1 then (if (ns.length : Int) < 3 then (ns.length : Int) else 3) else 1) : Int) = top at ht ⊢
  refine loop_inv (P := fun i ρ S => (∃ c1 c2 c3 c4 c5 c6 c7 c8 c9 c10 c11, ρ = [some (.ref 0), c1, c2, c3, c4, c5, c6, c7, c8, c9, c10, c11]) ∧ S.get 0 = some (.rol (ns.map .int)) ∧ 0 < S.n) top.toNat (by unfold far; omega) ⟨⟨_, _, _, _, _, _, _, _, _, _, _, rfl⟩, get_push_new, Nat.zero_lt_one⟩ ?_ ?_
  · rintro i ρ S hi ⟨⟨c1, c2, c3, c4, c5, c6, c7, c8, c9, c10, c11, rfl⟩, g1, g2⟩
    refine ⟨_, _, at_rng hi, rfl, ?_⟩
    have zi : (0 + (i : Int)) = (i : Int) := by omega
    simp only [e_lit, e_var, e_bin, e_cmp, t_ev, e_not, e_and, e_or, e_ite, a_nil, a_cons, e_tup, e_lst, e_idx, e_rev, e_prim, e_mth, e_call, b_nil, b_cons, s_set, s_asgI, s_expr, s_ret, s_ifs, s_skip, s_brk, s_cnt, List.getElem?_cons_zero, List.getElem?_cons_succ, List.set_cons_zero, List.set_cons_succ, wd_add_i, wd_add_s, wd_sub, wd_mul, wd_mod, wd_fdiv, wd_lt, wd_le, wd_gt, wd_ge, wd_eq_s, wd_ne_s, wd_eq_i, wd_ne_i, wd_isN, wd_abs, wd_int, wd_max2, wd_min2, wd_len_s, wd_list_s, wd_rev, truth_bl, wd_pow, List.set_cons_zero, List.set_cons_succ, s_for, i_rng, zi]
    refine seed_spec (by decide) g1 fun x y => ⟨⟨by decide, by decide⟩, ?_⟩
    generalize hb : S.n = b
    have st0 : St ns b (S.push (.lst [.int x, .int y])) := by
      rw [← hb]
      exact ⟨by rw [get_push_old g2]; exact g1, g2, Nat.lt_succ_self _, x, y, get_push_new⟩
    refine loop_inv (P := fun j ρ S => (∃ c1 c3 c4 c5 c6 c7 c8 c9 c10 c11, ρ = [some (.ref 0), c1, some (.ref b), c3, c4, c5, c6, c7, c8, c9, c10, c11]) ∧ St ns b S) 12 (by decide) ⟨⟨_, _, _, _, _, _, _, _, _, _, rfl⟩, st0⟩ ?_ ?_
    · clear hb st0 g1 g2
      rintro j ρ S1 hj ⟨⟨c1, c3, c4, c5, c6, c7, c8, c9, c10, c11, rfl⟩, st⟩
      refine ⟨_, _, at_rng hj, rfl, ?_⟩
      rw [b_cons, s_set]
      refine cells_spec (by decide) st.bx fun c ts S2 h1 h2 h3 h4 h5 h6 h7 h8 => ?_
      simp only [b_cons, s_set, e_lst, a_nil, e_lit, e_var, e_bin, e_cmp, t_ev, e_not, e_and, e_or, e_ite, a_nil, a_cons, e_tup, e_lst, e_idx, e_rev, e_prim, e_mth, e_call, b_nil, b_cons, s_set, s_asgI, s_expr, s_ret, s_ifs, s_skip, s_brk, s_cnt, List.getElem?_cons_zero, List.getElem?_cons_succ, List.set_cons_zero, List.set_cons_succ, wd_add_i, wd_add_s, wd_sub, wd_mul, wd_mod, wd_fdiv, wd_lt, wd_le, wd_gt, wd_ge, wd_eq_s, wd_ne_s, wd_eq_i, wd_ne_i, wd_isN, wd_abs, wd_int, wd_max2, wd_min2, wd_len_s, wd_list_s, wd_rev, truth_bl, wd_pow, List.set_cons_zero, List.set_cons_succ]
      refine ⟨by decide, ?_⟩
      have st2 := st.fr h8 h7
      have st3 : St ns b (S2.push (.lst [])) := st2.fr Fr.push (bx_push h7)
      refine row_loop (ts := ts) (by decide) st3.bx (by rw [get_push_old h2]; exact h1) get_push_new (Nat.lt_succ_of_lt h2) (Nat.lt_succ_self _) h3 (Nat.ne_of_gt h7.1) (Nat.ne_of_lt h2) h4 h5 ?_ rfl
      intro c6 c7 rows S3 k1 k2 k3 k4 k5
      dsimp only
      have r0 : S2.n < S3.n := Nat.lt_of_lt_of_le (Nat.lt_succ_self _) k5.1
      have cr : c ≠ S2.n := Nat.ne_of_lt h2
      have kc : S3.get c = some (.lst (ts.map .str)) := by
        rw [k5.2 c (Nat.lt_succ_of_lt h2) h3 cr, get_push_old h2]
        exact h1
      have st4 : St ns b S3 := ⟨by
        rw [k5.2 0 (Nat.zero_lt_succ _) (Nat.ne_of_lt st.pos) (Nat.ne_of_lt (Nat.lt_trans st2.pos h7.1))]
        exact st3.scr, st.pos, k4⟩
      have c0 : c < S3.n := Nat.lt_trans h2 r0
      refine count_spec (by decide) k1 r0 (by omega) k3 fun l S4 l1 l2 => ?_
      have st5 : St ns b S4 := st4.fr l2.all (bx_fr k4 l2)
      have hr4 : S4.get S2.n = some (.lst rows) := by rw [l2.old _ r0 (Nat.ne_of_lt r0)]; exact k1
      have hc4 : S4.get c = some (.lst (ts.map .str)) := by rw [l2.old _ c0 (Nat.ne_of_lt c0)]; exact kc
      have r4 : S2.n < S4.n := Nat.lt_of_lt_of_le r0 l2.le
      have c4' : c < S4.n := Nat.lt_of_lt_of_le c0 l2.le
      rw [wd_len (items_lst l1), wd_gt]
      refine ⟨fun _ => ⟨⟨_, _, _, _, _, _, _, _, _, _, rfl⟩, st5⟩, fun _ => ?_⟩
      simp only [s_asg, e_lit, e_var, e_bin, e_cmp, t_ev, e_not, e_and, e_or, e_ite, a_nil, a_cons, e_tup, e_lst, e_idx, e_rev, e_prim, e_mth, e_call, b_nil, b_cons, s_set, s_asgI, s_expr, s_ret, s_ifs, s_skip, s_brk, s_cnt, List.getElem?_cons_zero, List.getElem?_cons_succ, List.set_cons_zero, List.set_cons_succ, wd_add_i, wd_add_s, wd_sub, wd_mul, wd_mod, wd_fdiv, wd_lt, wd_le, wd_gt, wd_ge, wd_eq_s, wd_ne_s, wd_eq_i, wd_ne_i, wd_isN, wd_abs, wd_int, wd_max2, wd_min2, wd_len_s, wd_list_s, wd_rev, truth_bl, wd_pow, List.set_cons_zero, List.set_cons_succ]
      have lenr : rows.length ≤ cap := Nat.le_trans k2 (by decide)
      have lent : (ts.map D.str).length ≤ cap := by rw [List.length_map]; exact Nat.le_trans h5 (by decide)
      refine closed_spec (ts := ts) (rows := rows) (by decide) (Has.lst hr4 r4 (Nat.ne_of_lt r4)) (Has.lst hc4 c4' (Nat.ne_of_lt c4')) k3 h6 (by omega) ?_
      rw [wd_list (items_lst hr4)]
      refine ⟨lenr, ?_⟩
      rw [wd_list (items_lst (by rw [get_push_old c4']; exact hc4))]
      refine ⟨lent, cap2, cap2, ?_⟩
      generalize eS5 : S4.push (.lst rows) = S5
      have n5 : S5.n = S4.n + 1 := by rw [← eS5]; rfl
      generalize eS6 : S5.push (.lst (ts.map .str)) = S6
      have n6 : S6.n = S4.n + 2 := by rw [← eS6]; show S5.n + 1 = _; omega
      have f6 : Fr S4.n S4 S6 := by
        rw [← eS6, ← eS5]
        exact Fr.trans Fr.push Fr.push
      have st6 : St ns b S6 := st5.fr f6.all (bx_fr st5.bx f6)
      have a1 : S6.get S2.n = some (.lst rows) := by rw [f6.old _ r4 (Nat.ne_of_lt r4)]; exact hr4
      have a2 : S6.get c = some (.lst (ts.map .str)) := by rw [f6.old _ c4' (Nat.ne_of_lt c4')]; exact hc4
      have a3 : S6.get S4.n = some (.lst rows) := by
        rw [← eS6, get_push_old (by omega), ← eS5]
        exact get_push_new
      have a4 : S6.get S5.n = some (.lst (ts.map .str)) := by
        rw [← eS6]
        exact get_push_new
      have r6 : S2.n < S6.n := by omega
      have c6' : c < S6.n := by omega
      dsimp only [bindT, bindTs]
      simp only [e_lit, e_var, e_bin, e_cmp, t_ev, e_not, e_and, e_or, e_ite, a_nil, a_cons, e_tup, e_lst, e_idx, e_rev, e_prim, e_mth, e_call, b_nil, b_cons, s_set, s_asgI, s_expr, s_ret, s_ifs, s_skip, s_brk, s_cnt, List.getElem?_cons_zero, List.getElem?_cons_succ, List.set_cons_zero, List.set_cons_succ, wd_add_i, wd_add_s, wd_sub, wd_mul, wd_mod, wd_fdiv, wd_lt, wd_le, wd_gt, wd_ge, wd_eq_s, wd_ne_s, wd_eq_i, wd_ne_i, wd_isN, wd_abs, wd_int, wd_max2, wd_min2, wd_len_s, wd_list_s, wd_rev, truth_bl, wd_pow, List.set_cons_zero, List.set_cons_succ]
      refine row_text_spec (ts := ts) (rows := rows) (by decide) (Has.lst a1 r6 (Nat.ne_of_lt r6)) (Has.lst a2 c6' (Nat.ne_of_lt c6')) k3 h6 (by omega) fun S7 f7 => ?_
      obtain ⟨u, hu⟩ := reprD_ok (t := rowT ts rows) (by have := (rowT_lim h6 k3).1; omega) (rowT_lim h6 k3).2
      rw [wd_repr hu, wd_repr hu, wd_ne_s]
      have g7 : ∀ {j : Nat} {o : MO}, j < S6.n → S6.get j = some o → S7.get j = some o := fun hj h => by rw [f7.old _ hj (Nat.ne_of_lt hj)]; exact h
      have b1 := g7 r6 a1
      have b2 := g7 c6' a2
      have same := had_same b1 b2 (g7 (by omega) a3) (g7 (by omega) a4) k3 h6
      have st7 : St ns b S7 := st6.fr f7.all (bx_fr st6.bx f7)
      simp only [decide_true, Bool.not_true, truth_bl]
      refine ⟨cap2, ?_⟩
      rw [wd_ne same]
      simp only [Bool.not_true, truth_bl]
      refine ⟨fun z => (nomatch z), fun _ => ?_⟩
      rw [wd_tuple (items_lst b1), wd_tuple (items_lst b2)]
      refine row_text_spec (ts := ts) (rows := rows) (by decide) Has.tup Has.tup k3 h6 (by omega) fun S8 f8 => ?_
      rw [wd_ne_s]
      simp only [decide_true, Bool.not_true, truth_bl]
      refine ⟨fun z => (nomatch z), fun _ => ⟨⟨_, _, _, _, _, _, _, _, _, _, rfl⟩, st7.fr f8.all (bx_fr st7.bx f8)⟩⟩
    · rintro ρ S1 ⟨⟨c1, c3, c4, c5, c6, c7, c8, c9, c10, c11, rfl⟩, st⟩
      exact ⟨end_rng, ⟨_, _, _, _, _, _, _, _, _, _, _, rfl⟩, st.scr, Nat.lt_trans st.pos st.bx.1⟩
  · rintro ρ S ⟨⟨c1, c2, c3, c4, c5, c6, c7, c8, c9, c10, c11, rfl⟩, g1, g2⟩
    refine ⟨end_rng, by decide, by decide, ?_⟩
    refine row_text_spec (ts := [[97]]) (rows := []) (by decide) (Has.lst get_push_new (Nat.lt_succ_self _) (by show S.n ≠ S.n + 1; omega)) Has.tup (fun d hd => nomatch hd) (fun t ht => by rw [List.mem_singleton.mp ht]; exact ⟨by decide, by decide⟩) (by decide) fun S' f => ?_
    rw [show (D.str (rowT [[97]] [])) = D.str [] from rfl, wd_eq_s]
    refine ⟨by decide, by decide, by decide, ?_⟩
    refine row_text_spec (ts := [[97, 98, 99]]) (rows := [.tup [.str sTurned, .int 0]]) (by decide) Has.tup (Has.lst get_push_new (Nat.lt_succ_self _) (by show S'.n ≠ S'.n + 1; omega)) (fun d hd => by rw [List.mem_singleton.mp hd]; exact .turned 0 (by decide)) (fun t ht => by rw [List.mem_singleton.mp ht]; exact ⟨by decide, by decide⟩) (by decide) fun S' f => ?_
    rw [show (D.str (rowT [[97, 98, 99]] [.tup [.str sTurned, .int 0]])) = D.str [99, 98, 97] from rfl, wd_eq_s]
    rfl
end DiG
end
section
open PySem
theorem PySem.Challenge.cw_growntexts_k15_rows_joined_holds : PySem.Challenge.rw_growntexts_k15_rows_joined.Holds := by
  refine DiG.holds 100 fun ns hl _ => ?_
  have h := DiG.law_ok ns hl
  show DiS.isTrue ((Di.evs 100).f DiG.d_law [.ref 0] (DiS.sto0 ns)) = true
  have h' : Di.W ((Di.evs 100).f DiG.d_law [.ref 0] (DiS.sto0 ns)) (fun d _ => d = .bl true) fun _ _ => False := h
  cases q : (Di.evs 100).f DiG.d_law [.ref 0] (DiS.sto0 ns) with
  | bad => rw [q] at h'; exact h'.elim
  | exc e S => rw [q] at h'; exact h'.elim
  | ok d S =>
    rw [q] at h'
    have e : d = .bl true := h'
    rw [e]
    rfl
end
