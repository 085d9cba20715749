import PyProof.Rows.All
import Wide.All
import OpenK.AllK
import Wide.FinOn
import HandS.ForMost
import HandS.Flow
import HandS.Wide
import HandS.TupAny
import HandS.TupMul
import HandS.Deep
import HandS.Style
import HandS.Zip
import HandS.IsInst
import HandS.Exc
import HandS.ExcOwn
import HandS.TryOnly
import HandS.WordsExc
import HandS.TupLe
import HandS.SortInts
import PySem.Challenge.RW_stairrooms_k07_rules_of_stairs
set_option Elab.async false
set_option linter.all false
/-! A small language of plain data (IR) for the Python subset of this program, with its evaluator. -/
namespace Ev
open PySem

abbrev D := PyData

inductive R (α : Type) where
  | ok (a : α)
  | exc (c : Nat)
  | bad
namespace R
@[simp] def bind {α β : Type} : R α → (α → R β) → R β
  | ok a, f => f a
  | exc c, _ => exc c
  | bad, _ => bad
instance : Monad R where
  pure := R.ok
  bind := R.bind
@[simp] theorem ok_bind {α β : Type} (a : α) (f : α → R β) : (R.ok a >>= f) = f a := rfl
@[simp] theorem exc_bind {α β : Type} (c : Nat) (f : α → R β) : ((R.exc c : R α) >>= f) = R.exc c := rfl
@[simp] theorem bad_bind {α β : Type} (f : α → R β) : ((R.bad : R α) >>= f) = R.bad := rfl
@[simp] theorem pure_eq {α : Type} (a : α) : (pure a : R α) = R.ok a := rfl
theorem bind_ok {α β : Type} {x : R α} {f : α → R β} {b : β} (h : (x >>= f) = R.ok b) : ∃ a, x = R.ok a ∧ f a = R.ok b := by
  cases x with
  | ok a => exact ⟨a, rfl, h⟩
  | exc c => cases h
  | bad => cases h
end R
/-- a comprehension lets no exception out -/
@[simp] def noexc {α : Type} : R α → R α
  | .ok a => .ok a
  | _ => .bad

abbrev Env := List (Option D)
def getS (env : Env) (i : Nat) : R D :=
  match env[i]? with
  | some (some d) => .ok d
  | _ => .bad
/-- slots forgotten -/
def clr : List Nat → Env → Env
  | [], e => e
  | i :: r, e => (clr r e).set i none

/-! ### operations on data -/
def asI : D → R Int
  | .int i => .ok i
  | _ => .bad
def asB : D → R Bool
  | .bool b => .ok b
  | _ => .bad
/-- the items of a list, a tuple -/
def asL : D → R (List D)
  | .list l => .ok l
  | .tuple l => .ok l
  | _ => .bad
def flat : D → Bool
  | .none => true
  | .bool _ => true
  | .int _ => true
  | .str _ => true
  | _ => false
inductive BOp where | add | sub | mul | fdiv | mod | pow
inductive COp where | eq | ne | lt | le | gt | ge | is_ | isnot | in_ | notin
  deriving DecidableEq
inductive Ty where | int | bool | str | tuple | list
inductive B1 where | len | int | tuple | list | all | any | abs | max | min | sum
inductive B2 where | max | min

/-- within (-2^64, 2^64); by the number's own form, so that nothing is counted down where the number is not known -/
def small64 : Int → Bool
  | .ofNat n => Nat.ble n 18446744073709551615
  | .negSucc n => Nat.ble n 18446744073709551614
def small63 : Int → Bool
  | .ofNat n => Nat.ble n 9223372036854775807
  | .negSucc n => Nat.ble n 9223372036854775807
def small30 : Int → Bool
  | .ofNat n => Nat.ble n 1073741823
  | .negSucc _ => false
def mulOk (i j : Int) : Bool := small64 i || small64 j
def repL {α : Type} (k : Nat) (l : List α) : List α := (List.replicate k l).flatten
def dBin : BOp → D → D → R D
  | .add, .int i, .int j => .ok (.int (i + j))
  | .add, .str a, .str b => if a.length + b.length ≤ sizeLine then .ok (.str (a ++ b)) else .bad
  | .add, .list a, .list b => if a.length + b.length ≤ sizeLine then .ok (.list (a ++ b)) else .bad
  | .add, .tuple a, .tuple b => if a.length + b.length ≤ sizeLine then .ok (.tuple (a ++ b)) else .bad
  | .sub, .int i, .int j => .ok (.int (i - j))
  | .mul, .int i, .int j => if mulOk i j then .ok (.int (i * j)) else .bad

  | .fdiv, .int i, .int j => if 0 < j ∧ j.natAbs.log2 < 9000 then .ok (.int (i / j)) else .bad
  | .mod, .int i, .int j => if 0 < j then .ok (.int (i % j)) else .bad
  | .pow, .int i, .int j => if 0 ≤ j ∧ j ≤ 1000000 ∧ i.natAbs < 2 ^ 64 then .ok (.int (i ^ j.toNat)) else .bad
  | _, _, _ => .bad
def isNone : D → Bool
  | .none => true
  | _ => false
def dIn : D → D → R Bool
  | x, .list l => if SeqAt.shaped x && SeqAt.shaped (.list l) then .ok (l.any fun z => PyData.eqv z x) else .bad
  | x, .tuple l => if flat x && l.all flat then .ok (l.any fun z => PyData.eqv z x) else .bad
  | .str a, .str b => match a.cps.toList with
    | [c] => .ok (decide (c ∈ b.cps.toList))
    | _ => .bad
  | _, _ => .bad
def dCmp : COp → D → D → R D
  | .eq, x, y => if SeqAt.shaped x && SeqAt.shaped y then .ok (.bool (PyData.eqv x y)) else .bad
  | .ne, x, y => if SeqAt.shaped x && SeqAt.shaped y then .ok (.bool (!PyData.eqv x y)) else .bad
  | .lt, .int i, .int j => .ok (.bool (decide (i < j)))
  | .le, .int i, .int j => .ok (.bool (decide (i ≤ j)))
  | .gt, .int i, .int j => .ok (.bool (decide (j < i)))
  | .ge, .int i, .int j => .ok (.bool (decide (j ≤ i)))
  | .is_, x, .none => .ok (.bool (isNone x))
  | .isnot, x, .none => .ok (.bool (!isNone x))
  | .is_, .bool a, .bool b => .ok (.bool (decide (a = b)))
  | .isnot, .bool a, .bool b => .ok (.bool (!decide (a = b)))
  | .in_, x, y => do let b ← dIn x y; pure (.bool b)
  | .notin, x, y => do let b ← dIn x y; pure (.bool (!b))
  | _, _, _ => .bad
def dIs : Ty → D → Bool
  | .int, .int _ => true
  | .int, .bool _ => true
  | .bool, .bool _ => true
  | .str, .str _ => true
  | .tuple, .tuple _ => true
  | .list, .list _ => true
  | _, _ => false
def mapR {α β : Type} (f : α → R β) : List α → R (List β)
  | [] => .ok []
  | x :: r => do let y ← f x; let ys ← mapR f r; pure (y :: ys)
def maxI : List Int → Int
  | [] => 0
  | [x] => x
  | x :: r => max x (maxI r)
def minI : List Int → Int
  | [] => 0
  | [x] => x
  | x :: r => min x (minI r)
def dB1 : B1 → D → R D
  | .len, .list l => .ok (.int l.length)
  | .len, .tuple l => .ok (.int l.length)
  | .len, .str s => if s.length ≤ sizeLine then .ok (.int s.length) else .bad
  | .int, .int i => .ok (.int i)
  | .int, .bool b => .ok (.int (if b then 1 else 0))
  | .tuple, .list l => .ok (.tuple l)
  | .tuple, .tuple l => .ok (.tuple l)
  | .list, .list l => .ok (.list l)
  | .list, .tuple l => .ok (.list l)
  | .all, .list l => do let bs ← mapR asB l; pure (.bool (bs.all id))
  | .any, .list l => do let bs ← mapR asB l; pure (.bool (bs.any id))
  | .abs, .int i => .ok (.int (if i < 0 then -i else i))
  | .max, .list l => do let ns ← mapR asI l; if 0 < ns.length then pure (.int (maxI ns)) else .bad
  | .min, .list l => do let ns ← mapR asI l; if 0 < ns.length then pure (.int (minI ns)) else .bad
  | .sum, .list l => do let ns ← mapR asI l; pure (.int ns.sum)
  | _, _ => .bad
def dB2 : B2 → D → D → R D
  | .max, .int i, .int j => .ok (.int (if j > i then j else i))
  | .min, .int i, .int j => .ok (.int (if j < i then j else i))
  | _, _, _ => .bad
def ofO {α : Type} : Option α → R α
  | some a => .ok a
  | none => .bad
def dIx : D → D → R D
  | .list l, .int i => ofO (L2.atI l i)
  | .tuple l, .int i => ofO (L2.atI l i)
  | .str s, .int i => if s.length ≤ sizeLine then (do let c ← ofO (L2.atI s.cps.toList i); pure (.str ⟨#[c]⟩)) else .bad
  | _, _ => .bad
def cut {α : Type} (xs : List α) (lo hi : Option Int) : List α := (xs.drop (HT.sIx xs.length 0 lo)).take (HT.sIx xs.length xs.length hi - HT.sIx xs.length 0 lo)
def dSlice : D → Option Int → Option Int → R D
  | .list l, lo, hi => .ok (.list (cut l lo hi))
  | .tuple l, lo, hi => .ok (.tuple (cut l lo hi))
  | .str s, lo, hi => if s.length ≤ sizeLine then .ok (.str ⟨(cut s.cps.toList lo hi).toArray⟩) else .bad
  | _, _, _ => .bad
def dRev : D → R D
  | .list l => .ok (.list l.reverse)
  | .tuple l => .ok (.tuple l.reverse)
  | _ => .bad
def rng (lo : Int) (n : Nat) (c : Int) : List D := (List.range n).map fun (i : Nat) => .int (lo + (i : Int) * c)
def small62 : Int → Bool
  | .ofNat n => Nat.ble n 4611686018427387903
  | .negSucc n => Nat.ble n 4611686018427387903
/-- a step that is taken: 1, 2, .. and -1 -/
def stepOk (k : Int) : Bool := match k with
  | .ofNat n => Nat.ble 1 n && Nat.ble n 1073741823
  | .negSucc n => Nat.beq n 0
def stepN (i j k : Int) : Nat := if 0 < k then (if i < j then ((j - i - 1) / k + 1).toNat else 0) else (i - j).toNat
def zipD : List D → List D → List D
  | x :: xs, y :: ys => .tuple [x, y] :: zipD xs ys
  | _, _ => []
def enumD : Nat → List D → List D
  | _, [] => []
  | i, x :: xs => .tuple [.int i, x] :: enumD (i + 1) xs

def asLst : D → R (List D)
  | .list l => .ok l
  | _ => .bad
/-! ### the language -/
mutual
/-- what a for, a comprehension binds -/
inductive T where
  | name (i : Nat)
  | tup (ts : Ts)
inductive Ts where
  | nil
  | cons (t : T) (ts : Ts)
end
mutual
inductive E where
  | var (i : Nat)
  | int (i : Int)
  | bl (b : Bool)
  | non
  | str (s : Str)
  /-- a constant of the module -/
  | cst (d : D)
  | bin (o : BOp) (a b : E)
  /-- [..] * k -/
  | lmul (es : Es) (k : E)
  | neg (a : E)
  | cmp (o : COp) (a b : E)
  | chain (o o' : COp) (a b c : E)
  | and (a b : E)
  | or (a b : E)
  | not (a : E)
  | ite (c a b : E)
  | isi (t : Ty) (a : E)
  | tup (es : Es)
  | lst (es : Es)
  | ix (a b : E)
  | slice (a : E) (lo hi : OE)
  | rev (a : E)
  | b1 (f : B1) (a : E)
  | b2 (f : B2) (a b : E)
  | divmod (a b : E)
  | call (f : Nat) (es : Es)
  | call0 (f : Nat)
  /-- own: the slots of the comprehension's own names -/
  | comp (own : List Nat) (el : E) (tg : T) (it : I) (cond : OE)
  /-- never reached -/
  | stopE
inductive Es where
  | nil
  | cons (e : E) (es : Es)
inductive OE where
  | none
  | some (e : E)
inductive I where
  | rng1 (a : E)
  | rng2 (a b : E)
  | rng3 (a b c : E)
  | seq (a : E)
  | zip (a b : E)
  | enum (a : E)
end
mutual
inductive S where
  /-- n: how deep the slot's value is owned; mv: the owned slots that move into it -/
  | asg (n i : Nat) (e : E) (mv : List Nat)
  | asgT (ts : Ts) (e : E) (mv : List Nat)
  /-- a, b = e1, e2 -/
  | par (i j : Nat) (a b : E) (mv : List Nat)
  | app (i : Nat) (e : E) (mv : List Nat)
  | appAt (i : Nat) (k e : E) (mv : List Nat)
  | setIx (i : Nat) (k e : E) (mv : List Nat)
  | setIx2 (i : Nat) (k l e : E) (mv : List Nat)
  | aug (i : Nat) (o : BOp) (e : E)
  | ite (c : E) (a b : Ss)
  | whl (c : E) (b : Ss)
  /-- hd: the owned slots that are walked, hidden from the body -/
  | for_ (hd : List Nat) (tg : T) (it : I) (b : Ss)
  | ret (n : Nat) (e : E)
  | retN
  | raise_ (c : Nat)
  | expr (e : E)
  | pass
  /-- never reached -/
  | stop
inductive Ss where
  | nil
  | cons (s : S) (ss : Ss)
end

/-! ### the evaluator -/
structure Cfg where
  call : Nat → List D → R D
  fuel : Nat
def catD : R D → R (List D) → R (List D) := fun x xs => do let d ← x; let ds ← xs; pure (d :: ds)
mutual
def bindT : T → D → Env → R Env
  | .name i, d, e => .ok (e.set i (some d))
  | .tup ts, d, e => do let l ← asL d; bindTs ts l e
def bindTs : Ts → List D → Env → R Env
  | .nil, [], e => .ok e
  | .cons t ts, d :: ds, e => do let e1 ← bindT t d e; bindTs ts ds e1
  | _, _, _ => .bad
end
/-- the list that a comprehension makes -/
def compL (f : D → R (Option D)) : List D → R (List D)
  | [] => .ok []
  | d :: r => do
    let o ← noexc (f d)
    let ys ← compL f r
    match o with
    | some y => pure (y :: ys)
    | none => pure ys
def sized (l : List D) : R D := if l.length ≤ sizeLine then .ok (.list l) else .bad
mutual
def evE (Φ : Cfg) : E → Env → R D
  | .var i, env => getS env i
  | .int i, _ => .ok (.int i)
  | .bl b, _ => .ok (.bool b)
  | .non, _ => .ok .none
  | .str s, _ => .ok (.str s)
  | .cst d, _ => .ok d
  | .bin o a b, env => do let x ← evE Φ a env; let y ← evE Φ b env; dBin o x y
  | .lmul es k, env => do
    let ds ← evEs Φ es env
    if ds.length ≤ sizeLine then do
      let x ← evE Φ k env
      let i ← asI x
      if small63 i = true ∧ ds.length * i.toNat ≤ sizeLine then pure (.list (repL i.toNat ds)) else .bad
    else .bad
  | .neg a, env => do let x ← evE Φ a env; let i ← asI x; pure (.int (-i))
  | .cmp o a b, env => do let x ← evE Φ a env; let y ← evE Φ b env; dCmp o x y
  | .chain o o' a b c, env => do
    let x ← evE Φ a env
    let y ← evE Φ b env
    let r ← dCmp o x y
    let t ← asB r
    if t then do
      let z ← evE Φ c env
      dCmp o' y z
    else pure (.bool false)
  | .and a b, env => do let x ← evE Φ a env; let t ← asB x; if t then (do let y ← evE Φ b env; let u ← asB y; pure (.bool u)) else pure (.bool false)
  | .or a b, env => do let x ← evE Φ a env; let t ← asB x; if t then pure (.bool true) else (do let y ← evE Φ b env; let u ← asB y; pure (.bool u))
  | .not a, env => do let x ← evE Φ a env; let t ← asB x; pure (.bool (!t))
  | .ite c a b, env => do let x ← evE Φ c env; let t ← asB x; if t then evE Φ a env else evE Φ b env
  | .isi t a, env => do let x ← evE Φ a env; pure (.bool (dIs t x))
  | .tup es, env => do let ds ← evEs Φ es env; if ds.length ≤ sizeLine then pure (.tuple ds) else .bad
  | .lst es, env => do let ds ← evEs Φ es env; sized ds
  | .ix a b, env => do let x ← evE Φ a env; let y ← evE Φ b env; dIx x y
  | .slice a lo hi, env => do let x ← evE Φ a env; let l ← evO Φ lo env; let h ← evO Φ hi env; dSlice x l h
  | .rev a, env => do let x ← evE Φ a env; dRev x
  | .b1 f a, env => do let x ← evE Φ a env; dB1 f x
  | .b2 f a b, env => do let x ← evE Φ a env; let y ← evE Φ b env; dB2 f x y
  | .divmod a b, env => do
    let x ← evE Φ a env
    let y ← evE Φ b env
    let i ← asI x
    let j ← asI y
    if 0 < j ∧ small30 j = true then pure (.tuple [.int (i / j), .int (i % j)]) else .bad
  | .call0 f, _ => noexc (Φ.call f [])
  | .call f es, env => do let ds ← evEs Φ es env; Φ.call f ds
  | .stopE, _ => .bad
  | .comp own el tg it cond, env => do
    let ds ← evI Φ it env
    let rs ← compL (fun d => do
      let e1 ← bindT tg d (clr own env)
      let t ← evC Φ cond e1
      if t then (do let y ← evE Φ el e1; pure (some y)) else pure none) ds
    sized rs
def evEs (Φ : Cfg) : Es → Env → R (List D)
  | .nil, _ => .ok []
  | .cons e es, env => do let d ← evE Φ e env; let ds ← evEs Φ es env; pure (d :: ds)
/-- an optional part of a slice -/
def evO (Φ : Cfg) : OE → Env → R (Option Int)
  | .none, _ => .ok none
  | .some e, env => do let d ← evE Φ e env; let i ← asI d; pure (some i)
/-- a comprehension's test -/
def evC (Φ : Cfg) : OE → Env → R Bool
  | .none, _ => .ok true
  | .some e, env => do let d ← evE Φ e env; asB d
def evI (Φ : Cfg) : I → Env → R (List D)
  | .rng1 a, env => do let x ← evE Φ a env; let i ← asI x; if small62 i then pure (rng 0 i.toNat 1) else .bad
  | .rng2 a b, env => do let x ← evE Φ a env; let y ← evE Φ b env; let i ← asI x; let j ← asI y; if small62 i && small62 j then pure (rng i (j - i).toNat 1) else .bad
  | .rng3 a b c, env => do
    let x ← evE Φ a env
    let y ← evE Φ b env
    let z ← evE Φ c env
    let i ← asI x
    let j ← asI y
    let k ← asI z
    if stepOk k = true ∧ small62 i = true ∧ small62 j = true then pure (rng i (stepN i j k) k) else .bad
  | .seq a, env => do let x ← evE Φ a env; asL x
  | .zip a b, env => do
    let x ← evE Φ a env
    let y ← evE Φ b env
    match x, y with
    | .list l, .list m => pure (zipD l m)
    | .tuple l, .tuple m => pure (zipD l m)
    | _, _ => .bad
  | .enum a, env => do
    let x ← evE Φ a env
    let l ← asLst x
    pure (enumD 0 l)
end
inductive Out where
  | next (env : Env)
  | ret (d : D)
def forL (f : D → Env → R Out) : List D → Env → R Out
  | [], env => .ok (.next env)
  | d :: r, env => do
    let o ← f d env
    match o with
    | .next e1 => forL f r e1
    | .ret v => pure (.ret v)
def whlL (c : Env → R Bool) (b : Env → R Out) : Nat → Env → R Out
  | 0, _ => .bad
  | n + 1, env => do
    let t ← c env
    if t then (do
      let o ← b env
      match o with
      | .next e1 => whlL c b n e1
      | .ret v => pure (.ret v))
    else pure (.next env)
/-- back from a loop: the hidden slots as they were -/
def unhide (hd : List Nat) (old : Env) : Env → Env
  := fun e => hd.foldr (fun i e => e.set i (old.getD i none)) e
def sizedApp (l : List D) (d : D) : R D := if l.length < sizeLine then .ok (.list (l ++ [d])) else .bad
def setAt (l : List D) (i : Int) (d : D) : R (List D) := match L2.ixN l.length i with
  | some j => .ok (l.set j d)
  | none => .bad
def augR (o : BOp) (a b : Int) : R Int := match o with | .add => R.ok (a + b) | .sub => R.ok (a - b) | _ => R.bad
mutual
def evS (Φ : Cfg) : S → Env → R Out
  | .asg _ i e mv, env => do let d ← evE Φ e env; pure (.next ((clr mv env).set i (some d)))
  | .asgT ts e mv, env => do let d ← evE Φ e env; let l ← asL d; let e1 ← bindTs ts l (clr mv env); pure (.next e1)
  | .par i j a b mv, env => do let x ← evE Φ a env; let y ← evE Φ b env; pure (.next (((clr mv env).set i (some x)).set j (some y)))
  | .app i e mv, env => do
    let x ← getS env i
    let l ← asLst x
    let d ← evE Φ e env
    let y ← sizedApp l d
    pure (.next ((clr mv env).set i (some y)))
  | .appAt i k e mv, env => do
    let x ← getS env i
    let l ← asLst x
    let kk ← evE Φ k env
    let k0 ← asI kk
    let m ← ofO (L2.atI l k0)
    let m1 ← asLst m
    let d ← evE Φ e env
    let y ← sizedApp m1 d
    let l2 ← setAt l k0 y
    pure (.next ((clr mv env).set i (some (.list l2))))
  | .setIx i k e mv, env => do
    let d ← evE Φ e env
    let x ← getS env i
    let l ← asLst x
    let kk ← evE Φ k env
    let k0 ← asI kk
    let l2 ← setAt l k0 d
    pure (.next ((clr mv env).set i (some (.list l2))))
  | .setIx2 i k k' e mv, env => do
    let d ← evE Φ e env
    let x ← getS env i
    let l ← asLst x
    let kk ← evE Φ k env
    let k0 ← asI kk
    let m ← ofO (L2.atI l k0)
    let m1 ← asLst m
    let kk' ← evE Φ k' env
    let k1 ← asI kk'
    let m2 ← setAt m1 k1 d
    let l2 ← setAt l k0 (.list m2)
    pure (.next ((clr mv env).set i (some (.list l2))))
  | .aug i o e, env => do
    let x ← getS env i
    let y ← evE Φ e env
    let a ← asI x
    let b ← asI y
    let z ← augR o a b
    pure (.next (env.set i (some (.int z))))
  | .ite c a b, env => do let d ← evE Φ c env; let t ← asB d; if t then evSs Φ a env else evSs Φ b env
  | .whl c b, env => whlL (fun e => do let d ← evE Φ c e; asB d) (evSs Φ b) Φ.fuel env
  | .for_ hd tg it b, env => do
    let ds ← evI Φ it env
    let o ← forL (fun d e => do let e1 ← bindT tg d e; evSs Φ b e1) ds (clr hd env)
    match o with
    | .next e1 => pure (.next (unhide hd env e1))
    | .ret v => pure (.ret v)
  | .ret _ e, env => do let d ← evE Φ e env; pure (.ret d)
  | .retN, _ => .ok (.ret .none)
  | .raise_ c, _ => .exc c
  | .expr e, env => do let _ ← evE Φ e env; pure (.next env)
  | .pass, env => .ok (.next env)
  | .stop, _ => .bad
def evSs (Φ : Cfg) : Ss → Env → R Out
  | .nil, env => .ok (.next env)
  | .cons s ss, env => do
    let o ← evS Φ s env
    match o with
    | .next e1 => evSs Φ ss e1
    | .ret v => pure (.ret v)
end
/-- a function: its parameters' number, its slots, how deep each slot is owned, how deep its answer is owned, its body -/
structure Fn where
  np : Nat
  ns : Nat
  own : List Nat
  ret : Nat
  body : Ss
def evFn (Φ : Cfg) (f : Fn) (ds : List D) : R D :=
  if ds.length = f.np then
    match evSs Φ f.body (ds.map some ++ List.replicate (f.ns - f.np) none) with
    | .ok (.ret d) => .ok d
    | .ok (.next _) => .ok .none
    | .exc c => .exc c
    | .bad => .bad
  else .bad
abbrev Tab := List (Nat × Fn)
def run (T : Tab) (N : Nat) : Nat → Nat → List D → R D
  | 0, _, _ => .bad
  | k + 1, f, ds => match T.lookup f with
    | some fn => evFn ⟨run T N k, N⟩ fn ds
    | none => .bad
end Ev
set_option Elab.async false
set_option linter.all false
set_option maxRecDepth 100000
namespace Ev
open PySem PySem.Spec PyProof.Rows L2

/-! ### data in the abstract heap -/
mutual
inductive Rp (K : PySem.W.Frag) (H : Hp) : V → D → Prop
  | non : Rp K H .non .none
  | bl (b : Bool) : Rp K H (.bl b) (.bool b)
  | int (i : Int) : Rp K H (.int i) (.int i)
  | str (x : Str) : Rp K H (.str x) (.str x)
  | lst {a : Addr} {xs : List V} {ds : List D} : SqL K H a xs → Rps K H xs ds → Rp K H (.ref a) (.list ds)
  | tup {a : Addr} {xs : List V} {ds : List D} : SqT K H a xs → Rps K H xs ds → Rp K H (.ref a) (.tuple ds)
inductive Rps (K : PySem.W.Frag) (H : Hp) : List V → List D → Prop
  | nil : Rps K H [] []
  | cons {v : V} {vs : List V} {d : D} {ds : List D} : Rp K H v d → Rps K H vs ds → Rps K H (v :: vs) (d :: ds)
end
theorem Same.seqT {K : PySem.W.Frag} {H H' : Hp} {a : Addr} {xs : List V} (e : Same H H') (h : SqT K H a xs) : SqT K H' a xs := by
  rcases h with (h | ⟨o, h⟩) | h
  · exact .inl (.inl (e _ _ h))
  · exact .inl (.inr ⟨o, e _ _ h⟩)
  · exact .inr h
section
variable {K : PySem.W.Frag} {H H' : Hp}
mutual
theorem Rp.mono (e : Same H H') : ∀ {v : V} {d : D}, Rp K H v d → Rp K H' v d
  | _, _, .non => .non
  | _, _, .bl b => .bl b
  | _, _, .int i => .int i
  | _, _, .str x => .str x
  | _, _, .lst s r => .lst (Same.seq e s) (Rps.mono e r)
  | _, _, .tup s r => .tup (Same.seqT e s) (Rps.mono e r)
theorem Rps.mono (e : Same H H') : ∀ {vs : List V} {ds : List D}, Rps K H vs ds → Rps K H' vs ds
  | _, _, .nil => .nil
  | _, _, .cons a b => .cons (Rp.mono e a) (Rps.mono e b)
end
theorem Rps.length : ∀ {vs : List V} {ds : List D}, Rps K H vs ds → vs.length = ds.length
  | _, _, .nil => rfl
  | _, _, .cons _ r => congrArg (· + 1) r.length
theorem Rps.get : ∀ {vs : List V} {ds : List D} {i : Nat} {d : D}, Rps K H vs ds → ds[i]? = some d → ∃ v, vs[i]? = some v ∧ Rp K H v d
  | _, _, _, _, .nil, h => by simp at h
  | _, _, 0, _, .cons a _, h => ⟨_, rfl, by simp at h; subst h; exact a⟩
  | _, _, i + 1, d, .cons _ r, h => by
    obtain ⟨v, h1, h2⟩ := Rps.get (i := i) r (by simpa using h)
    exact ⟨v, by simpa using h1, h2⟩
theorem Rps.getV : ∀ {vs : List V} {ds : List D} {i : Nat} {v : V}, Rps K H vs ds → vs[i]? = some v → ∃ d, ds[i]? = some d ∧ Rp K H v d
  | _, _, _, _, .nil, h => by simp at h
  | _, _, 0, _, .cons a _, h => ⟨_, rfl, by simp at h; subst h; exact a⟩
  | _, _, i + 1, d, .cons _ r, h => by
    obtain ⟨v, h1, h2⟩ := Rps.getV (i := i) r (by simpa using h)
    exact ⟨v, by simpa using h1, h2⟩
theorem Rps.append : ∀ {vs ws : List V} {ds es : List D}, Rps K H vs ds → Rps K H ws es → Rps K H (vs ++ ws) (ds ++ es)
  | _, _, _, _, .nil, r => r
  | _, _, _, _, .cons a b, r => .cons a (b.append r)
theorem Rps.take : ∀ {vs : List V} {ds : List D} (n : Nat), Rps K H vs ds → Rps K H (vs.take n) (ds.take n)
  | _, _, 0, _ => .nil
  | _, _, _ + 1, .nil => .nil
  | _, _, n + 1, .cons a b => .cons a (b.take n)
theorem Rps.drop : ∀ {vs : List V} {ds : List D} (n : Nat), Rps K H vs ds → Rps K H (vs.drop n) (ds.drop n)
  | _, _, 0, r => r
  | _, _, _ + 1, .nil => .nil
  | _, _, n + 1, .cons _ b => b.drop n
theorem Rps.reverse : ∀ {vs : List V} {ds : List D}, Rps K H vs ds → Rps K H vs.reverse ds.reverse
  | _, _, .nil => .nil
  | _, _, .cons a b => by
    rw [List.reverse_cons, List.reverse_cons]
    exact b.reverse.append (.cons a .nil)
theorem Rps.rep : ∀ (k : Nat) {vs : List V} {ds : List D}, Rps K H vs ds → Rps K H (List.replicate k vs).flatten (repL k ds)
  | 0, _, _, _ => .nil
  | k + 1, vs, ds, r => by
    show Rps K H (vs :: List.replicate k vs).flatten (ds :: List.replicate k ds).flatten
    rw [List.flatten_cons, List.flatten_cons]
    exact r.append (Rps.rep k r)
theorem Rps.set : ∀ {vs : List V} {ds : List D} {v : V} {d : D} (j : Nat), Rp K H v d → Rps K H vs ds → Rps K H (vs.set j v) (ds.set j d)
  | _, _, _, _, _, _, .nil => .nil
  | _, _, _, _, 0, h, .cons _ b => .cons h b
  | _, _, _, _, j + 1, h, .cons a b => .cons a (Rps.set j h b)
theorem Rps.eraseIdx : ∀ {vs : List V} {ds : List D} (j : Nat), Rps K H vs ds → Rps K H (vs.eraseIdx j) (ds.eraseIdx j)
  | _, _, _, .nil => .nil
  | _, _, 0, .cons _ b => b
  | _, _, j + 1, .cons a b => .cons a (Rps.eraseIdx j b)
theorem Rps.dropLast : ∀ {vs : List V} {ds : List D}, Rps K H vs ds → Rps K H vs.dropLast ds.dropLast
  | _, _, .nil => .nil
  | _, _, .cons _ .nil => .nil
  | _, _, .cons a (.cons b c) => .cons a (Rps.dropLast (.cons b c))
theorem Rps.cut {vs : List V} {ds : List D} (lo hi : Option Int) (r : Rps K H vs ds) : Rps K H (cutV vs lo hi) (Ev.cut ds lo hi) := by
  unfold cutV Ev.cut
  rw [r.length]
  exact (r.drop _).take _
theorem Rps.ints : ∀ {vs : List V} {ds : List D} {ns : List Int}, Rps K H vs ds → mapR asI ds = .ok ns → vs = ns.map V.int
  | _, _, ns, .nil, h => by cases h; rfl
  | _, _, ns, .cons (d := d) a b, h => by
    unfold mapR at h
    obtain ⟨i, h1, h⟩ := R.bind_ok h
    obtain ⟨ns', h2, h⟩ := R.bind_ok h
    cases h
    have e := b.ints h2
    subst e
    cases a <;> first | cases h1 | skip
    rfl
theorem Rps.bls : ∀ {vs : List V} {ds : List D} {bs : List Bool}, Rps K H vs ds → mapR asB ds = .ok bs → vs = bs.map V.bl
  | _, _, ns, .nil, h => by cases h; rfl
  | _, _, ns, .cons (d := d) a b, h => by
    unfold mapR at h
    obtain ⟨i, h1, h⟩ := R.bind_ok h
    obtain ⟨ns', h2, h⟩ := R.bind_ok h
    cases h
    have e := b.bls h2
    subst e
    cases a <;> first | cases h1 | skip
    rfl
mutual
theorem Rp.dp : ∀ {v : V} {d : D}, Rp K H v d → Dp K H v d
  | _, _, .non => .non
  | _, _, .bl b => .bl b
  | _, _, .int i => .int i
  | _, _, .str x => .str x
  | _, _, .lst s r => .lst s (Rps.dp r)
  | _, _, .tup s r => .tup s (Rps.dp r)
theorem Rps.dp : ∀ {vs : List V} {ds : List D}, Rps K H vs ds → DpAll K H vs ds
  | _, _, .nil => .nil
  | _, _, .cons a b => .cons (Rp.dp a) (Rps.dp b)
end
end

/-! ### hidden addresses -/
open Classical in
noncomputable def hid (B : Addr → Prop) (H : Hp) : Hp := fun a => if B a then none else H a
theorem hid_some {B : Addr → Prop} {H : Hp} {a : Addr} {o : HO} : hid B H a = some o ↔ ¬ B a ∧ H a = some o := by
  unfold hid
  by_cases h : B a
  · simp [h]
  · simp [h]
theorem same_hid {B : Addr → Prop} {H H' : Hp} (e : Same H H') : Same (hid B H) (hid B H') := fun a o h => by
  rw [hid_some] at h ⊢
  exact ⟨h.1, e _ _ h.2⟩
theorem hid_sub {B B' : Addr → Prop} {H : Hp} (h : ∀ a, B' a → B a) : Same (hid B H) (hid B' H) := fun a o q => by
  rw [hid_some] at q ⊢
  exact ⟨fun z => q.1 (h a z), q.2⟩
theorem hid_le {B : Addr → Prop} {H : Hp} : Same (hid B H) H := fun a o q => (hid_some.mp q).2
theorem same_new {H : Hp} {p : Addr} {o : HO} (h : H p = none) : Same H (upd H p o) := fun b x e => by
  rw [upd_ne (ne_of_none e h)]
  exact e

/-! ### owned data -/
/-- nothing here can be changed at the top -/
def notMut : D → Bool
  | .list _ => false
  | .dict _ => false
  | _ => true
mutual
/-- owned to the depth n; fp: the addresses owned -/
inductive OR (K : PySem.W.Frag) (H : Hp) (B : Addr → Prop) : Nat → V → D → List Addr → Prop
  | stb {v : V} {d : D} : Rp K (hid B H) v d → OR K H B 0 v d []
  | nm {n : Nat} {v : V} {d : D} : notMut d = true → Rp K (hid B H) v d → OR K H B n v d []
  | lst {n : Nat} {a : Addr} {xs : List V} {ds : List D} {fp : List Addr} : H a = some (.lst xs) → ORs K H B n xs ds fp → OR K H B (n + 1) (.ref a) (.list ds) (a :: fp)
inductive ORs (K : PySem.W.Frag) (H : Hp) (B : Addr → Prop) : Nat → List V → List D → List Addr → Prop
  | nil {n : Nat} : ORs K H B n [] [] []
  | cons {n : Nat} {v : V} {vs : List V} {d : D} {ds : List D} {f fs : List Addr} : OR K H B n v d f → ORs K H B n vs ds fs → ORs K H B n (v :: vs) (d :: ds) (f ++ fs)
end
section
variable {K : PySem.W.Frag} {H H' : Hp} {B B' : Addr → Prop}
mutual
/-- what is owned stays where its own objects and the rest stay -/
theorem OR.keep (e : Same (hid B H) (hid B' H')) : ∀ {n : Nat} {v : V} {d : D} {fp : List Addr}, OR K H B n v d fp → (∀ a ∈ fp, ∀ o, H a = some o → H' a = some o) → OR K H' B' n v d fp
  | _, _, _, _, .stb r, _ => .stb (r.mono e)
  | _, _, _, _, .nm h r, _ => .nm h (r.mono e)
  | _, _, _, _, .lst h r, k => .lst (k _ List.mem_cons_self _ h) (ORs.keep e r fun a ha => k a (List.mem_cons_of_mem _ ha))
theorem ORs.keep (e : Same (hid B H) (hid B' H')) : ∀ {n : Nat} {vs : List V} {ds : List D} {fp : List Addr}, ORs K H B n vs ds fp → (∀ a ∈ fp, ∀ o, H a = some o → H' a = some o) → ORs K H' B' n vs ds fp
  | _, _, _, _, .nil, _ => .nil
  | _, _, _, _, .cons a b, k => .cons (OR.keep e a fun x hx => k x (List.mem_append_left _ hx)) (ORs.keep e b fun x hx => k x (List.mem_append_right _ hx))
end
mutual
theorem OR.al : ∀ {n : Nat} {v : V} {d : D} {fp : List Addr}, OR K H B n v d fp → ∀ a ∈ fp, H a ≠ none
  | _, _, _, _, .stb r, a, h => nomatch h
  | _, _, _, _, .nm h r, a, h' => nomatch h'
  | _, _, _, _, .lst h r, a, h' => by
    rcases List.mem_cons.mp h' with e | e
    · rw [e, h]; exact fun z => nomatch z
    · exact ORs.al r a e
theorem ORs.al : ∀ {n : Nat} {vs : List V} {ds : List D} {fp : List Addr}, ORs K H B n vs ds fp → ∀ a ∈ fp, H a ≠ none
  | _, _, _, _, .nil, a, h => nomatch h
  | _, _, _, _, .cons x y, a, h => (List.mem_append.mp h).elim (OR.al x a) (ORs.al y a)
end
mutual
/-- given up: its addresses are no longer hidden -/
theorem OR.free (e : Same (hid B H) (hid B' H)) : ∀ {n : Nat} {v : V} {d : D} {fp : List Addr}, OR K H B n v d fp → (∀ a ∈ fp, ¬ B' a) → Rp K (hid B' H) v d
  | _, _, _, _, .stb r, _ => r.mono e
  | _, _, _, _, .nm h r, _ => r.mono e
  | _, _, _, _, .lst h r, k => .lst (.inl (.inl (hid_some.mpr ⟨k _ List.mem_cons_self, h⟩))) (ORs.free e r fun a ha => k a (List.mem_cons_of_mem _ ha))
theorem ORs.free (e : Same (hid B H) (hid B' H)) : ∀ {n : Nat} {vs : List V} {ds : List D} {fp : List Addr}, ORs K H B n vs ds fp → (∀ a ∈ fp, ¬ B' a) → Rps K (hid B' H) vs ds
  | _, _, _, _, .nil, _ => .nil
  | _, _, _, _, .cons a b, k => .cons (OR.free e a fun x hx => k x (List.mem_append_left _ hx)) (ORs.free e b fun x hx => k x (List.mem_append_right _ hx))
end
theorem ORs.length : ∀ {n : Nat} {vs : List V} {ds : List D} {fp : List Addr}, ORs K H B n vs ds fp → vs.length = ds.length
  | _, _, _, _, .nil => rfl
  | _, _, _, _, .cons _ r => congrArg (· + 1) r.length
theorem OR.zero : ∀ {v : V} {d : D} {fp : List Addr}, OR K H B 0 v d fp → Rp K (hid B H) v d ∧ fp = []
  | _, _, _, .stb r => ⟨r, rfl⟩
  | _, _, _, .nm _ r => ⟨r, rfl⟩
theorem ORs.zero : ∀ {vs : List V} {ds : List D} {fp : List Addr}, ORs K H B 0 vs ds fp → Rps K (hid B H) vs ds ∧ fp = []
  | _, _, _, .nil => ⟨.nil, rfl⟩
  | _, _, _, .cons a b => by
    obtain ⟨r1, e1⟩ := a.zero
    obtain ⟨r2, e2⟩ := b.zero
    exact ⟨.cons r1 r2, by rw [e1, e2]; rfl⟩
theorem ORs.of0 : ∀ {vs : List V} {ds : List D}, Rps K (hid B H) vs ds → ORs K H B 0 vs ds []
  | _, _, .nil => .nil
  | _, _, .cons a b => .cons (.stb a) (ORs.of0 b)
theorem OR.ref {n : Nat} {v : V} {d : D} {fp : List Addr} (h : OR K H B n v d fp) (hn : n ≠ 0) (hd : ∃ l, d = .list l) : ∃ m a xs ds fp', n = m + 1 ∧ v = .ref a ∧ d = .list ds ∧ fp = a :: fp' ∧ H a = some (.lst xs) ∧ ORs K H B m xs ds fp' := by
  obtain ⟨l, rfl⟩ := hd
  cases h with
  | stb r => exact absurd rfl hn
  | nm h r => cases h
  | lst h r => exact ⟨_, _, _, _, _, rfl, rfl, rfl, rfl, h, r⟩
end
/-- what is hidden: by the callers, by the slots -/
def ex (A : Addr → Prop) (fs : Nat → List Addr) : Addr → Prop := fun a => A a ∨ ∃ i, a ∈ fs i
/-- .. but for the slots of L -/
def exL (A : Addr → Prop) (fs : Nat → List Addr) (L : List Nat) : Addr → Prop := fun a => A a ∨ ∃ i, i ∉ L ∧ a ∈ fs i
theorem exL_sub {A : Addr → Prop} {fs : Nat → List Addr} {L L' : List Nat} (h : ∀ i ∈ L, i ∈ L') : ∀ a, exL A fs L' a → exL A fs L a := fun a q => by
  rcases q with q | ⟨i, h1, h2⟩
  · exact .inl q
  · exact .inr ⟨i, fun z => h1 (h i z), h2⟩
theorem exL_nil {A : Addr → Prop} {fs : Nat → List Addr} : exL A fs [] = ex A fs := by
  funext a
  simp [exL, ex]
/-- the frame's slots hold the environment's data -/
structure Ok (K : PySem.W.Frag) (A : Addr → Prop) (H : Hp) (σ : L2.St) (env : Env) (own : List Nat) (fs : Nat → List Addr) : Prop where
  len : σ.length = env.length
  ow : own.length ≤ env.length
  sl : ∀ (i : Nat) (d : D), env[i]? = some (some d) → ∃ v, σ[i]? = some (some v) ∧ OR K H (ex A fs) (own.getD i 0) v d (fs i)
  nil : ∀ i, (∀ d, env[i]? ≠ some (some d)) → fs i = []
  nd : ∀ i, (fs i).Nodup
  dis : ∀ i j a, a ∈ fs i → a ∈ fs j → i = j
  apart : ∀ i a, A a → a ∉ fs i
  al : ∀ a, A a → H a ≠ none
section
variable {K : PySem.W.Frag} {A : Addr → Prop} {H H' : Hp} {σ : L2.St} {env : Env} {own : List Nat} {fs : Nat → List Addr}
theorem Ok.same (k : Ok K A H σ env own fs) (e : Same H H') : Ok K A H' σ env own fs where
  len := k.len
  ow := k.ow
  sl := fun i d h => by
    obtain ⟨v, h1, h2⟩ := k.sl i d h
    exact ⟨v, h1, h2.keep (same_hid e) fun a _ o q => e a o q⟩
  nil := k.nil
  nd := k.nd
  dis := k.dis
  apart := k.apart
  al := fun a h z => by
    cases q : H a with
    | none => exact k.al a h q
    | some o => rw [e a o q] at z; cases z
theorem Ok.fal (k : Ok K A H σ env own fs) : ∀ i a, a ∈ fs i → H a ≠ none := fun i a h => by
  by_cases q : ∃ d, env[i]? = some (some d)
  · obtain ⟨d, q⟩ := q
    obtain ⟨v, _, r⟩ := k.sl i d q
    exact r.al a h
  · have z := k.nil i fun d e => q ⟨d, e⟩
    rw [z] at h; cases h
theorem Ok.exal (k : Ok K A H σ env own fs) : ∀ a, ex A fs a → H a ≠ none := fun a h => by
  rcases h with h | ⟨i, h⟩
  · exact k.al a h
  · exact k.fal i a h
end
end Ev
set_option Elab.async false
set_option linter.all false
set_option maxRecDepth 100000
namespace Ev
open PySem PySem.Spec PyProof.Rows L2

/-! ### readings over data -/
abbrev Pr := (Addr → Prop) → (Nat → List Addr) → Hp → Hp → V → D → Prop
/-- what is wanted of an outcome -/
def Rest {α β : Type} (W : WX) (C : Nat → Value) (σ : L2.St) (P : Hp → β → α → Prop) (H : Hp) (Q : β → Hp → Prop) : R α → Prop
  | .ok d => ∀ v H', Same H H' → P H' v d → Q v H'
  | .exc c => ∀ H', Same H H' → W (C c) none σ H'
  | .bad => False
/-- the answer lies as P says -/
def tR (K : PySem.W.Frag) (W : WX) (C : Nat → Value) (own : List Nat) (P : Pr) (f : Env → R D) : TE := fun σ H Q =>
  ∃ A env fs, Ok K A H σ env own fs ∧ Rest W C σ (P A fs H) H Q (f env)
def PV (K : PySem.W.Frag) (L : List Nat) : Pr := fun A fs _ H' v d => Rp K (hid (exL A fs L) H') v d
/-- a list may be owned itself (by the slots of M), what is in it not (but by those of L) -/
def PC (K : PySem.W.Frag) (M L : List Nat) : Pr := fun A fs _ H' v d => (notMut d = true ∧ Rp K (hid (exL A fs L) H') v d) ∨
  ∃ a xs ds, v = .ref a ∧ d = .list ds ∧ SqL K (hid (exL A fs M) H') a xs ∧ Rps K (hid (exL A fs L) H') xs ds
/-- a new list, or what is none -/
def PF (K : PySem.W.Frag) (L : List Nat) : Pr := fun A fs H H' v d => (notMut d = true ∧ Rp K (hid (exL A fs L) H') v d) ∨
  ∃ a xs ds, v = .ref a ∧ d = .list ds ∧ H a = none ∧ H' a = some (.lst xs) ∧ Rps K (hid (fun b => exL A fs L b ∨ b = a) H') xs ds
/-- a test -/
def tRT (K : PySem.W.Frag) (W : WX) (C : Nat → Value) (own : List Nat) (f : Env → R Bool) : TT := fun σ H Q =>
  ∃ A env fs, Ok K A H σ env own fs ∧ Rest W C σ (fun _ v d => v = d) H Q (f env)
/-- arguments -/
def tRA (K : PySem.W.Frag) (W : WX) (C : Nat → Value) (own : List Nat) (L : List Nat) (f : Env → R (List D)) : TA := fun σ H Q =>
  ∃ A env fs, Ok K A H σ env own fs ∧ Rest W C σ (fun H' vs ds => Rps K (hid (exL A fs L) H') vs ds) H Q (f env)
/-- parts of a slice -/
def tRO (K : PySem.W.Frag) (W : WX) (C : Nat → Value) (own : List Nat) (f : Env → R (Option Int)) : TO := fun σ H Q =>
  ∃ A env fs, Ok K A H σ env own fs ∧ Rest W C σ (fun _ v d => v = d) H Q (f env)
section
variable {K : PySem.W.Frag} {W : WX} {C : Nat → Value} {own : List Nat} {X : Cx} {σ : L2.St} {H H' : Hp} {A : Addr → Prop} {env : Env} {fs : Nat → List Addr}
theorem _root_.L2.PE.imp {e : Expr} {t t' : TE} (h : PE X e t) (hi : ∀ σ H Q, t' σ H Q → t σ H Q) : PE X e t' := ⟨fun pins s σ H Q I hq => h.run pins s σ H Q I (hi σ H Q hq)⟩
theorem _root_.L2.PT.imp {e : Expr} {t t' : TT} (h : PT X e t) (hi : ∀ σ H Q, t' σ H Q → t σ H Q) : PT X e t' := ⟨fun pins s σ H Q I hq => h.run pins s σ H Q I (hi σ H Q hq)⟩
theorem _root_.L2.PW.imp {e : Expr} {t t' : TT} (h : PW X e t) (hi : ∀ σ H Q, t' σ H Q → t σ H Q) : PW X e t' := ⟨fun wh pins s σ H Q I hq => h.run wh pins s σ H Q I (hi σ H Q hq)⟩
theorem _root_.L2.PA.imp {e : List Expr} {t t' : TA} (h : PA X e t) (hi : ∀ σ H Q, t' σ H Q → t σ H Q) : PA X e t' := ⟨fun p pins s σ H Q I hq => h.run p pins s σ H Q I (hi σ H Q hq)⟩
theorem Rest.imp {α β : Type} {P P' : Hp → β → α → Prop} {Q : β → Hp → Prop} {r : R α} (h : Rest W C σ P H Q r) (hp : ∀ H' v d, Same H H' → P' H' v d → P H' v d) : Rest W C σ P' H Q r := by
  cases r with
  | ok d => exact fun v H' s p => h v H' s (hp H' v d s p)
  | exc c => exact h
  | bad => exact h
theorem Rest.post {α β : Type} {P : Hp → β → α → Prop} {Q Q' : β → Hp → Prop} {r : R α} (h : Rest W C σ P H Q r) (hp : ∀ v H', Q v H' → Q' v H') : Rest W C σ P H Q' r := by
  cases r with
  | ok d => exact fun v H' s p => hp _ _ (h v H' s p)
  | exc c => exact h
  | bad => exact h
theorem Rest.here {α β : Type} {P : Hp → β → α → Prop} {Q : β → Hp → Prop} {d : α} {v : β} (h : Rest W C σ P H Q (.ok d)) (p : P H v d) : Q v H := h v H (Same.refl H) p
theorem Rest.to {α β : Type} {P : Hp → β → α → Prop} {Q : β → Hp → Prop} {d : α} {v : β} (h : Rest W C σ P H Q (.ok d)) (s : Same H H') (p : P H' v d) : Q v H' := h v H' s p
theorem Rest.later {α β : Type} {P : Hp → β → α → Prop} {Q : β → Hp → Prop} {r : R α} (h : Rest W C σ P H Q r) (s : Same H H') : Rest W C σ P H' Q r := by
  cases r with
  | ok d => exact fun v H'' s' p => h v H'' (s.trans s') p
  | exc c => exact fun H'' s' => h H'' (s.trans s')
  | bad => exact h
/-- one expression, then the rest -/
theorem Rest.bindE {β : Type} {f : Env → R D} {P : Pr} {γ : Type} {P3 : Hp → β → γ → Prop} {Q : β → Hp → Prop} {k : D → R γ} {T : VK} (ok : Ok K A H σ env own fs) (r : Rest W C σ P3 H Q (f env >>= k))
    (hk : ∀ x v H1, Ok K A H1 σ env own fs → Same H H1 → P A fs H H1 v x → Rest W C σ P3 H1 Q (k x) → T v H1) : tR K W C own P f σ H T := by
  refine ⟨A, env, fs, ok, ?_⟩
  cases e : f env with
  | ok x =>
    rw [e] at r
    exact fun v H1 s p => hk x v H1 (ok.same s) s p (Rest.later r s)
  | exc c => rw [e] at r; exact r
  | bad => rw [e] at r; exact r
theorem Rest.bindA {β : Type} {f : Env → R (List D)} {L : List Nat} {γ : Type} {P3 : Hp → β → γ → Prop} {Q : β → Hp → Prop} {k : List D → R γ} {T : List V → Hp → Prop} (ok : Ok K A H σ env own fs) (r : Rest W C σ P3 H Q (f env >>= k))
    (hk : ∀ x v H1, Ok K A H1 σ env own fs → Same H H1 → Rps K (hid (exL A fs L) H1) v x → Rest W C σ P3 H1 Q (k x) → T v H1) : tRA K W C own L f σ H T := by
  refine ⟨A, env, fs, ok, ?_⟩
  cases e : f env with
  | ok x =>
    rw [e] at r
    exact fun v H1 s p => hk x v H1 (ok.same s) s p (Rest.later r s)
  | exc c => rw [e] at r; exact r
  | bad => rw [e] at r; exact r
theorem Rest.bindO {β : Type} {f : Env → R (Option Int)} {γ : Type} {P3 : Hp → β → γ → Prop} {Q : β → Hp → Prop} {k : Option Int → R γ} {T : Option Int → Hp → Prop} (ok : Ok K A H σ env own fs) (r : Rest W C σ P3 H Q (f env >>= k))
    (hk : ∀ x H1, Ok K A H1 σ env own fs → Same H H1 → Rest W C σ P3 H1 Q (k x) → T x H1) : tRO K W C own f σ H T := by
  refine ⟨A, env, fs, ok, ?_⟩
  cases e : f env with
  | ok x =>
    rw [e] at r
    rintro v H1 s rfl
    exact hk _ H1 (ok.same s) s (Rest.later r s)
  | exc c => rw [e] at r; exact r
  | bad => rw [e] at r; exact r
theorem Rest.bindT {β : Type} {f : Env → R Bool} {γ : Type} {P3 : Hp → β → γ → Prop} {Q : β → Hp → Prop} {k : Bool → R γ} {T : Bool → Hp → Prop} (ok : Ok K A H σ env own fs) (r : Rest W C σ P3 H Q (f env >>= k))
    (hk : ∀ x H1, Ok K A H1 σ env own fs → Same H H1 → Rest W C σ P3 H1 Q (k x) → T x H1) : tRT K W C own f σ H T := by
  refine ⟨A, env, fs, ok, ?_⟩
  cases e : f env with
  | ok x =>
    rw [e] at r
    rintro v H1 s rfl
    exact hk _ H1 (ok.same s) s (Rest.later r s)
  | exc c => rw [e] at r; exact r
  | bad => rw [e] at r; exact r
/-- pure steps -/
theorem Rest.pI {γ β : Type} {P3 : Hp → β → γ → Prop} {Q : β → Hp → Prop} {k : Int → R γ} {d : D} (r : Rest W C σ P3 H Q (asI d >>= k)) : ∃ i, d = .int i ∧ Rest W C σ P3 H Q (k i) := by
  cases d <;> first | exact False.elim r | exact ⟨_, rfl, r⟩
theorem Rest.pB {γ β : Type} {P3 : Hp → β → γ → Prop} {Q : β → Hp → Prop} {k : Bool → R γ} {d : D} (r : Rest W C σ P3 H Q (asB d >>= k)) : ∃ i, d = .bool i ∧ Rest W C σ P3 H Q (k i) := by
  cases d <;> first | exact False.elim r | exact ⟨_, rfl, r⟩
theorem Rest.ite_bad {γ β : Type} {P3 : Hp → β → γ → Prop} {Q : β → Hp → Prop} {c : Prop} [Decidable c] {a : R γ} (r : Rest W C σ P3 H Q (if c then a else .bad)) : c ∧ Rest W C σ P3 H Q a := by
  by_cases h : c
  · rw [if_pos h] at r; exact ⟨h, r⟩
  · rw [if_neg h] at r; exact False.elim r

/-! ### from one form to another -/
theorem PC.of_PV {L L' M : List Nat} {v : V} {d : D} (hM : ∀ i ∈ L, i ∈ M) (h : PV K L A fs H H' v d) : PC K M L A fs H H' v d := by
  cases d with
  | list ds =>
    cases h with
    | lst s r => exact .inr ⟨_, _, _, rfl, rfl, Same.seq (hid_sub (exL_sub hM)) s, r⟩
  | dict kvs => cases h
  | none => exact .inl ⟨rfl, h⟩
  | bool b => exact .inl ⟨rfl, h⟩
  | int i => exact .inl ⟨rfl, h⟩
  | str x => exact .inl ⟨rfl, h⟩
  | tuple xs => exact .inl ⟨rfl, h⟩
theorem PV.of_PF {L : List Nat} {v : V} {d : D} (ok : Ok K A H σ env own fs) (h : PF K L A fs H H' v d) : PV K L A fs H H' v d := by
  rcases h with ⟨_, h⟩ | ⟨a, xs, ds, rfl, rfl, h1, h2, h3⟩
  · exact h
  · refine .lst (.inl (.inl (hid_some.mpr ⟨fun z => ?_, h2⟩))) (h3.mono (hid_sub fun b z => .inl z))
    rcases z with z | ⟨i, _, z⟩
    · exact ok.al a z h1
    · exact ok.fal i a z h1
theorem pe_PV {e : Expr} {L : List Nat} {f : Env → R D} (h : PE X e (tR K W C own (PF K L) f)) : PE X e (tR K W C own (PV K L) f) :=
  h.imp fun σ H Q ⟨A, env, fs, ok, r⟩ => ⟨A, env, fs, ok, r.imp fun H' v d s p => PV.of_PF ok p⟩
theorem pe_PC {e : Expr} {M L : List Nat} {f : Env → R D} (hM : ∀ i ∈ L, i ∈ M) (h : PE X e (tR K W C own (PV K L) f)) : PE X e (tR K W C own (PC K M L) f) :=
  h.imp fun σ H Q ⟨A, env, fs, ok, r⟩ => ⟨A, env, fs, ok, r.imp fun H' v d s p => PC.of_PV (L' := L) hM p⟩
theorem PC.flat {M L : List Nat} {v : V} {d : D} (h : PC K M L A fs H H' v d) (hd : flat d = true) : Rp K H' v d := by
  rcases h with ⟨_, h⟩ | ⟨a, xs, ds, rfl, rfl, _⟩
  · exact h.mono hid_le
  · cases hd
/-- as it stands in the heap -/
theorem PC.rp {M L : List Nat} {v : V} {d : D} (h : PC K M L A fs H H' v d) : Rp K H' v d := by
  rcases h with ⟨_, h⟩ | ⟨a, xs, ds, rfl, rfl, h1, h2⟩
  · exact h.mono hid_le
  · exact .lst (Same.seq hid_le h1) (h2.mono hid_le)
theorem PC.later {M L : List Nat} {H0 H1 H2 : Hp} {v : V} {d : D} (h : PC K M L A fs H0 H1 v d) (s : Same H1 H2) : PC K M L A fs H0 H2 v d := by
  rcases h with ⟨h1, h⟩ | ⟨a, xs, ds, rfl, rfl, h1, h2⟩
  · exact .inl ⟨h1, h.mono (same_hid s)⟩
  · exact .inr ⟨a, xs, ds, rfl, rfl, Same.seq (same_hid s) h1, h2.mono (same_hid s)⟩
end
section
variable {K : PySem.W.Frag} {H : Hp} {v : V}
theorem Rp.int' {i : Int} (h : Rp K H v (.int i)) : v = .int i := by cases h; rfl
theorem Rp.bl' {i : Bool} (h : Rp K H v (.bool i)) : v = .bl i := by cases h; rfl
theorem Rp.str' {i : Str} (h : Rp K H v (.str i)) : v = .str i := by cases h; rfl
theorem Rp.non' (h : Rp K H v .none) : v = .non := by cases h; rfl
theorem Rp.tup' {ds : List D} (h : Rp K H v (.tuple ds)) : ∃ a xs, v = .ref a ∧ SqT K H a xs ∧ Rps K H xs ds := by cases h with | tup s r => exact ⟨_, _, rfl, s, r⟩
theorem Rp.lst' {ds : List D} (h : Rp K H v (.list ds)) : ∃ a xs, v = .ref a ∧ SqL K H a xs ∧ Rps K H xs ds := by cases h with | lst s r => exact ⟨_, _, rfl, s, r⟩
end

/-! ### leaves -/
section
variable {W : WX} {C : Nat → Value} {own : List Nat} {X : Cx} {pos : Pos}
theorem v_int {i : Int} {j : Nat} : PE X (.Constant (.int i) j pos) (tR X.K W C own (PF X.K []) fun _ => .ok (.int i)) :=
  pe_int.imp fun σ H Q ⟨A, env, fs, ok, r⟩ => Rest.here r (.inl ⟨rfl, .int i⟩)
theorem v_bl {i : Bool} {j : Nat} : PE X (.Constant (.bool i) j pos) (tR X.K W C own (PF X.K []) fun _ => .ok (.bool i)) :=
  pe_bl.imp fun σ H Q ⟨A, env, fs, ok, r⟩ => Rest.here r (.inl ⟨rfl, .bl i⟩)
theorem v_non {j : Nat} : PE X (.Constant .none j pos) (tR X.K W C own (PF X.K []) fun _ => .ok .none) :=
  pe_non.imp fun σ H Q ⟨A, env, fs, ok, r⟩ => Rest.here r (.inl ⟨rfl, .non⟩)
theorem v_str {x : Str} {j : Nat} : PE X (.Constant (.str x) j pos) (tR X.K W C own (PF X.K []) fun _ => .ok (.str x)) :=
  pe_str.imp fun σ H Q ⟨A, env, fs, ok, r⟩ => Rest.here r (.inl ⟨rfl, .str x⟩)
theorem getS_ok {env : Env} {i : Nat} {d : D} (h : env[i]? = some (some d)) : getS env i = .ok d := by unfold getS; rw [h]
theorem getS_cases (env : Env) (i : Nat) : (∃ d, env[i]? = some (some d) ∧ getS env i = .ok d) ∨ getS env i = .bad := by
  cases e : env[i]? with
  | none => exact .inr (by unfold getS; rw [e])
  | some o =>
    cases o with
    | none => exact .inr (by unfold getS; rw [e])
    | some d => exact .inl ⟨d, rfl, getS_ok e⟩
def ownS (own : List Nat) (i : Nat) : List Nat := if own.getD i 0 = 0 then [] else [i]
theorem v_var {i : Nat} {x : Str} (hN : X.N[i]? = some x) (hv : Vis X.env.scope x) (hd : (x == ("__debug__" : Str)) = false) (hcd : (x == ("__classdict__" : Str)) = false) :
    PE X (.Name x pos) (tR X.K W C own (PV X.K (ownS own i)) fun env => getS env i) := by
  refine (pe_var hN hv hd hcd).imp fun σ H Q ⟨A, env, fs, ok, r⟩ => ?_
  dsimp only at r
  rcases getS_cases env i with ⟨d, e1, e2⟩ | e2
  · rw [e2] at r
    obtain ⟨v, hv1, o⟩ := ok.sl i d e1
    refine ⟨v, hv1, Rest.here r ?_⟩
    unfold ownS
    by_cases h0 : own.getD i 0 = 0
    · rw [if_pos h0]
      rw [h0] at o
      show Rp _ (hid (exL A fs []) H) v d
      rw [exL_nil]
      exact o.zero.1
    · rw [if_neg h0]
      refine o.free (hid_sub fun a z => ?_) fun a ha z => ?_
      · rcases z with z | ⟨j, _, z⟩
        · exact .inl z
        · exact .inr ⟨j, z⟩
      · rcases z with z | ⟨j, hj, z⟩
        · exact ok.apart i a z ha
        · exact hj (by rw [ok.dis j i a z ha]; exact List.mem_cons_self)
  · rw [e2] at r
    exact False.elim r
/-- .. where its items alone are read -/
theorem c_var {i : Nat} {x : Str} (ho : own.getD i 0 ≤ 1) (hN : X.N[i]? = some x) (hv : Vis X.env.scope x) (hd : (x == ("__debug__" : Str)) = false) (hcd : (x == ("__classdict__" : Str)) = false) :
    PE X (.Name x pos) (tR X.K W C own (PC X.K (ownS own i) []) fun env => getS env i) := by
  refine (pe_var hN hv hd hcd).imp fun σ H Q ⟨A, env, fs, ok, r⟩ => ?_
  dsimp only at r
  rcases getS_cases env i with ⟨d, e1, e2⟩ | e2
  · rw [e2] at r
    obtain ⟨v, hv1, o⟩ := ok.sl i d e1
    refine ⟨v, hv1, Rest.here r ?_⟩
    by_cases h0 : own.getD i 0 = 0
    · rw [h0] at o
      refine PC.of_PV (L' := []) (L := []) (fun i z => nomatch z) ?_
      show Rp _ (hid (exL A fs []) H) v d
      rw [exL_nil]
      exact o.zero.1
    · have h1 : own.getD i 0 = 1 := by omega
      by_cases hl : ∃ l, d = .list l
      · obtain ⟨m, a, xs, ds, fp', e, rfl, rfl, ef, ha, hs⟩ := o.ref h0 hl
        have em : m = 0 := by omega
        subst em
        refine .inr ⟨a, xs, ds, rfl, rfl, .inl (.inl (hid_some.mpr ⟨fun z => ?_, ha⟩)), ?_⟩
        · have hm : a ∈ fs i := by rw [ef]; exact List.mem_cons_self
          rcases z with z | ⟨j, hj, z⟩
          · exact ok.apart i a z hm
          · apply hj
            rw [ok.dis j i a z hm]
            unfold ownS
            rw [if_neg h0]
            exact List.mem_cons_self
        · rw [exL_nil]; exact hs.zero.1
      · rw [h1] at o
        generalize fs i = fp at o
        cases o with
        | nm hn q => exact .inl ⟨hn, by rw [exL_nil]; exact q⟩
        | lst hn q => exact absurd ⟨_, rfl⟩ hl
  · rw [e2] at r
    exact False.elim r
/-- a module's constant -/
theorem v_cst {x : Str} {u : Value} {v : V} {d : D} (hg : Gl X x) (hm : X.mg x = some u) (r : RelV v u) (hn : notMut d = true) (hp : ∀ H, Rp X.K H v d) (hd : (x == ("__debug__" : Str)) = false) :
    PE X (.Name x pos) (tR X.K W C own (PF X.K []) fun _ => .ok d) :=
  (pe_glob hg hm r hd).imp fun σ H Q ⟨A, env, fs, ok, r⟩ => Rest.here r (.inl ⟨hn, hp _⟩)
end
end Ev
set_option Elab.async false
set_option linter.all false
set_option maxRecDepth 100000
namespace Ev
open PySem PySem.Spec PyProof.Rows L2

/-! ### operators -/
section
variable {X : Cx}
/-- list + list, whatever the lists stand in -/
def rCatS (K : PySem.W.Frag) : R2 := fun x y H Q => ∃ l b xs zs, x = .ref l ∧ y = .ref b ∧ SqL K H l xs ∧ SqL K H b zs ∧ xs.length + zs.length ≤ sizeLine ∧ ∀ p, H p = none → Q (.ref p) (upd H p (.lst (xs ++ zs)))
theorem op_catS : OpR X (binaryOp .Add) (rCatS X.K) := by
  intro pins s σ H x y v u Q I rx ry h
  obtain ⟨l, b, xs, zs, rfl, rfl, hH, hB, hz, q⟩ := h
  cases rx
  cases ry
  obtain ⟨its, r, ⟨⟨cls, dd, data, sl⟩, n, ho, hc, _, hd⟩, z⟩ := I.list hH
  obtain ⟨its2, r2, ⟨⟨cls2, dd2, data2, sl2⟩, n2, ho2, hc2, _, hd2⟩, z2⟩ := I.list hB
  simp only at hc hd hc2 hd2
  subst hc hd hc2 hd2
  have e1 := r.length
  have e2 := r2.length
  refine concat_meets ⟨_, ho, rfl⟩ ⟨_, ho2, rfl⟩ noFill_list_add seq_list_add PySem.F.slot_list_add PySem.F.entry_list_add (PySem.F.args_list_add_2 _ _) (list_addW l b its.toArray its2.toArray n n2 dd dd2 sl sl2 (by rw [List.size_toArray, List.size_toArray]; omega)) ⟨ho, ho2, ?_⟩
  have ea : its.toArray ++ its2.toArray = (its ++ its2).toArray := by simp
  rw [ea]
  exact ⟨.ref _, _, I.lnew (t' := s.toks) (r.append r2) (by rw [List.length_append]; omega), rfl, q _ I.fresh⟩
abbrev rAddI : R2 := rI0 fun i j => .int (i + j)
abbrev rAddS : R2 := fun x y H Q => ∃ i j, x = .str i ∧ y = .str j ∧ i.length + j.length ≤ sizeLine ∧ Q (.str (i ++ j)) H
def rAddAll (K : PySem.W.Frag) : R2 := fun x y H Q => rAddI x y H Q ∨ rAddS x y H Q ∨ rCatS K x y H Q ∨ rCatA K x y H Q
theorem op_addAll : OpR X (binaryOp .Add) (rAddAll X.K) := op_add.or (op_add_str.or (op_catS.or op_catA))
/-- all comparisons of data -/
def rBin (K : PySem.W.Frag) : BOp → R2
  | .add => rAddAll K
  | .sub => rI0 fun i j => .int (i - j)
  | .mul => rI CMul fun i j => .int (i * j)
  | .fdiv => rI CDivW fun i j => .int (i / j)
  | .mod => rI (fun _ j => 0 < j) fun i j => .int (i % j)
  | .pow => rI CPow fun i j => .int (i ^ j.toNat)
def opB : BOp → Operator
  | .add => .Add
  | .sub => .Sub
  | .mul => .Mult
  | .fdiv => .FloorDiv
  | .mod => .Mod
  | .pow => .Pow
theorem op_bin (o : BOp) : OpR X (binaryOp (opB o)) (rBin X.K o) := by
  cases o
  · exact op_addAll
  · exact op_sub
  · exact op_mul
  · exact op_fdivW
  · exact op_mod
  · exact op_pow
end
section
variable {K : PySem.W.Frag} {W : WX} {C : Nat → Value} {own : List Nat} {X : Cx} {σ : L2.St} {H H' : Hp} {A : Addr → Prop} {env : Env} {fs : Nat → List Addr} {pos : Pos}
theorem exL_app_l {L1 L2 : List Nat} {a : Addr} (h : exL A fs (L1 ++ L2) a) : exL A fs L1 a := exL_sub (fun i z => List.mem_append_left _ z) a h
theorem exL_app_r {L1 L2 : List Nat} {a : Addr} (h : exL A fs (L1 ++ L2) a) : exL A fs L2 a := exL_sub (fun i z => List.mem_append_right _ z) a h
theorem PC.tup {M L : List Nat} {H0 : Hp} {v : V} {ds : List D} (h : PC K M L A fs H0 H v (.tuple ds)) : ∃ a xs, v = .ref a ∧ SqT K (hid (exL A fs L) H) a xs ∧ Rps K (hid (exL A fs L) H) xs ds := by
  rcases h with ⟨_, h⟩ | ⟨a, xs, ds, rfl, e, _⟩
  · exact h.tup'
  · cases e
theorem PC.lst {M L : List Nat} {H0 : Hp} {v : V} {ds : List D} (h : PC K M L A fs H0 H v (.list ds)) : ∃ a xs, v = .ref a ∧ SqL K (hid (exL A fs M) H) a xs ∧ Rps K (hid (exL A fs L) H) xs ds := by
  rcases h with ⟨n, h⟩ | ⟨a, xs, ds, rfl, e, h1, h2⟩
  · cases n
  · cases e; exact ⟨_, _, rfl, h1, h2⟩
theorem PC.int {M L : List Nat} {H0 : Hp} {v : V} {i : Int} (h : PC K M L A fs H0 H v (.int i)) : v = .int i := (h.flat rfl).int'
theorem PC.bl {M L : List Nat} {H0 : Hp} {v : V} {i : Bool} (h : PC K M L A fs H0 H v (.bool i)) : v = .bl i := (h.flat rfl).bl'
theorem PC.str {M L : List Nat} {H0 : Hp} {v : V} {i : Str} (h : PC K M L A fs H0 H v (.str i)) : v = .str i := (h.flat rfl).str'
theorem PC.non {M L : List Nat} {H0 : Hp} {v : V} (h : PC K M L A fs H0 H v .none) : v = .non := (h.flat rfl).non'
/-- a new list's own form -/
theorem PF.new {L : List Nat} {H0 : Hp} {p : Addr} {xs : List V} {ds : List D} (s : Same H0 H) (hp : H p = none) (h : Rps K (hid (exL A fs L) H) xs ds) : PF K L A fs H0 (upd H p (.lst xs)) (.ref p) (.list ds) := by
  refine .inr ⟨p, xs, ds, rfl, rfl, s.free hp, upd_same, h.mono fun b o q => ?_⟩
  rw [hid_some] at q ⊢
  have ne := ne_of_none q.2 hp
  exact ⟨fun z => z.elim q.1 ne, by rw [upd_ne ne]; exact q.2⟩
/-- a new tuple -/
theorem PF.newT {L : List Nat} {H0 : Hp} {p : Addr} {xs : List V} {ds : List D} (ok : Ok K A H σ env own fs) (hp : H p = none) (h : Rps K (hid (exL A fs L) H) xs ds) : PF K L A fs H0 (upd H p (.tup xs)) (.ref p) (.tuple ds) := by
  refine .inl ⟨rfl, .tup (.inl (.inl (hid_some.mpr ⟨fun z => ?_, upd_same⟩))) (h.mono fun b o q => ?_)⟩
  · rcases z with z | ⟨i, _, z⟩
    · exact ok.al p z hp
    · exact ok.fal i p z hp
  · rw [hid_some] at q ⊢
    have ne := ne_of_none q.2 hp
    exact ⟨q.1, by rw [upd_ne ne]; exact q.2⟩
theorem hid_upd {B : Addr → Prop} {p : Addr} {o : HO} (hp : H p = none) : Same (hid B H) (hid B (upd H p o)) := same_hid (same_new hp)
theorem small64_of {i : Int} (h : small64 i = true) : -(2 ^ 64) < i ∧ i < 2 ^ 64 := by
  cases i with
  | ofNat n =>
    have := Nat.le_of_ble_eq_true h
    have e : Int.ofNat n = (n : Int) := rfl
    rw [e]
    constructor <;> omega
  | negSucc n => have := Nat.le_of_ble_eq_true h; constructor <;> omega
theorem mulOk_of {i j : Int} (h : mulOk i j = true) : CMul i j := by
  unfold mulOk at h
  rw [Bool.or_eq_true] at h
  exact h.imp small64_of small64_of
/-- a binary operator, by its operands in the heap -/
theorem bin_ok {o : BOp} {x y : D} {v w : V} {M1 M2 L1 L2' : List Nat} {H0 Ha : Hp} {Q : VK} (ok : Ok K A H σ env own fs) (s0 : Same H0 H) (hx : PC K M1 L1 A fs H0 H v x) (hy : PC K M2 L2' A fs Ha H w y)
    (r : Rest W C σ (PF K (L1 ++ L2') A fs H0) H Q (dBin o x y)) : rBin K o v w H Q := by
  have bad : ∀ {P : Prop}, dBin o x y = .bad → P := fun {P} e => by rw [e] at r; exact False.elim r
  cases x with
  | none => exact bad (by cases o <;> rfl)
  | bool b => exact bad (by cases o <;> rfl)
  | dict b => exact bad (by cases o <;> rfl)
  | int i =>
    cases y with
    | int j =>
      have ev := hx.int
      have ew := hy.int
      subst ev ew
      cases o with
      | add => exact .inl ⟨i, j, rfl, rfl, Rest.here r (.inl ⟨rfl, .int _⟩)⟩
      | sub => exact ⟨i, j, rfl, rfl, Rest.here r (.inl ⟨rfl, .int _⟩)⟩
      | mul =>
        obtain ⟨c, r⟩ := Rest.ite_bad r
        exact ⟨i, j, rfl, rfl, mulOk_of c, Rest.here r (.inl ⟨rfl, .int _⟩)⟩
      | fdiv =>
        obtain ⟨c, r⟩ := Rest.ite_bad r
        exact ⟨i, j, rfl, rfl, c, Rest.here r (.inl ⟨rfl, .int _⟩)⟩
      | mod =>
        obtain ⟨c, r⟩ := Rest.ite_bad r
        exact ⟨i, j, rfl, rfl, c, Rest.here r (.inl ⟨rfl, .int _⟩)⟩
      | pow =>
        obtain ⟨c, r⟩ := Rest.ite_bad r
        exact ⟨i, j, rfl, rfl, c, Rest.here r (.inl ⟨rfl, .int _⟩)⟩
    | _ => exact bad (by cases o <;> rfl)
  | str a =>
    cases y with
    | str b =>
      have ev := hx.str
      have ew := hy.str
      subst ev ew
      cases o with
      | add =>
        obtain ⟨c, r⟩ := Rest.ite_bad r
        exact .inr (.inl ⟨a, b, rfl, rfl, c, Rest.here r (.inl ⟨rfl, .str _⟩)⟩)
      | _ => exact bad rfl
    | _ => exact bad (by cases o <;> rfl)
  | list a =>
    cases y with
    | list b =>
      cases o with
      | add =>
        obtain ⟨p, xs, rfl, h1, h2⟩ := hx.lst
        obtain ⟨q, ys, rfl, h3, h4⟩ := hy.lst
        obtain ⟨c, r⟩ := Rest.ite_bad r
        refine .inr (.inr (.inl ⟨p, q, xs, ys, rfl, rfl, Same.seq hid_le h1, Same.seq hid_le h3, ?_, fun n hn => ?_⟩))
        · rw [h2.length, h4.length]; exact c
        · exact Rest.to r (same_new hn) (PF.new s0 hn ((h2.mono (hid_sub fun b z => exL_app_l z)).append (h4.mono (hid_sub fun b z => exL_app_r z))))
      | _ => exact bad rfl
    | _ => exact bad (by cases o <;> rfl)
  | tuple a =>
    cases y with
    | tuple b =>
      cases o with
      | add =>
        obtain ⟨p, xs, rfl, h1, h2⟩ := hx.tup
        obtain ⟨q, ys, rfl, h3, h4⟩ := hy.tup
        obtain ⟨c, r⟩ := Rest.ite_bad r
        have e1 := h2.length
        have e2 := h4.length
        have k1 := hid_sub (H := H) fun b (z : exL A fs (L1 ++ L2') b) => exL_app_l z
        have k2 := hid_sub (H := H) fun b (z : exL A fs (L1 ++ L2') b) => exL_app_r z
        refine .inr (.inr (.inr ⟨p, q, xs, ys, rfl, rfl, Same.seqT hid_le h1, Same.seqT hid_le h3, ?_, fun e => ?_, fun _ e => ?_, fun _ _ n hn => ?_⟩))
        · rw [e1, e2]; exact c
        · subst e
          have : a = [] := List.eq_nil_of_length_eq_zero e1.symm
          subst this
          exact Rest.here r (.inl ⟨rfl, .tup (Same.seqT k2 h3) (h4.mono k2)⟩)
        · subst e
          have : b = [] := List.eq_nil_of_length_eq_zero e2.symm
          subst this
          rw [List.append_nil] at r
          exact Rest.here r (.inl ⟨rfl, .tup (Same.seqT k1 h1) (h2.mono k1)⟩)
        · exact Rest.to r (same_new hn) (PF.newT ok hn ((h2.mono k1).append (h4.mono k2)))
      | _ => exact bad rfl
    | _ => exact bad (by cases o <;> rfl)
theorem f_bin {o : BOp} {a b : Expr} {f g : Env → R D} {M1 M2 L1 L2' : List Nat} (ha : PE X a (tR X.K W C own (PC X.K M1 L1) f)) (hb : PE X b (tR X.K W C own (PC X.K M2 L2') g)) :
    PE X (.BinOp a (opB o) b pos) (tR X.K W C own (PF X.K (L1 ++ L2')) fun env => do let x ← f env; let y ← g env; dBin o x y) :=
  (pe_op (op_bin o) ha hb).imp fun σ H Q ⟨A, env, fs, ok, r⟩ => Rest.bindE ok r fun x v H1 ok1 s1 p1 r => Rest.bindE ok1 r fun y w H2 ok2 s2 p2 r => bin_ok ok2 (s1.trans s2) (p1.later s2) p2 r
theorem f_neg {a : Expr} {f : Env → R D} {M1 L1 : List Nat} (ha : PE X a (tR X.K W C own (PC X.K M1 L1) f)) :
    PE X (.UnaryOp .USub a pos) (tR X.K W C own (PF X.K []) fun env => do let x ← f env; let i ← asI x; pure (.int (-i))) :=
  (pe_un un_neg ha).imp fun σ H Q ⟨A, env, fs, ok, r⟩ => Rest.bindE ok r fun x v H1 ok1 s1 p1 r => by
    obtain ⟨i, rfl, r⟩ := Rest.pI r
    exact ⟨i, p1.int, Rest.here r (.inl ⟨rfl, .int _⟩)⟩
end
end Ev
set_option Elab.async false
set_option linter.all false
set_option maxRecDepth 100000
namespace Ev
open PySem PySem.Spec PyProof.Rows L2
section
variable {X : Cx}
def opC : COp → CmpOp
  | .eq => .Eq
  | .ne => .NotEq
  | .lt => .Lt
  | .le => .LtE
  | .gt => .Gt
  | .ge => .GtE
  | .is_ => .Is
  | .isnot => .IsNot
  | .in_ => .In
  | .notin => .NotIn
abbrev rInS (neg : Bool) : R2 := fun x y H Q => ∃ (c : Nat) (z : Str), x = .str ⟨#[c]⟩ ∧ y = .str z ∧ Q (.bl (if neg then !decide (c ∈ z.cps.toList) else decide (c ∈ z.cps.toList))) H
def rCmp (K : PySem.W.Frag) : COp → R2
  | .eq => rEqD K
  | .ne => rNeD K
  | .lt => rI0 fun i j => .bl (decide (i < j))
  | .le => rI0 fun i j => .bl (decide (i ≤ j))
  | .gt => rI0 fun i j => .bl (decide (j < i))
  | .ge => rI0 fun i j => .bl (decide (j ≤ i))
  | .is_ => fun x y H Q => (y = .non ∧ Q (.bl (decide (x = .non))) H) ∨ rIsB x y H Q
  | .isnot => fun x y H Q => (y = .non ∧ Q (.bl (!decide (x = .non))) H) ∨ rNotB x y H Q
  | .in_ => fun x y H Q => rInD K x y H Q ∨ rIn K false x y H Q ∨ rInS false x y H Q
  | .notin => fun x y H Q => rNotInD K x y H Q ∨ rIn K true x y H Q ∨ rInS true x y H Q
theorem op_cmp (hu : X.A.units + 65 < cLine) (o : COp) : OpR X (compareOp (opC o)) (rCmp X.K o) := by
  cases o
  · exact op_eqD (by omega)
  · exact op_neD (by omega)
  · exact op_lt
  · exact op_le
  · exact op_gt
  · exact op_ge
  · exact op_isN.or op_isBl
  · exact op_notN.or op_notBl
  · exact (op_inD hu).or (op_in_seq.or op_in_sign)
  · exact (op_notInD hu).or (op_notIn_seq.or op_notIn_sign)
end
section
variable {K : PySem.W.Frag} {H : Hp}
theorem isNone_eq {v : V} {d : D} (h : Rp K H v d) : decide (v = .non) = isNone d := by cases h <;> rfl
theorem flatV_of {v : V} {d : D} (h : Rp K H v d) (f : flat d = true) : flatV v = true := by cases h <;> first | rfl | cases f
theorem flats_of : ∀ {vs : List V} {ds : List D}, Rps K H vs ds → ds.all flat = true → vs.all flatV = true
  | _, _, .nil, _ => rfl
  | _, _, .cons a b, f => by
    rw [List.all_cons, Bool.and_eq_true] at f ⊢
    exact ⟨flatV_of a f.1, flats_of b f.2⟩
theorem eqV_of {v w : V} {d e : D} (h : Rp K H v d) (g : Rp K H w e) (f : flat d = true) (k : flat e = true) : eqV v w = PyData.eqv d e := by
  cases h <;> cases g <;> first | rfl | (exfalso; exact Bool.noConfusion f) | (exfalso; exact Bool.noConfusion k)
theorem inV_of {v : V} {d : D} (h : Rp K H v d) (f : flat d = true) : ∀ {vs : List V} {ds : List D}, Rps K H vs ds → ds.all flat = true → inV v vs = ds.any fun z => PyData.eqv z d
  | _, _, .nil, _ => rfl
  | _, _, .cons a b, k => by
    rw [List.all_cons, Bool.and_eq_true] at k
    unfold inV
    rw [List.any_cons, List.any_cons, eqV_of a h k.1 f]
    have e := inV_of h f b k.2
    unfold inV at e
    rw [e]
end
section
variable {K : PySem.W.Frag} {W : WX} {C : Nat → Value} {own : List Nat} {X : Cx} {σ : L2.St} {H H' : Hp} {A : Addr → Prop} {env : Env} {fs : Nat → List Addr} {pos : Pos}
/-- a comparison, by its operands in the heap -/
theorem in_ok {neg : Bool} {x y : D} {v w : V} {Q : VK} {P : Prop} (hx : Rp K H v x) (hy : Rp K H w y) {f : Bool → R D} (hf : ∀ b, f b = .ok (.bool (if neg then !b else b)))
    (r : Rest W C σ (PF K [] A fs H') H Q (dIn x y >>= f))
    (q1 : (∃ d ds, Dp K H v d ∧ Dp K H w (.list ds) ∧ SeqAt.shaped d = true ∧ SeqAt.shaped (.list ds) = true ∧ Q (.bl (if neg then !(ds.any fun z => PyData.eqv z d) else ds.any fun z => PyData.eqv z d)) H) → P)
    (q2 : rIn K neg v w H Q → P) (q3 : rInS neg v w H Q → P) : P := by
  have fin : ∀ {b : Bool}, Rest W C σ (PF K [] A fs H') H Q (f b) → Q (.bl (if neg then !b else b)) H := fun {b} z => by
    rw [hf] at z
    exact Rest.here z (.inl ⟨rfl, .bl _⟩)
  cases y with
  | none => cases x <;> exact False.elim r
  | bool b => cases x <;> exact False.elim r
  | int b => cases x <;> exact False.elim r
  | dict b => cases x <;> exact False.elim r
  | list l =>
    have e : dIn x (.list l) = if SeqAt.shaped x && SeqAt.shaped (.list l) then .ok (l.any fun z => PyData.eqv z x) else .bad := by cases x <;> rfl
    rw [e] at r
    by_cases c : (SeqAt.shaped x && SeqAt.shaped (.list l)) = true
    · rw [if_pos c] at r
      rw [Bool.and_eq_true] at c
      exact q1 ⟨x, l, hx.dp, hy.dp, c.1, c.2, fin r⟩
    · rw [if_neg c] at r
      exact False.elim r
  | tuple l =>
    have e : dIn x (.tuple l) = if flat x && l.all flat then .ok (l.any fun z => PyData.eqv z x) else .bad := by cases x <;> rfl
    rw [e] at r
    by_cases c : (flat x && l.all flat) = true
    · rw [if_pos c] at r
      rw [Bool.and_eq_true] at c
      obtain ⟨a, xs, rfl, h1, h2⟩ := hy.tup'
      refine q2 ⟨a, xs, rfl, .inr h1, flatV_of hx c.1, flats_of h2 c.2, ?_⟩
      rw [inV_of hx c.1 h2 c.2]
      exact fin r
    · rw [if_neg c] at r
      exact False.elim r
  | str z =>
    cases x with
    | str a =>
      have e : dIn (.str a) (.str z) = match a.cps.toList with | [c] => .ok (decide (c ∈ z.cps.toList)) | _ => .bad := rfl
      rw [e] at r
      obtain ⟨⟨cs⟩⟩ := a
      cases cs with
      | nil => exact False.elim r
      | cons c cs =>
        cases cs with
        | cons c2 cs => exact False.elim r
        | nil => exact q3 ⟨c, z, hx.str', hy.str', fin r⟩
    | _ => exact False.elim r
theorem cmp_ok {o : COp} {x y : D} {v w : V} {Q : VK} (hx : Rp K H v x) (hy : Rp K H w y)
    (r : Rest W C σ (PF K [] A fs H') H Q (dCmp o x y)) : rCmp K o v w H Q := by
  have shp : ∀ {b : Bool} {x y : D} {d : D}, Rest W C σ (PF K [] A fs H') H Q (if SeqAt.shaped x && SeqAt.shaped y then .ok (.bool b) else .bad) → SeqAt.shaped x = true ∧ SeqAt.shaped y = true ∧ Q (.bl b) H := fun {b x y d} r => by
    obtain ⟨c, r⟩ := Rest.ite_bad r
    rw [Bool.and_eq_true] at c
    exact ⟨c.1, c.2, Rest.here r (.inl ⟨rfl, .bl _⟩)⟩
  have allI : ∀ {p : Int → Int → Bool} {k : COp}, (∀ x y, dCmp k x y = match x, y with | .int i, .int j => .ok (.bool (p i j)) | _, _ => .bad) → Rest W C σ (PF K [] A fs H') H Q (dCmp k x y) → rI0 (fun i j => .bl (p i j)) v w H Q := fun {p k} hk r => by
    rw [hk] at r
    cases x with
    | int i =>
      cases y with
      | int j => exact ⟨i, j, hx.int', hy.int', Rest.here r (.inl ⟨rfl, .bl _⟩)⟩
      | _ => exact False.elim r
    | _ => exact False.elim r
  cases o with
  | eq => obtain ⟨h1, h2, q⟩ := shp (d := x) r; exact ⟨x, y, hx.dp, hy.dp, h1, h2, q⟩
  | ne => obtain ⟨h1, h2, q⟩ := shp (d := x) r; exact ⟨x, y, hx.dp, hy.dp, h1, h2, q⟩
  | lt => exact allI (k := .lt) (fun x y => by cases x <;> cases y <;> rfl) r
  | le => exact allI (k := .le) (fun x y => by cases x <;> cases y <;> rfl) r
  | gt => exact allI (k := .gt) (fun x y => by cases x <;> cases y <;> rfl) r
  | ge => exact allI (k := .ge) (fun x y => by cases x <;> cases y <;> rfl) r
  | is_ =>
    cases y with
    | none =>
      have e : dCmp .is_ x .none = .ok (.bool (isNone x)) := by cases x <;> rfl
      rw [e] at r
      exact .inl ⟨hy.non', by rw [isNone_eq hx]; exact Rest.here r (.inl ⟨rfl, .bl _⟩)⟩
    | bool b =>
      cases x with
      | bool a => exact .inr ⟨a, b, hx.bl', hy.bl', Rest.here r (.inl ⟨rfl, .bl _⟩)⟩
      | _ => exact False.elim r
    | _ => cases x <;> exact False.elim r
  | isnot =>
    cases y with
    | none =>
      have e : dCmp .isnot x .none = .ok (.bool (!isNone x)) := by cases x <;> rfl
      rw [e] at r
      exact .inl ⟨hy.non', by rw [isNone_eq hx]; exact Rest.here r (.inl ⟨rfl, .bl _⟩)⟩
    | bool b =>
      cases x with
      | bool a => exact .inr ⟨a, b, hx.bl', hy.bl', Rest.here r (.inl ⟨rfl, .bl _⟩)⟩
      | _ => exact False.elim r
    | _ => cases x <;> exact False.elim r
  | in_ =>
    have e : dCmp .in_ x y = (dIn x y >>= fun b => .ok (.bool b)) := by cases x <;> cases y <;> rfl
    rw [e] at r
    exact in_ok (neg := false) hx hy (fun b => rfl) r (fun z => .inl z) (fun z => .inr (.inl z)) fun z => .inr (.inr z)
  | notin =>
    have e : dCmp .notin x y = (dIn x y >>= fun b => .ok (.bool (!b))) := by cases x <;> cases y <;> rfl
    rw [e] at r
    exact in_ok (neg := true) hx hy (fun b => rfl) r (fun z => .inl z) (fun z => .inr (.inl z)) fun z => .inr (.inr z)
/-- no set display stands behind in -/
def plainIn : Expr → Bool
  | .Set _ _ _ => false
  | _ => true
theorem nomark_of {op : CmpOp} {b : Expr} (h : plainIn b = true) : behindInMarks op b = false := by cases b <;> first | rfl | cases h
variable {a b c : Expr} {f g h : Env → R D} {M1 M2 M3 L1 L2' L3 : List Nat} {o o' : COp}
theorem f_cmp (hu : X.A.units + 65 < cLine) (hm : plainIn b = true) (ha : PE X a (tR X.K W C own (PC X.K M1 L1) f)) (hb : PE X b (tR X.K W C own (PC X.K M2 L2') g)) :
    PE X (.Compare a [opC o] [b] pos) (tR X.K W C own (PF X.K []) fun env => do let x ← f env; let y ← g env; dCmp o x y) :=
  (pe_cmpR (op_cmp hu o) ha hb (nomark_of hm)).imp fun σ H Q ⟨A, env, fs, ok, r⟩ => Rest.bindE ok r fun x v H1 ok1 s1 p1 r => Rest.bindE ok1 r fun y w H2 ok2 s2 p2 r => cmp_ok (p1.later s2).rp p2.rp r
theorem t_cmp (hu : X.A.units + 65 < cLine) (hm : plainIn b = true) (ha : PE X a (tR X.K W C own (PC X.K M1 L1) f)) (hb : PE X b (tR X.K W C own (PC X.K M2 L2') g)) :
    PT X (.Compare a [opC o] [b] pos) (tRT X.K W C own fun env => (do let x ← f env; let y ← g env; dCmp o x y) >>= asB) := by
  refine (pt_cmpR (op_cmp hu o) ha hb (nomark_of hm)).imp fun σ H Q ⟨A, env, fs, ok, r⟩ => ?_
  have e : ((do let x ← f env; let y ← g env; dCmp o x y) >>= asB) = (do let x ← f env; let y ← g env; dCmp o x y >>= asB) := by
    cases f env with
    | ok x => cases g env <;> rfl
    | exc c => rfl
    | bad => rfl
  replace r : Rest W C σ (fun _ v d => v = d) H Q ((do let x ← f env; let y ← g env; dCmp o x y) >>= asB) := r
  rw [e] at r
  refine Rest.bindE ok r fun x v H1 ok1 s1 p1 r => Rest.bindE ok1 r fun y w H2 ok2 s2 p2 r => ?_
  refine cmp_ok (W := W) (C := C) (σ := σ) (A := A) (fs := fs) (H' := H2) (p1.later s2).rp p2.rp ?_
  cases q : dCmp o x y with
  | ok d =>
    rw [q] at r
    intro u H3 s3 p3
    cases d with
    | bool k =>
      rcases p3 with ⟨_, p3⟩ | ⟨_, _, _, _, z, _⟩
      · exact ⟨k, p3.bl', Rest.to r s3 rfl⟩
      · cases z
    | _ => exact False.elim r
  | exc c => rw [q] at r; exact r
  | bad => rw [q] at r; exact r
/-! ### and, or, not, chains -/
theorem bnd_assoc {α β γ : Type} (x : R α) (f : α → R β) (g : β → R γ) : ((x >>= f) >>= g) = (x >>= fun a => f a >>= g) := by cases x <;> rfl
theorem asB_pure (b : Bool) : asB (.bool b) = .ok b := rfl
/-- a bool's value as a test -/
theorem t_val (hb : PE X a (tR X.K W C own (PV X.K L1) f)) (he : ∀ whole, isTrue a X.env whole = (do let v ← whole; standAt a.pos; holding [v] (truthy v))) :
    PT X a (tRT X.K W C own fun env => f env >>= asB) :=
  (pt_val hb he).imp fun σ H Q ⟨A, env, fs, ok, r⟩ => Rest.bindE ok r fun x v H1 ok1 s1 p1 r => by
    cases x with
    | bool k => exact ⟨k, (p1 : Rp _ _ _ _).bl', Rest.here r rfl⟩
    | _ => exact False.elim r
theorem t_not (hb : PT X a (tRT X.K W C own fun env => f env >>= asB)) :
    PT X (.UnaryOp .Not a pos) (tRT X.K W C own fun env => (do let x ← f env; let t ← asB x; pure (.bool (!t))) >>= asB) :=
  (pt_not hb).imp fun σ H Q ⟨A, env, fs, ok, r⟩ => by
    have e : ((do let x ← f env; let t ← asB x; pure (.bool (!t))) >>= asB) = ((f env >>= asB) >>= fun t => .ok (!t)) := by
      cases f env with
      | ok x => cases x <;> rfl
      | exc c => rfl
      | bad => rfl
    replace r : Rest W C σ (fun _ v d => v = d) H Q ((do let x ← f env; let t ← asB x; pure (.bool (!t))) >>= asB) := r
    rw [e] at r
    exact Rest.bindT ok r fun x H1 ok1 s1 r => Rest.here r rfl
theorem f_not (hb : PE X a (tR X.K W C own (PV X.K L1) f)) :
    PE X (.UnaryOp .Not a pos) (tR X.K W C own (PF X.K []) fun env => do let x ← f env; let t ← asB x; pure (.bool (!t))) :=
  (pe_not hb).imp fun σ H Q ⟨A, env, fs, ok, r⟩ => Rest.bindE ok r fun x v H1 ok1 s1 p1 r => by
    obtain ⟨k, rfl, r⟩ := Rest.pB r
    exact ⟨k, (p1 : Rp _ _ _ _).bl', Rest.here r (.inl ⟨rfl, .bl _⟩)⟩
/-- and, or: what evE says of them -/
def andF (f g : Env → R D) : Env → R D := fun env => do let x ← f env; let t ← asB x; if t then (do let y ← g env; let u ← asB y; pure (.bool u)) else pure (.bool false)
def orF (f g : Env → R D) : Env → R D := fun env => do let x ← f env; let t ← asB x; if t then pure (.bool true) else (do let y ← g env; let u ← asB y; pure (.bool u))
theorem andF_t (f g : Env → R D) (env : Env) : (andF f g env >>= asB) = ((f env >>= asB) >>= fun t => if t then (g env >>= asB) else .ok false) := by
  unfold andF
  cases f env with
  | ok x =>
    cases x <;> try rfl
    rename_i b
    cases b
    · rfl
    · show ((do let y ← g env; let u ← asB y; pure (.bool u)) >>= asB) = (g env >>= asB)
      cases g env with
      | ok y => cases y <;> rfl
      | exc c => rfl
      | bad => rfl
  | exc c => rfl
  | bad => rfl
theorem orF_t (f g : Env → R D) (env : Env) : (orF f g env >>= asB) = ((f env >>= asB) >>= fun t => if t then .ok true else (g env >>= asB)) := by
  unfold orF
  cases f env with
  | ok x =>
    cases x <;> try rfl
    rename_i b
    cases b
    · show ((do let y ← g env; let u ← asB y; pure (.bool u)) >>= asB) = (g env >>= asB)
      cases g env with
      | ok y => cases y <;> rfl
      | exc c => rfl
      | bad => rfl
    · rfl
  | exc c => rfl
  | bad => rfl
theorem w_and {rest : List Expr} (ha : PT X a (tRT X.K W C own fun env => f env >>= asB)) (hb : PW X (.BoolOp .And (b :: rest) pos) (tRT X.K W C own fun env => g env >>= asB)) :
    PW X (.BoolOp .And (a :: b :: rest) pos) (tRT X.K W C own fun env => andF f g env >>= asB) :=
  (pw_and ha hb).imp fun σ H Q ⟨A, env, fs, ok, r⟩ => by
    replace r : Rest W C σ (fun _ v d => v = d) H Q (andF f g env >>= asB) := r
    rw [andF_t] at r
    refine Rest.bindT ok r fun x H1 ok1 s1 r => ?_
    cases x with
    | true => exact ⟨A, env, fs, ok1, r⟩
    | false => exact Rest.here r rfl
theorem w_or {rest : List Expr} (ha : PT X a (tRT X.K W C own fun env => f env >>= asB)) (hb : PW X (.BoolOp .Or (b :: rest) pos) (tRT X.K W C own fun env => g env >>= asB)) :
    PW X (.BoolOp .Or (a :: b :: rest) pos) (tRT X.K W C own fun env => orF f g env >>= asB) :=
  (pw_or ha hb).imp fun σ H Q ⟨A, env, fs, ok, r⟩ => by
    replace r : Rest W C σ (fun _ v d => v = d) H Q (orF f g env >>= asB) := r
    rw [orF_t] at r
    refine Rest.bindT ok r fun x H1 ok1 s1 r => ?_
    cases x with
    | true => exact Rest.here r rfl
    | false => exact ⟨A, env, fs, ok1, r⟩
theorem tailB {x : R D} {B : (Addr → Prop)} {Q : VK} {P : Prop} (r : Rest W C σ (PF K [] A fs H') H Q (do let y ← x; let u ← asB y; pure (.bool u)))
    (k : Rest W C σ (PV K L1 A fs H) H Q x → P) : P := by
  refine k ?_
  cases x with
  | ok y =>
    obtain ⟨u, rfl, r⟩ := Rest.pB (k := fun u => R.ok (PyData.bool u)) r
    intro v H1 s p
    have e : v = .bl u := (p : Rp _ _ _ _).bl'
    subst e
    exact Rest.to r s (.inl ⟨rfl, .bl _⟩)
  | exc c => exact r
  | bad => exact r
theorem f_and {rest : List Expr} (ha : PE X a (tR X.K W C own (PV X.K L1) f)) (hb : PE X (.BoolOp .And (b :: rest) pos) (tR X.K W C own (PV X.K L2') g)) :
    PE X (.BoolOp .And (a :: b :: rest) pos) (tR X.K W C own (PF X.K []) (andF f g)) :=
  (pe_and ha hb).imp fun σ H Q ⟨A, env, fs, ok, r⟩ => Rest.bindE ok r fun x v H1 ok1 s1 p1 r => by
    obtain ⟨k, rfl, r⟩ := Rest.pB r
    refine ⟨k, (p1 : Rp _ _ _ _).bl', ?_⟩
    cases k with
    | true => exact iteT (tailB (B := A) (L1 := L2') r fun z => ⟨A, env, fs, ok1, z⟩)
    | false => exact iteF (Rest.here r (.inl ⟨rfl, .bl _⟩))
theorem f_or {rest : List Expr} (ha : PE X a (tR X.K W C own (PV X.K L1) f)) (hb : PE X (.BoolOp .Or (b :: rest) pos) (tR X.K W C own (PV X.K L2') g)) :
    PE X (.BoolOp .Or (a :: b :: rest) pos) (tR X.K W C own (PF X.K []) (orF f g)) :=
  (pe_or ha hb).imp fun σ H Q ⟨A, env, fs, ok, r⟩ => Rest.bindE ok r fun x v H1 ok1 s1 p1 r => by
    obtain ⟨k, rfl, r⟩ := Rest.pB r
    refine ⟨k, (p1 : Rp _ _ _ _).bl', ?_⟩
    cases k with
    | true => exact iteT (Rest.here r (.inl ⟨rfl, .bl _⟩))
    | false => exact iteF (tailB (B := A) (L1 := L2') r fun z => ⟨A, env, fs, ok1, z⟩)
end
end Ev
set_option Elab.async false
set_option linter.all false
set_option maxRecDepth 100000
namespace Ev
open PySem PySem.Spec PyProof.Rows L2
/-! ### isinstance -/
def tyName : Ty → Str
  | .int => "int"
  | .bool => "bool"
  | .str => "str"
  | .tuple => "tuple"
  | .list => "list"
def tyS : Ty → String
  | .int => "int"
  | .bool => "bool"
  | .str => "str"
  | .tuple => "tuple"
  | .list => "list"
section
variable {K : PySem.W.Frag} {H : Hp}
def dTy : D → Option String
  | .none => some "NoneType"
  | .bool _ => some "bool"
  | .int _ => some "int"
  | .str _ => some "str"
  | .tuple _ => some "tuple"
  | .list _ => some "list"
  | .dict _ => none
theorem tyX_of {v : V} {d : D} (h : Rp K H v d) : ∃ n, dTy d = some n ∧ TyX K H v (.type n) := by
  cases h with
  | non => exact ⟨_, rfl, .base .non⟩
  | bl b => exact ⟨_, rfl, .base (.bl b)⟩
  | int i => exact ⟨_, rfl, .base (.int i)⟩
  | str x => exact ⟨_, rfl, .base (.str x)⟩
  | lst s r =>
    rcases s with (s | ⟨o, s⟩) | ⟨o, its, n, h1, h2, _⟩
    · exact ⟨_, rfl, .base (.lst s)⟩
    · exact ⟨_, rfl, .base (.frz s)⟩
    · exact ⟨_, rfl, .kList h1 h2⟩
  | tup s r =>
    rcases s with (s | ⟨o, s⟩) | ⟨o, its, n, h1, h2, _⟩
    · exact ⟨_, rfl, .base (.tup s)⟩
    · exact ⟨_, rfl, .fTuple s⟩
    · exact ⟨_, rfl, .kTuple h1 h2⟩
theorem kit_all : ∀ (t : Ty) (d : D) (n : String), dTy d = some n → kitB n (tyS t) = some (dIs t d) := by
  intro t d n h
  cases t <;> cases d <;> first | (cases h; show kitB _ _ = some true; decide +kernel) | (cases h; show kitB _ _ = some false; decide +kernel) | cases h
end
/-! ### what a display, an item, a slice, a built-in says -/
abbrev rIxAll (K : PySem.W.Frag) : R2 := rIx K
theorem cutS_eq (z : Str) (lo hi : Option Int) : cutS z lo hi = ⟨(cut z.cps.toList lo hi).toArray⟩ := by
  unfold cutS cut
  rw [Array.length_toList]
  rfl
def notStar : Expr → Bool
  | .Starred _ _ => false
  | _ => true
theorem star_of {e : Expr} {es : List Expr} {env : PySem.Env} (h : notStar e = true) : starEach (e :: es) env = (false, eval e env) :: starEach es env := by
  cases e <;> first | rfl | cases h
theorem plain_args {pos : Pos} {env : PySem.Env} : ∀ {es : List Expr}, es.all notStar = true → (backTo pos (starEach es env)).any (·.1) = false
  | [], _ => rfl
  | e :: es, h => by
    rw [List.all_cons, Bool.and_eq_true] at h
    rw [star_of h.1]
    show (false || (backTo pos (starEach es env)).any (·.1)) = false
    rw [plain_args h.2]
    rfl
section
variable {K : PySem.W.Frag} {W : WX} {C : Nat → Value} {own : List Nat} {X : Cx} {σ : L2.St} {H H' : Hp} {A : Addr → Prop} {env : Env} {fs : Nat → List Addr} {pos p p2 : Pos}
variable {a b c : Expr} {f g h : Env → R D} {M1 M2 M3 L1 L2' L3 : List Nat} {o o' : COp}
theorem f_isi {t : Ty} (ns : notStar a = true) (hg : Gl X "isinstance") (hm : X.mg "isinstance" = none) (hg2 : Gl X (tyName t)) (hm2 : X.mg (tyName t) = none) (ha : PE X a (tR X.K W C own (PC X.K M1 L1) f)) :
    PE X (.Call (.Name "isinstance" p) [a, .Name (tyName t) p2] [] pos) (tR X.K W C own (PF X.K []) fun env => do let x ← f env; pure (.bool (dIs t x))) := by
  have hc : PE X (.Name (tyName t) p2) (tC (.ty (tyS t))) := by
    cases t <;> exact pe_bltn hg2 hm2 (by decide +kernel) rfl (by decide) (by decide)
  refine (pe_callB call_isi hg hm (by decide +kernel) (pa_cons ha (pa_cons hc pa_nil) (star_of ns)) (he := star_of ns) (hpl := rfl)).imp fun σ H Q ⟨A, env, fs, ok, r⟩ => Rest.bindE ok r fun x v H1 ok1 s1 p1 r => ?_
  obtain ⟨n, h1, h2⟩ := tyX_of p1.rp
  exact ⟨v, _, _, _, _, rfl, .ty _, h2, kit_ty (kit_all t x n h1), Rest.here r (.inl ⟨rfl, .bl _⟩)⟩
/-! arguments -/
theorem a_nil : PA X [] (tRA X.K W C own [] fun _ => .ok []) :=
  pa_nil.imp fun σ H Q ⟨A, env, fs, ok, r⟩ => Rest.here r .nil
theorem a_cons {es : List Expr} {k : Env → R (List D)} (ha : PE X a (tR X.K W C own (PV X.K L1) f)) (hr : PA X es (tRA X.K W C own L2' k)) (hs : starEach (a :: es) X.env = (false, eval a X.env) :: starEach es X.env) :
    PA X (a :: es) (tRA X.K W C own (L1 ++ L2') fun env => do let d ← f env; let ds ← k env; pure (d :: ds)) :=
  (pa_cons ha hr hs).imp fun σ H Q ⟨A, env, fs, ok, r⟩ => Rest.bindE ok r fun x v H1 ok1 s1 p1 r => Rest.bindA ok1 r fun ys vs H2 ok2 s2 p2 r =>
    Rest.here r (.cons (((p1 : Rp _ _ _ _).mono (same_hid s2)).mono (hid_sub fun b z => exL_app_l z)) (p2.mono (hid_sub fun b z => exL_app_r z)))
theorem f_tup {es : List Expr} {k : Env → R (List D)} {x1 : Nat} (h : PA X es (tRA X.K W C own L1 k)) :
    PE X (.Tuple es x1 pos) (tR X.K W C own (PF X.K L1) fun env => do let ds ← k env; if ds.length ≤ sizeLine then pure (.tuple ds) else .bad) :=
  (pe_tup h).imp fun σ H Q ⟨A, env, fs, ok, r⟩ => Rest.bindA ok r fun ys vs H1 ok1 s1 p1 r => by
    obtain ⟨c, r⟩ := Rest.ite_bad r
    exact ⟨by rw [p1.length]; exact c, fun n hn => Rest.to r (same_new hn) (PF.newT ok1 hn p1)⟩
theorem f_lst {es : List Expr} {k : Env → R (List D)} (h : PA X es (tRA X.K W C own L1 k)) :
    PE X (.List es pos) (tR X.K W C own (PF X.K L1) fun env => do let ds ← k env; sized ds) :=
  (pe_lst h).imp fun σ H Q ⟨A, env, fs, ok, r⟩ => Rest.bindA ok r fun ys vs H1 ok1 s1 p1 r => by
    obtain ⟨c, r⟩ := Rest.ite_bad r
    exact ⟨by rw [p1.length]; exact c, fun n hn => Rest.to r (same_new hn) (PF.new s1 hn p1)⟩
theorem small63_of {i : Int} (h : small63 i = true) : -(2 ^ 63) ≤ i ∧ i < 2 ^ 63 := by
  cases i with
  | ofNat n =>
    have := Nat.le_of_ble_eq_true h
    have e : Int.ofNat n = (n : Int) := rfl
    rw [e]
    constructor <;> omega
  | negSucc n => have := Nat.le_of_ble_eq_true h; constructor <;> omega
theorem f_lmul {es : List Expr} {k : Env → R (List D)} {lp : Pos} (h : PA X es (tRA X.K W C own L1 k)) (hb : PE X b (tR X.K W C own (PC X.K M2 L2') g)) :
    PE X (.BinOp (.List es lp) .Mult b pos) (tR X.K W C own (PF X.K L1) fun env => do
      let ds ← k env
      if ds.length ≤ sizeLine then do
        let x ← g env
        let i ← asI x
        if small63 i = true ∧ ds.length * i.toNat ≤ sizeLine then pure (.list (repL i.toNat ds)) else .bad
      else .bad) :=
  (pe_op op_rep (pe_lst h) hb).imp fun σ H Q ⟨A, env, fs, ok, r⟩ => Rest.bindA ok r fun ds vs H1 ok1 s1 p1 r => by
    obtain ⟨c0, r⟩ := Rest.ite_bad r
    refine ⟨by rw [p1.length]; exact c0, fun n hn => ?_⟩
    refine Rest.bindE (ok1.same (same_new hn)) (Rest.later r (same_new hn)) fun y w H2 ok2 s2 p2 r => ?_
    obtain ⟨i, rfl, r⟩ := Rest.pI r
    obtain ⟨c, r⟩ := Rest.ite_bad r
    refine ⟨n, i, vs, rfl, p2.int, s2 n _ upd_same, (small63_of c.1).1, (small63_of c.1).2, by rw [p1.length]; exact c.2, fun m hm => ?_⟩
    exact Rest.to r (same_new hm) (PF.new ((s1.trans (same_new hn)).trans s2) hm ((p1.mono (same_hid ((same_new hn).trans s2))).rep _))
end
end Ev
set_option Elab.async false
set_option linter.all false
set_option maxRecDepth 100000
namespace Ev
open PySem PySem.Spec PyProof.Rows L2
section
variable {K : PySem.W.Frag} {W : WX} {C : Nat → Value} {own : List Nat} {X : Cx} {σ : L2.St} {H H' : Hp} {A : Addr → Prop} {env : Env} {fs : Nat → List Addr} {pos p p2 : Pos}
variable {a b c : Expr} {f g h : Env → R D} {M1 M2 M3 L1 L2' L3 : List Nat} {o o' : COp}
/-! ### if-expressions, chains -/
theorem v_ite (hc : PT X c (tRT X.K W C own fun env => f env >>= asB)) (ha : PE X a (tR X.K W C own (PV X.K L1) g)) (hb : PE X b (tR X.K W C own (PV X.K L2') h)) :
    PE X (.IfExp c a b pos) (tR X.K W C own (PV X.K (L1 ++ L2')) fun env => do let x ← f env; let t ← asB x; if t then g env else h env) :=
  (pe_ifExp hc ha hb).imp fun σ H Q ⟨A, env, fs, ok, r⟩ => by
    have e : (do let x ← f env; let t ← asB x; if t then g env else h env) = ((f env >>= asB) >>= fun t => if t then g env else h env) := by
      cases f env <;> rfl
    replace r : Rest W C σ (PV X.K (L1 ++ L2') A fs H) H Q (do let x ← f env; let t ← asB x; if t then g env else h env) := r
    rw [e] at r
    refine Rest.bindT ok r fun t H1 ok1 s1 r => ?_
    cases t with
    | true => exact iteT ⟨A, env, fs, ok1, Rest.imp r fun H' v d s q => Rp.mono (hid_sub fun b z => exL_app_l z) (q : Rp _ _ _ _)⟩
    | false => exact iteF ⟨A, env, fs, ok1, Rest.imp r fun H' v d s q => Rp.mono (hid_sub fun b z => exL_app_r z) (q : Rp _ _ _ _)⟩
def chainF (o o' : COp) (f g h : Env → R D) : Env → R D := fun env => do
  let x ← f env
  let y ← g env
  let r ← dCmp o x y
  let t ← asB r
  if t then do
    let z ← h env
    dCmp o' y z
  else pure (.bool false)
theorem dCmp_bool {o : COp} {x y d : D} (e : dCmp o x y = .ok d) : ∃ b, d = .bool b := by
  have dec : ∀ {b : Bool} {x y d : D}, (if SeqAt.shaped x && SeqAt.shaped y then R.ok (PyData.bool b) else .bad) = .ok d → ∃ b, d = .bool b := fun {b x y d} e => by
    by_cases c : (SeqAt.shaped x && SeqAt.shaped y) = true
    · rw [if_pos c] at e; cases e; exact ⟨_, rfl⟩
    · rw [if_neg c] at e; cases e
  cases o with
  | eq => exact dec e
  | ne => exact dec e
  | in_ =>
    have q : dCmp .in_ x y = (dIn x y >>= fun b => .ok (.bool b)) := by cases x <;> cases y <;> rfl
    rw [q] at e
    obtain ⟨b, _, e⟩ := R.bind_ok e
    cases e; exact ⟨_, rfl⟩
  | notin =>
    have q : dCmp .notin x y = (dIn x y >>= fun b => .ok (.bool (!b))) := by cases x <;> cases y <;> rfl
    rw [q] at e
    obtain ⟨b, _, e⟩ := R.bind_ok e
    cases e; exact ⟨_, rfl⟩
  | lt => cases x <;> cases y <;> first | (cases e; exact ⟨_, rfl⟩) | cases e
  | le => cases x <;> cases y <;> first | (cases e; exact ⟨_, rfl⟩) | cases e
  | gt => cases x <;> cases y <;> first | (cases e; exact ⟨_, rfl⟩) | cases e
  | ge => cases x <;> cases y <;> first | (cases e; exact ⟨_, rfl⟩) | cases e
  | is_ => cases x <;> cases y <;> first | (cases e; exact ⟨_, rfl⟩) | cases e
  | isnot => cases x <;> cases y <;> first | (cases e; exact ⟨_, rfl⟩) | cases e
/-- the first comparison of a chain, its answer handed on -/
theorem chain1 {x y : D} {v w : V} {H0 : Hp} {k : Bool → R D} {P3 : Hp → V → D → Prop} {Q : VK} {Q1 : VK} (hx : Rp K H v x) (hy : Rp K H w y) (r : Rest W C σ P3 H Q (dCmp o x y >>= fun d => asB d >>= k))
    (hk : ∀ t H1, Same H H1 → Rest W C σ P3 H1 Q (k t) → Q1 (.bl t) H1) : rCmp K o v w H Q1 := by
  refine cmp_ok (W := W) (C := C) (σ := σ) (A := fun _ => False) (fs := fun _ => []) (H' := H) hx hy ?_
  cases q : dCmp o x y with
  | ok d =>
    rw [q] at r
    obtain ⟨b, rfl⟩ := dCmp_bool q
    intro u H3 s3 p3
    rcases p3 with ⟨_, p3⟩ | ⟨_, _, _, _, z, _⟩
    · rw [p3.bl']; exact hk b H3 s3 (Rest.later r s3)
    · cases z
  | exc c =>
    rw [q] at r; exact r
  | bad => rw [q] at r; exact r
theorem f_chain (hu : X.A.units + 65 < cLine) (h1 : o ≠ .in_ ∧ o ≠ .notin) (hm : plainIn c = true) (ha : PE X a (tR X.K W C own (PC X.K M1 L1) f)) (hb : PE X b (tR X.K W C own (PC X.K M2 L2') g)) (hc : PE X c (tR X.K W C own (PC X.K M3 L3) h)) :
    PE X (.Compare a [opC o, opC o'] [b, c] pos) (tR X.K W C own (PF X.K []) (chainF o o' f g h)) := by
  have hl : lastMarks [opC o, opC o'] [b, c] = false := nomark_of hm
  refine (pe_chain (op_cmp hu o) (op_cmp hu o') ha hb hc (by first | exact hl | (intro; exact nomark_of hm))).imp fun σ H Q ⟨A, env, fs, ok, r⟩ => Rest.bindE ok r fun x v H1 ok1 s1 p1 r => Rest.bindE ok1 r fun y w H2 ok2 s2 p2 r => ?_
  refine chain1 (H0 := H) (p1.later s2).rp p2.rp r fun t H3 s3 r => ⟨t, rfl, ?_⟩
  cases t with
  | true => exact iteT (Rest.bindE (ok2.same s3) r fun z u H4 ok4 s4 p4 r => cmp_ok ((p2.later s3).later s4).rp p4.rp r)
  | false => exact iteF (Rest.here r (.inl ⟨rfl, .bl _⟩))
theorem t_chain (hu : X.A.units + 65 < cLine) (h1 : o ≠ .in_ ∧ o ≠ .notin) (hm : plainIn c = true) (ha : PE X a (tR X.K W C own (PC X.K M1 L1) f)) (hb : PE X b (tR X.K W C own (PC X.K M2 L2') g)) (hc : PE X c (tR X.K W C own (PC X.K M3 L3) h)) :
    PT X (.Compare a [opC o, opC o'] [b, c] pos) (tRT X.K W C own fun env => chainF o o' f g h env >>= asB) := by
  have hl : lastMarks [opC o, opC o'] [b, c] = false := nomark_of hm
  refine (pt_chain (op_cmp hu o) (op_cmp hu o') ha hb hc hl).imp fun σ H Q ⟨A, env, fs, ok, r⟩ => ?_
  have e : (chainF o o' f g h env >>= asB) = (f env >>= fun x => g env >>= fun y => dCmp o x y >>= fun d => asB d >>= fun t => if t then (h env >>= fun z => dCmp o' y z >>= asB) else .ok false) := by
    unfold chainF
    cases f env with
    | ok x =>
      cases g env with
      | ok y =>
        show ((dCmp o x y >>= fun d => asB d >>= fun t => if t then (h env >>= fun z => dCmp o' y z) else pure (.bool false)) >>= asB) = (dCmp o x y >>= fun d => asB d >>= fun t => if t then (h env >>= fun z => dCmp o' y z >>= asB) else .ok false)
        cases dCmp o x y with
        | ok d =>
          cases d <;> try rfl
          rename_i b
          cases b
          · rfl
          · show ((h env >>= fun z => dCmp o' y z) >>= asB) = (h env >>= fun z => dCmp o' y z >>= asB)
            rw [bnd_assoc]
        | exc c => rfl
        | bad => rfl
      | exc c => rfl
      | bad => rfl
    | exc c => rfl
    | bad => rfl
  replace r : Rest W C σ (fun _ v d => v = d) H Q (chainF o o' f g h env >>= asB) := r
  rw [e] at r
  refine Rest.bindE ok r fun x v H1 ok1 s1 p1 r => Rest.bindE ok1 r fun y w H2 ok2 s2 p2 r => ?_
  -- the first comparison
  refine cmp_ok (W := W) (C := C) (σ := σ) (A := fun _ => False) (fs := fun _ => []) (H' := H2) (p1.later s2).rp p2.rp ?_
  cases q : dCmp o x y with
  | ok d =>
    rw [q] at r
    obtain ⟨b, rfl⟩ := dCmp_bool q
    intro u H3 s3 p3
    rcases p3 with ⟨_, p3⟩ | ⟨_, _, _, _, z, _⟩
    · rw [p3.bl']
      refine ⟨b, rfl, ?_⟩
      replace r : Rest W C σ (fun _ v d => v = d) H2 Q (if b then (h env >>= fun z => dCmp o' y z >>= asB) else .ok false) := r
      cases b with
      | true =>
        refine iteT (Rest.bindE (ok2.same s3) (Rest.later r s3) fun z u H4 ok4 s4 p4 r => ?_)
        refine cmp_ok (W := W) (C := C) (σ := σ) (A := fun _ => False) (fs := fun _ => []) (H' := H4) ((p2.later s3).later s4).rp p4.rp ?_
        cases q2 : dCmp o' y z with
        | ok d =>
          rw [q2] at r
          obtain ⟨b, rfl⟩ := dCmp_bool q2
          intro u H5 s5 p5
          rcases p5 with ⟨_, p5⟩ | ⟨_, _, _, _, z, _⟩
          · exact ⟨b, p5.bl', Rest.to r s5 rfl⟩
          · cases z
        | exc c => rw [q2] at r; exact r
        | bad => rw [q2] at r; exact r
      | false => exact iteF ⟨false, rfl, Rest.to r s3 rfl⟩
    · cases z
  | exc c => rw [q] at r; exact r
  | bad => rw [q] at r; exact r

/-! ### items, slices -/
theorem atI_rel {xs : List V} {ds : List D} {i : Int} {d : D} (h : Rps K H xs ds) (e : L2.atI ds i = some d) : ∃ v, L2.atI xs i = some v ∧ Rp K H v d := by
  unfold L2.atI at e ⊢
  rw [h.length]
  cases q : L2.ixN ds.length i with
  | none => rw [q] at e; cases e
  | some j =>
    rw [q] at e
    exact h.get e
theorem ofO_ok {α : Type} {o : Option α} {a : α} (h : ofO o = .ok a) : o = some a := by
  cases o with
  | none => cases h
  | some x => cases h; rfl
theorem Rest.pO {γ β α : Type} {P3 : Hp → β → γ → Prop} {Q : β → Hp → Prop} {k : α → R γ} {o : Option α} (r : Rest W C σ P3 H Q (ofO o >>= k)) : ∃ i, o = some i ∧ Rest W C σ P3 H Q (k i) := by
  cases o with
  | none => exact False.elim r
  | some i => exact ⟨i, rfl, r⟩
theorem Rest.pO' {γ β : Type} {P3 : Hp → β → γ → Prop} {Q : β → Hp → Prop} {o : Option γ} (r : Rest W C σ P3 H Q (ofO o)) : ∃ i, o = some i ∧ Rest W C σ P3 H Q (.ok i) := by
  cases o with
  | none => exact False.elim r
  | some i => exact ⟨i, rfl, r⟩
def plainIx : Expr → Bool
  | .Slice _ _ _ _ => false
  | _ => true
theorem plainIx_of {b : Expr} (h : plainIx b = true) : PlainIx b := fun o i => by cases b <;> first | rfl | cases h
/-- an item -/
theorem v_ix (hp : plainIx b = true) (ha : PE X a (tR X.K W C own (PC X.K M1 L1) f)) (hb : PE X b (tR X.K W C own (PC X.K M2 L2') g)) :
    PE X (.Subscript a b pos) (tR X.K W C own (PV X.K L1) fun env => do let x ← f env; let y ← g env; dIx x y) :=
  (pe_ix ix_seq ha hb (plainIx_of hp)).imp fun σ H Q ⟨A, env, fs, ok, r⟩ => Rest.bindE ok r fun x v H1 ok1 s1 p1 r => Rest.bindE ok1 r fun y w H2 ok2 s2 p2 r => by
    have p1 := p1.later s2
    cases x with
    | list l =>
      cases y with
      | int i =>
        obtain ⟨d, e, r⟩ := Rest.pO' (σ := σ) r
        obtain ⟨a, xs, rfl, h1, h2⟩ := p1.lst
        obtain ⟨z, e1, e2⟩ := atI_rel h2 e
        exact .inl ⟨a, xs, i, z, rfl, p2.int, Same.seq hid_le h1, e1, Rest.here r e2⟩
      | _ => exact False.elim r
    | tuple l =>
      cases y with
      | int i =>
        obtain ⟨d, e, r⟩ := Rest.pO' (σ := σ) r
        obtain ⟨a, xs, rfl, h1, h2⟩ := p1.tup
        obtain ⟨z, e1, e2⟩ := atI_rel h2 e
        exact .inr (.inl ⟨a, xs, i, z, rfl, p2.int, Same.seqT hid_le h1, e1, Rest.here r e2⟩)
      | _ => exact False.elim r
    | str s =>
      cases y with
      | int i =>
        obtain ⟨c, r⟩ := Rest.ite_bad (σ := σ) r
        obtain ⟨d, e, r⟩ := Rest.pO (σ := σ) (k := fun c => R.ok (PyData.str ⟨#[c]⟩)) r
        exact .inr (.inr ⟨s, i, d, p1.str, p2.int, c, e, Rest.here r (.str _)⟩)
      | _ => exact False.elim r
    | none => exact False.elim r
    | bool _ => exact False.elim r
    | int _ => exact False.elim r
    | dict _ => exact False.elim r
/-- a slice -/
theorem f_slice {lo hi : Option Expr} {fl fh : Env → R (Option Int)} (ha : PE X a (tR X.K W C own (PC X.K M1 L1) f)) (hl : PO X lo (tRO X.K W C own fl)) (hh : PO X hi (tRO X.K W C own fh)) :
    PE X (.Subscript a (.Slice lo hi none p2) pos) (tR X.K W C own (PF X.K L1) fun env => do let x ← f env; let l ← fl env; let h ← fh env; dSlice x l h) :=
  (pe_slice (sl_list.or (sl_tupA.or sl_str)) ha hl hh).imp fun σ H Q ⟨A, env, fs, ok, r⟩ => Rest.bindE ok r fun x v H1 ok1 s1 p1 r => Rest.bindO ok1 r fun l H2 ok2 s2 r => Rest.bindO ok2 r fun u H3 ok3 s3 r => by
    have p1 := (p1.later s2).later s3
    cases x with
    | list ds =>
      obtain ⟨a, xs, rfl, h1, h2⟩ := p1.lst
      exact .inl ⟨a, xs, rfl, Same.seq hid_le h1, fun n hn => Rest.to r (same_new hn) (PF.new ((s1.trans s2).trans s3) hn (h2.cut _ _))⟩
    | tuple ds =>
      obtain ⟨a, xs, rfl, h1, h2⟩ := p1.tup
      refine .inr (.inl ⟨a, xs, rfl, Same.seqT hid_le h1, fun e => ?_, fun _ n hn => Rest.to r (same_new hn) (PF.newT ok3 hn (h2.cut _ _))⟩)
      have ec : cutV xs l u = xs := by
        unfold cutV
        rw [e.1, e.2, List.drop_zero, Nat.sub_zero, List.take_length]
      have h3 := h2.cut l u
      rw [ec] at h3
      exact Rest.here r (.inl ⟨rfl, .tup h1 h3⟩)
    | str s =>
      obtain ⟨c, r⟩ := Rest.ite_bad (σ := σ) r
      refine .inr (.inr ⟨s, p1.str, c, ?_⟩)
      rw [cutS_eq]
      exact Rest.here r (.inl ⟨rfl, .str _⟩)
    | none => exact False.elim r
    | bool _ => exact False.elim r
    | int _ => exact False.elim r
    | dict _ => exact False.elim r
theorem o_none : PO X none (tRO X.K W C own fun _ => .ok none) := ⟨fun pins s σ H Q I ⟨A, env, fs, ok, r⟩ => po_none.run pins s σ H Q I (Rest.here r rfl)⟩
theorem o_some (ha : PE X a (tR X.K W C own (PC X.K M1 L1) f)) : PO X (some a) (tRO X.K W C own fun env => do let d ← f env; let i ← asI d; pure (some i)) :=
  ⟨fun pins s σ H Q I ⟨A, env, fs, ok, r⟩ => (po_some ha).run pins s σ H Q I (Rest.bindE ok r fun x v H1 ok1 s1 p1 r => by
    obtain ⟨i, rfl, r⟩ := Rest.pI (σ := σ) r
    exact ⟨i, p1.int, Rest.here r rfl⟩)⟩
end
end Ev
set_option Elab.async false
set_option linter.all false
set_option maxRecDepth 100000
namespace Ev
open PySem PySem.Spec PyProof.Rows L2
theorem maxI_le : ∀ {ns : List Int} {y : Int}, y ∈ ns → y ≤ maxI ns
  | [x], y, h => by
    rcases List.mem_cons.mp h with e | e
    · rw [e]; exact Int.le_refl _
    · cases e
  | x :: z :: r, y, h => by
    show y ≤ max x (maxI (z :: r))
    rcases List.mem_cons.mp h with e | e
    · rw [e]; exact Int.le_max_left _ _
    · exact Int.le_trans (maxI_le e) (Int.le_max_right _ _)
theorem maxI_mem : ∀ {ns : List Int}, 0 < ns.length → maxI ns ∈ ns
  | [x], _ => List.mem_cons_self
  | x :: z :: r, _ => by
    show max x (maxI (z :: r)) ∈ x :: z :: r
    rcases Int.le_total x (maxI (z :: r)) with h | h
    · rw [Int.max_eq_right h]; exact List.mem_cons_of_mem _ (maxI_mem (by simp))
    · rw [Int.max_eq_left h]; exact List.mem_cons_self
theorem minI_le : ∀ {ns : List Int} {y : Int}, y ∈ ns → minI ns ≤ y
  | [x], y, h => by
    rcases List.mem_cons.mp h with e | e
    · rw [e]; exact Int.le_refl _
    · cases e
  | x :: z :: r, y, h => by
    show min x (minI (z :: r)) ≤ y
    rcases List.mem_cons.mp h with e | e
    · rw [e]; exact Int.min_le_left _ _
    · exact Int.le_trans (Int.min_le_right _ _) (minI_le e)
theorem minI_mem : ∀ {ns : List Int}, 0 < ns.length → minI ns ∈ ns
  | [x], _ => List.mem_cons_self
  | x :: z :: r, _ => by
    show min x (minI (z :: r)) ∈ x :: z :: r
    rcases Int.le_total x (minI (z :: r)) with h | h
    · rw [Int.min_eq_left h]; exact List.mem_cons_self
    · rw [Int.min_eq_right h]; exact List.mem_cons_of_mem _ (minI_mem (by simp))
def b1Name : B1 → Str
  | .len => "len"
  | .int => "int"
  | .tuple => "tuple"
  | .list => "list"
  | .all => "all"
  | .any => "any"
  | .abs => "abs"
  | .max => "max"
  | .min => "min"
  | .sum => "sum"
def b2Name : B2 → Str
  | .max => "max"
  | .min => "min"
/-- what a built-in of one argument says -/
def rB1 (K : PySem.W.Frag) : B1 → List V → Hp → VK → Prop
  | .len => fun xs H Q => ∃ x n, xs = [x] ∧ LenV K x H n ∧ Q (.int n) H
  | .int => fun xs H Q => (∃ i, xs = [.int i] ∧ Q (.int i) H) ∨ ∃ k, xs = [.bl k] ∧ Q (.int (if k then 1 else 0)) H
  | .tuple => fun xs H Q => ∃ p ys, xs = [.ref p] ∧ ((SqL K H p ys ∧ ∀ l, H l = none → Q (.ref l) (upd H l (.tup ys))) ∨ (SqT K H p ys ∧ Q (.ref p) H))
  | .list => fun xs H Q => ∃ p ys, xs = [.ref p] ∧ (SqL K H p ys ∨ SqT K H p ys) ∧ ∀ l, H l = none → Q (.ref l) (upd H l (.lst ys))
  | .all => rAll K
  | .any => rAny K
  | .abs => fun xs H Q => ∃ i, xs = [.int i] ∧ Q (.int (if i < 0 then -i else i)) H
  | .max => rMax K
  | .min => rMin K
  | .sum => rSum K
section
variable {K : PySem.W.Frag} {W : WX} {C : Nat → Value} {own : List Nat} {X : Cx} {σ : L2.St} {H H' : Hp} {A : Addr → Prop} {env : Env} {fs : Nat → List Addr} {pos p p2 : Pos}
variable {a b c : Expr} {f g h : Env → R D} {M1 M2 M3 L1 L2' L3 : List Nat} {o o' : COp}
theorem Rest.pM {γ β α : Type} {P3 : Hp → β → γ → Prop} {Q : β → Hp → Prop} {k : List α → R γ} {x : R (List α)} (r : Rest W C σ P3 H Q (x >>= k)) (hx : ∀ c, x ≠ .exc c) : ∃ i, x = .ok i ∧ Rest W C σ P3 H Q (k i) := by
  cases x with
  | ok i => exact ⟨i, rfl, r⟩
  | exc c => exact absurd rfl (hx c)
  | bad => exact False.elim r
theorem mapR_noexc {f : D → R α} (hf : ∀ d c, f d ≠ .exc c) : ∀ (l : List D) (c : Nat), mapR f l ≠ .exc c
  | [], c => fun z => nomatch z
  | d :: r, c => fun z => by
    unfold mapR at z
    cases e : f d with
    | ok y =>
      rw [e] at z
      replace z : (mapR f r >>= fun ys => R.ok (y :: ys)) = .exc c := z
      cases e2 : mapR f r with
      | ok ys => rw [e2] at z; cases z
      | exc c' => exact mapR_noexc hf r c' e2
      | bad => rw [e2] at z; cases z
    | exc c' => exact hf d c' e
    | bad => rw [e] at z; cases z
theorem asI_noexc (d : D) (c : Nat) : asI d ≠ .exc c := by cases d <;> exact fun z => nomatch z
theorem asB_noexc (d : D) (c : Nat) : asB d ≠ .exc c := by cases d <;> exact fun z => nomatch z
theorem b1_ok {k : B1} {x : D} {v : V} {H0 : Hp} {Q : VK} (ok : Ok K A H σ env own fs) (s0 : Same H0 H) (hx : PC K M1 L1 A fs H0 H v x) (r : Rest W C σ (PF K L1 A fs H0) H Q (dB1 k x)) : rB1 K k [v] H Q := by
  cases k with
  | len =>
    cases x with
    | list l =>
      obtain ⟨a, xs, rfl, h1, h2⟩ := hx.lst
      exact ⟨.ref a, l.length, rfl, .inl ⟨xs, Same.seq hid_le h1, h2.length.symm⟩, Rest.here r (.inl ⟨rfl, .int _⟩)⟩
    | tuple l =>
      obtain ⟨a, xs, rfl, h1, h2⟩ := hx.tup
      exact ⟨.ref a, l.length, rfl, .inr ⟨xs, Same.seqT hid_le h1, h2.length.symm⟩, Rest.here r (.inl ⟨rfl, .int _⟩)⟩
    | str s =>
      obtain ⟨c, r⟩ := Rest.ite_bad (σ := σ) r
      rw [hx.str]
      exact ⟨.str s, s.length, rfl, ⟨c, rfl⟩, Rest.here r (.inl ⟨rfl, .int _⟩)⟩
    | _ => exact False.elim r
  | int =>
    cases x with
    | int i => exact .inl ⟨i, by rw [hx.int], Rest.here r (.inl ⟨rfl, .int _⟩)⟩
    | bool b => exact .inr ⟨b, by rw [hx.bl], Rest.here r (.inl ⟨rfl, .int _⟩)⟩
    | _ => exact False.elim r
  | tuple =>
    cases x with
    | list l =>
      obtain ⟨a, xs, rfl, h1, h2⟩ := hx.lst
      exact ⟨a, xs, rfl, .inl ⟨Same.seq hid_le h1, fun n hn => Rest.to r (same_new hn) (PF.newT ok hn h2)⟩⟩
    | tuple l =>
      obtain ⟨a, xs, rfl, h1, h2⟩ := hx.tup
      exact ⟨a, xs, rfl, .inr ⟨Same.seqT hid_le h1, Rest.here r (.inl ⟨rfl, .tup h1 h2⟩)⟩⟩
    | _ => exact False.elim r
  | list =>
    cases x with
    | list l =>
      obtain ⟨a, xs, rfl, h1, h2⟩ := hx.lst
      exact ⟨a, xs, rfl, .inl (Same.seq hid_le h1), fun n hn => Rest.to r (same_new hn) (PF.new s0 hn h2)⟩
    | tuple l =>
      obtain ⟨a, xs, rfl, h1, h2⟩ := hx.tup
      exact ⟨a, xs, rfl, .inr (Same.seqT hid_le h1), fun n hn => Rest.to r (same_new hn) (PF.new s0 hn h2)⟩
    | _ => exact False.elim r
  | all =>
    cases x with
    | list l =>
      obtain ⟨bs, e, r⟩ := Rest.pM (σ := σ) (k := fun bs => R.ok (PyData.bool (bs.all id))) r (mapR_noexc asB_noexc l)
      obtain ⟨a, xs, rfl, h1, h2⟩ := hx.lst
      have := h2.bls e
      subst this
      exact ⟨a, bs, rfl, Same.seq hid_le h1, Rest.here r (.inl ⟨rfl, .bl _⟩)⟩
    | _ => exact False.elim r
  | any =>
    cases x with
    | list l =>
      obtain ⟨bs, e, r⟩ := Rest.pM (σ := σ) (k := fun bs => R.ok (PyData.bool (bs.any id))) r (mapR_noexc asB_noexc l)
      obtain ⟨a, xs, rfl, h1, h2⟩ := hx.lst
      have := h2.bls e
      subst this
      exact ⟨a, bs, rfl, Same.seq hid_le h1, Rest.here r (.inl ⟨rfl, .bl _⟩)⟩
    | _ => exact False.elim r
  | abs =>
    cases x with
    | int i => exact ⟨i, by rw [hx.int], Rest.here r (.inl ⟨rfl, .int _⟩)⟩
    | _ => exact False.elim r
  | max =>
    cases x with
    | list l =>
      obtain ⟨ns, e, r⟩ := Rest.pM (σ := σ) (k := fun ns => if 0 < ns.length then R.ok (PyData.int (maxI ns)) else .bad) r (mapR_noexc asI_noexc l)
      obtain ⟨c, r⟩ := Rest.ite_bad (σ := σ) r
      obtain ⟨a, xs, rfl, h1, h2⟩ := hx.lst
      have := h2.ints e
      subst this
      refine ⟨a, ns, rfl, Same.seq hid_le h1, c, fun m hm hle => ?_⟩
      have em : m = maxI ns := Int.le_antisymm (maxI_le hm) (hle _ (maxI_mem c))
      rw [em]
      exact Rest.here r (.inl ⟨rfl, .int _⟩)
    | _ => exact False.elim r
  | min =>
    cases x with
    | list l =>
      obtain ⟨ns, e, r⟩ := Rest.pM (σ := σ) (k := fun ns => if 0 < ns.length then R.ok (PyData.int (minI ns)) else .bad) r (mapR_noexc asI_noexc l)
      obtain ⟨c, r⟩ := Rest.ite_bad (σ := σ) r
      obtain ⟨a, xs, rfl, h1, h2⟩ := hx.lst
      have := h2.ints e
      subst this
      refine ⟨a, ns, rfl, Same.seq hid_le h1, c, fun m hm hle => ?_⟩
      have em : m = minI ns := Int.le_antisymm (hle _ (minI_mem c)) (minI_le hm)
      rw [em]
      exact Rest.here r (.inl ⟨rfl, .int _⟩)
    | _ => exact False.elim r
  | sum =>
    cases x with
    | list l =>
      obtain ⟨ns, e, r⟩ := Rest.pM (σ := σ) (k := fun ns => R.ok (PyData.int ns.sum)) r (mapR_noexc asI_noexc l)
      obtain ⟨a, xs, rfl, h1, h2⟩ := hx.lst
      have := h2.ints e
      subst this
      exact ⟨a, ns, rfl, Same.seq hid_le h1, Rest.here r (.inl ⟨rfl, .int _⟩)⟩
    | _ => exact False.elim r
theorem f_b1 {k : B1} (hcalm : X.calm = true) (ns : notStar a = true) (hg : Gl X (b1Name k)) (hm : X.mg (b1Name k) = none) (ha : PE X a (tR X.K W C own (PC X.K M1 L1) f)) :
    PE X (.Call (.Name (b1Name k) p) [a] [] pos) (tR X.K W C own (PF X.K L1) fun env => do let x ← f env; dB1 k x) := by
  have PAs : PA X [a] _ := pa_cons ha pa_nil (star_of ns)
  have fin : ∀ {t : TE}, PE X (.Call (.Name (b1Name k) p) [a] [] pos) (tCB (rB1 X.K k) (tCons (tR X.K W C own (PC X.K M1 L1) f) tNil)) → PE X (.Call (.Name (b1Name k) p) [a] [] pos) (tR X.K W C own (PF X.K L1) fun env => do let x ← f env; dB1 k x) := fun {t} h =>
    h.imp fun σ H Q ⟨A, env, fs, ok, r⟩ => Rest.bindE ok r fun x v H1 ok1 s1 p1 r => b1_ok ok1 s1 p1 r
  refine fin (t := tC .non) ?_
  cases k with
  | len => exact pe_callB call_len hg hm (by decide +kernel) PAs (by decide) (by decide) (star_of ns) rfl
  | int => exact pe_callTy call_int1 hg hm (by decide +kernel) PAs (by decide) (by decide) (star_of ns) rfl
  | tuple => exact pe_callTy call_tuple_of hg hm (by decide +kernel) PAs (by decide) (by decide) (star_of ns) rfl
  | list => exact pe_callTy call_list_of hg hm (by decide +kernel) PAs (by decide) (by decide) (star_of ns) rfl
  | all => exact pe_callB (cr_all hcalm) hg hm (by decide +kernel) PAs (by decide) (by decide) (star_of ns) rfl
  | any => exact pe_callB (cr_any hcalm) hg hm (by decide +kernel) PAs (by decide) (by decide) (star_of ns) rfl
  | abs => exact pe_callB call_abs hg hm (by decide +kernel) PAs (by decide) (by decide) (star_of ns) rfl
  | max => exact pe_callB (cr_max hcalm) hg hm (by decide +kernel) PAs (by decide) (by decide) (star_of ns) rfl
  | min => exact pe_callB (cr_min hcalm) hg hm (by decide +kernel) PAs (by decide) (by decide) (star_of ns) rfl
  | sum => exact pe_callB (cr_sum hcalm) hg hm (by decide +kernel) PAs (by decide) (by decide) (star_of ns) rfl
theorem f_b2 {k : B2} (hcalm : X.calm = true) (ns : notStar a = true) (ns2 : notStar b = true) (hg : Gl X (b2Name k)) (hm : X.mg (b2Name k) = none) (ha : PE X a (tR X.K W C own (PC X.K M1 L1) f)) (hb : PE X b (tR X.K W C own (PC X.K M2 L2') g)) :
    PE X (.Call (.Name (b2Name k) p) [a, b] [] pos) (tR X.K W C own (PF X.K []) fun env => do let x ← f env; let y ← g env; dB2 k x y) := by
  have PAs : PA X [a, b] _ := pa_cons ha (pa_cons hb pa_nil (star_of ns2)) (star_of ns)
  have hp : (backTo pos (starEach [b] X.env)).any (·.1) = false := plain_args (es := [b]) (by rw [List.all_cons, ns2]; rfl)
  cases k with
  | max =>
    exact (pe_callB (call_max2 hcalm) hg hm (by decide +kernel) PAs (by decide) (by decide) (star_of ns) hp).imp fun σ H Q ⟨A, env, fs, ok, r⟩ => Rest.bindE ok r fun x v H1 ok1 s1 p1 r => Rest.bindE ok1 r fun y w H2 ok2 s2 p2 r => by
      cases x <;> cases y <;> first | exact False.elim r | skip
      exact ⟨_, _, by rw [p1.int, p2.int], Rest.here r (.inl ⟨rfl, .int _⟩)⟩
  | min =>
    exact (pe_callB (call_min2 hcalm) hg hm (by decide +kernel) PAs (by decide) (by decide) (star_of ns) hp).imp fun σ H Q ⟨A, env, fs, ok, r⟩ => Rest.bindE ok r fun x v H1 ok1 s1 p1 r => Rest.bindE ok1 r fun y w H2 ok2 s2 p2 r => by
      cases x <;> cases y <;> first | exact False.elim r | skip
      exact ⟨_, _, by rw [p1.int, p2.int], Rest.here r (.inl ⟨rfl, .int _⟩)⟩
theorem small30_of {i : Int} (h : small30 i = true) : i < 1073741824 := by
  cases i with
  | ofNat n =>
    have := Nat.le_of_ble_eq_true h
    have e : Int.ofNat n = (n : Int) := rfl
    rw [e]
    omega
  | negSucc n => cases h
theorem f_divmod (ns : notStar a = true) (ns2 : notStar b = true) (hg : Gl X "divmod") (hm : X.mg "divmod" = none) (ha : PE X a (tR X.K W C own (PC X.K M1 L1) f)) (hb : PE X b (tR X.K W C own (PC X.K M2 L2') g)) :
    PE X (.Call (.Name "divmod" p) [a, b] [] pos) (tR X.K W C own (PF X.K []) fun env => do
      let x ← f env
      let y ← g env
      let i ← asI x
      let j ← asI y
      if 0 < j ∧ small30 j = true then pure (.tuple [.int (i / j), .int (i % j)]) else .bad) := by
  have PAs : PA X [a, b] _ := pa_cons ha (pa_cons hb pa_nil (star_of ns2)) (star_of ns)
  have hp : (backTo pos (starEach [b] X.env)).any (·.1) = false := plain_args (es := [b]) (by rw [List.all_cons, ns2]; rfl)
  exact (pe_callB call_divmod hg hm (by decide +kernel) PAs (by decide) (by decide) (star_of ns) hp).imp fun σ H Q ⟨A, env, fs, ok, r⟩ => Rest.bindE ok r fun x v H1 ok1 s1 p1 r => Rest.bindE ok1 r fun y w H2 ok2 s2 p2 r => by
    obtain ⟨i, e1, r1⟩ := Rest.pI (σ := σ) r
    obtain ⟨j, e2, r2⟩ := Rest.pI (σ := σ) r1
    obtain ⟨c, r3⟩ := Rest.ite_bad (σ := σ) r2
    subst e1 e2
    replace r := r3
    exact ⟨i, j, by rw [p1.int, p2.int], ⟨c.1, small30_of c.2⟩, fun n hn => Rest.to r (same_new hn) (PF.newT ok2 hn (.cons (.int _) (.cons (.int _) .nil)))⟩
/-! ### calls -/
/-- owned to the depth n, all new -/
def PN (K : PySem.W.Frag) (n : Nat) (L : List Nat) : Pr := fun A fs H H' v d => ∃ fp, (∀ a ∈ fp, H a = none) ∧ fp.Nodup ∧ OR K H' (fun a => exL A fs L a ∨ a ∈ fp) n v d fp
theorem PN.of_PF {L : List Nat} {v : V} {d : D} (h : PF K L A fs H H' v d) : PN K 1 L A fs H H' v d := by
  rcases h with ⟨h1, h⟩ | ⟨a, xs, ds, rfl, rfl, h1, h2, h3⟩
  · refine ⟨[], (fun a z => nomatch z), .nil, .nm h1 (h.mono (hid_sub fun a z => ?_))⟩
    rcases z with z | z
    · exact z
    · cases z
  · refine ⟨[a], fun b hb => ?_, by simp, .lst h2 (ORs.of0 (h3.mono (hid_sub fun b z => ?_)))⟩
    · rw [List.mem_singleton.mp hb]; exact h1
    · rcases z with z | z
      · exact .inl z
      · exact .inr (List.mem_singleton.mp z)
theorem PV.of_PN {n : Nat} {L : List Nat} {v : V} {d : D} (ok : Ok K A H σ env own fs) (h : PN K n L A fs H H' v d) : PV K L A fs H H' v d := by
  obtain ⟨fp, h1, h2, h3⟩ := h
  refine h3.free (hid_sub fun a z => .inl z) fun a ha z => ?_
  rcases z with z | ⟨i, _, z⟩
  · exact ok.al a z (h1 a ha)
  · exact ok.fal i a z (h1 a ha)
theorem PN.flat {n : Nat} {L : List Nat} {v : V} {d : D} (hd : notMut d = true) (h : PV K L A fs H H' v d) : PN K n L A fs H H' v d :=
  ⟨[], (fun a z => nomatch z), .nil, .nm hd ((h : Rp _ _ _ _).mono (hid_sub fun a z => z.elim id fun z => nomatch z))⟩
/-- a def's promise: g on the data -/
def spD (K : PySem.W.Frag) (C : Nat → Value) (rt np : Nat) (g : List D → R D) : Sp := fun vs H Q E => vs.length = np ∧ ∃ A ds, (∀ a, A a → H a ≠ none) ∧ Rps K (hid A H) vs ds ∧
  match g ds with
  | .ok d => ∀ v H' fp, Same H H' → (∀ a ∈ fp, H a = none) → fp.Nodup → OR K H' (fun a => A a ∨ a ∈ fp) rt v d fp → Q v H'
  | .exc c => ∀ H', Same H H' → E (C c) none H'
  | .bad => False
theorem exL_al {L : List Nat} (ok : Ok K A H σ env own fs) : ∀ a, exL A fs L a → H a ≠ none := fun a h => by
  rcases h with h | ⟨i, _, h⟩
  · exact ok.al a h
  · exact ok.fal i a h
theorem n_call {x : Str} {fa : Addr} {fd : FuncData} {ps : List Str} {k rt np : Nat} {g : List D → R D} {es : List Expr} {ke : Env → R (List D)} (F : FnOk X.prog X.w X.K X.mg X.base (L2.CX X.prog X.w) k fa fd ps (spD X.K C rt np g)) (hr : Room k X.A) (hg : Gl X x) (hm : X.mg x = some (.ref fa))
    (hk : PySem.W.keepIn X.K (.ref fa) = true) (hb : Binds X.K fd ps []) (tk : Takes X W) (hnp : np = es.length) (hne : es ≠ []) (ha : PA X es (tRA X.K W C own L1 ke)) (hs : es.all notStar = true) (hdb : (x == ("__debug__" : Str)) = false)
    (hlen : ∀ env ds, ke env = .ok ds → ds.length = es.length) :
    PE X (.Call (.Name x p) es [] pos) (tR X.K W C own (PN X.K rt L1) fun env => do let ds ← ke env; g ds) := by
  cases es with
  | nil => exact absurd rfl hne
  | cons e es =>
    rw [List.all_cons, Bool.and_eq_true] at hs
    refine (pe_callS F hr hg hm hk hb (fun σ => passAt tk σ) ha hdb (star_of hs.1) (plain_args hs.2)).imp fun σ H Q ⟨A, env, fs, ok, r⟩ => ?_
    have key : ∀ ds, ke env = .ok ds → ds.length = (e :: es).length := hlen env
    refine ⟨A, env, fs, ok, ?_⟩
    replace r : Rest W C σ (PN X.K rt L1 A fs H) H Q (ke env >>= g) := r
    cases q : ke env with
    | ok ds =>
      rw [q] at r
      intro vs H1 s1 p1
      refine ⟨by rw [hnp, ← key ds q, p1.length], exL A fs L1, ds, exL_al (ok.same s1), p1, ?_⟩
      replace r : Rest W C σ (PN X.K rt L1 A fs H) H Q (g ds) := r
      cases q2 : g ds with
      | ok d =>
        rw [q2] at r
        exact fun v H' fp s h1 h2 h3 => Rest.to r (s1.trans s) ⟨fp, fun a ha => s1.free (h1 a ha), h2, h3⟩
      | exc c =>
        rw [q2] at r
        exact fun H' s => r H' (s1.trans s)
      | bad => rw [q2] at r; exact r
    | exc c => rw [q] at r; exact r
    | bad => rw [q] at r; exact r
theorem n_call0 {x : Str} {fa : Addr} {fd : FuncData} {ps : List Str} {k rt : Nat} {g : List D → R D} (F : FnOk X.prog X.w X.K X.mg X.base (L2.CX X.prog X.w) k fa fd ps (spD X.K C rt 0 g)) (hr : Room k X.A) (hg : Gl X x) (hm : X.mg x = some (.ref fa))
    (hk : PySem.W.keepIn X.K (.ref fa) = true) (hb : Binds X.K fd ps []) (hdb : (x == ("__debug__" : Str)) = false) (hx : ∀ c, g [] ≠ .exc c) (hpass : Passes (L2.CX X.prog X.w) X fun _ _ _ => False) :
    PE X (.Call (.Name x p) [] [] pos) (tR X.K W C own (PN X.K rt []) fun env => g []) := by
  refine (pe_call0 F hr hg hm hk hb .nil hpass hdb).imp fun σ H Q ⟨A, env, fs, ok, r⟩ => ?_
  refine ⟨rfl, exL A fs [], [], exL_al ok, .nil, ?_⟩
  replace r : Rest W C σ (PN X.K rt [] A fs H) H Q (g []) := r
  cases q2 : g [] with
  | ok d =>
    rw [q2] at r
    exact fun v H' fp s h1 h2 h3 => Rest.to r s ⟨fp, h1, h2, h3⟩
  | exc c => exact absurd q2 (hx c)
  | bad => rw [q2] at r; exact r
theorem pe_PN {e : Expr} {n : Nat} {L : List Nat} (h : PE X e (tR K W C own (PN K n L) f)) : PE X e (tR K W C own (PV K L) f) :=
  h.imp fun σ H Q ⟨A, env, fs, ok, r⟩ => ⟨A, env, fs, ok, r.imp fun H' v d s p => PV.of_PN ok p⟩
theorem pe_PF1 {e : Expr} {L : List Nat} (h : PE X e (tR K W C own (PF K L) f)) : PE X e (tR K W C own (PN K 1 L) f) :=
  h.imp fun σ H Q ⟨A, env, fs, ok, r⟩ => ⟨A, env, fs, ok, r.imp fun H' v d s p => PN.of_PF p⟩
end
end Ev
set_option Elab.async false
set_option linter.all false
set_option maxRecDepth 100000
namespace Ev
open PySem PySem.Spec PyProof.Rows L2
/-- J walks ds as long as nothing but what M's slots do not own changes -/
def Walks (K : PySem.W.Frag) (A : Addr → Prop) (fs : Nat → List Addr) (M L : List Nat) (J : It) (H1 : Hp) (ds : List D) : Prop :=
  ∀ (H2 : Hp) (B : Addr → Prop), (∀ a o, ¬ exL A fs M a → H1 a = some o → H2 a = some o) → (∀ a, B a → H2 a ≠ none ∧ (exL A fs L a ∨ H1 a = none)) →
    (∀ i d, ds[i]? = some d → J.go i H2 ∧ ∀ x H3, J.yld i H2 x H3 → Same H2 H3 ∧ Rp K (hid B H3) x d) ∧ J.stop ds.length H2
def tRI (K : PySem.W.Frag) (W : WX) (C : Nat → Value) (own : List Nat) (M L : List Nat) (f : Env → R (List D)) : TI := fun σ H R =>
  ∃ A env fs, Ok K A H σ env own fs ∧ Rest W C σ (fun H' J ds => Walks K A fs M L J H' ds) H R (f env)
section
variable {K : PySem.W.Frag} {W : WX} {C : Nat → Value} {own : List Nat} {X : Cx} {σ : L2.St} {H H' : Hp} {A : Addr → Prop} {env : Env} {fs : Nat → List Addr} {pos p p2 : Pos}
variable {a b c tg : Expr} {f g h : Env → R D} {M M1 M2 M3 L1 L2' L3 : List Nat} {o o' : COp}
theorem _root_.L2.PI.imp {e : Expr} {t t' : TI} (h : PI X tg e t) (hi : ∀ σ H Q, t' σ H Q → t σ H Q) : PI X tg e t' := ⟨fun pins s σ H Q I hq => h.run pins s σ H Q I (hi σ H Q hq)⟩
theorem rng_get {lo : Int} {n : Nat} {c : Int} {i : Nat} {d : D} (h : (rng lo n c)[i]? = some d) : i < n ∧ d = .int (lo + (i : Int) * c) := by
  unfold rng at h
  rw [List.getElem?_map] at h
  by_cases hi : i < n
  · rw [List.getElem?_range hi] at h
    cases h
    exact ⟨hi, rfl⟩
  · rw [List.getElem?_eq_none (by simpa using hi)] at h
    cases h
theorem rng_len (lo : Int) (n : Nat) (c : Int) : (rng lo n c).length = n := by unfold rng; rw [List.length_map, List.length_range]
theorem walks_rng {H1 : Hp} (lo : Int) (n : Nat) : Walks K A fs M L1 (Itr lo n) H1 (rng lo n 1) := fun H2 _ _ _ => ⟨fun i d h => by
  obtain ⟨h1, rfl⟩ := rng_get h
  refine ⟨h1, fun x H3 ⟨e1, e2⟩ => ?_⟩
  subst e1 e2
  rw [Int.mul_one]
  exact ⟨Same.refl _, .int _⟩, by rw [rng_len]; exact Nat.le_refl _⟩
theorem walks_rngC {H1 : Hp} (lo c : Int) (n : Nat) : Walks K A fs M L1 (Itc lo c n) H1 (rng lo n c) := fun H2 _ _ _ => ⟨fun i d h => by
  obtain ⟨h1, rfl⟩ := rng_get h
  refine ⟨h1, fun x H3 ⟨e1, e2⟩ => ?_⟩
  subst e1 e2
  exact ⟨Same.refl _, .int _⟩, by rw [rng_len]; exact Nat.le_refl _⟩
theorem small_of {i : Int} (h : small62 i = true) : -(2 ^ 62) ≤ i ∧ i < 2 ^ 62 := by
  cases i with
  | ofNat n =>
    have := Nat.le_of_ble_eq_true h
    have e : Int.ofNat n = (n : Int) := rfl
    rw [e]
    constructor <;> omega
  | negSucc n => have := Nat.le_of_ble_eq_true h; constructor <;> omega
theorem i_rng1 (ns : notStar a = true) (hg : Gl X "range") (hm : X.mg "range" = none) (ha : PE X a (tR X.K W C own (PC X.K M1 L1) f)) :
    PI X tg (.Call (.Name "range" p) [a] [] pos) (tRI X.K W C own [] [] fun env => do let x ← f env; let i ← asI x; if small62 i then pure (rng 0 i.toNat 1) else .bad) :=
  (pi_range1 hg hm (pa_cons ha pa_nil (star_of ns)) (star_of ns)).imp fun σ H Q ⟨A, env, fs, ok, r⟩ => Rest.bindE ok r fun x v H1 ok1 s1 p1 r => by
    obtain ⟨i, e1, r1⟩ := Rest.pI (σ := σ) r
    obtain ⟨c, r2⟩ := Rest.ite_bad (σ := σ) r1
    subst e1
    obtain ⟨c1, c2⟩ := small_of c
    exact ⟨i, by rw [p1.int], c1, c2, Rest.here r2 (walks_rng 0 i.toNat)⟩
theorem i_rng2 (ns : notStar a = true) (ns2 : notStar b = true) (hg : Gl X "range") (hm : X.mg "range" = none) (ha : PE X a (tR X.K W C own (PC X.K M1 L1) f)) (hb : PE X b (tR X.K W C own (PC X.K M2 L2') g)) :
    PI X tg (.Call (.Name "range" p) [a, b] [] pos) (tRI X.K W C own [] [] fun env => do let x ← f env; let y ← g env; let i ← asI x; let j ← asI y; if small62 i && small62 j then pure (rng i (j - i).toNat 1) else .bad) :=
  (pi_range2 hg hm (pa_cons ha (pa_cons hb pa_nil (star_of ns2)) (star_of ns)) (by rw [star_of ns, star_of ns2]; rfl) (star_of ns2)).imp fun σ H Q ⟨A, env, fs, ok, r⟩ => Rest.bindE ok r fun x v H1 ok1 s1 p1 r => Rest.bindE ok1 r fun y w H2 ok2 s2 p2 r => by
    obtain ⟨i, e1, r1⟩ := Rest.pI (σ := σ) r
    obtain ⟨j, e2, r2⟩ := Rest.pI (σ := σ) r1
    obtain ⟨c, r3⟩ := Rest.ite_bad (σ := σ) r2
    subst e1 e2
    rw [Bool.and_eq_true] at c
    obtain ⟨c1, c2⟩ := small_of c.1
    obtain ⟨c3, c4⟩ := small_of c.2
    exact ⟨i, j, by rw [p1.int, p2.int], ⟨c1, c2, c3, c4⟩, Rest.here r3 (walks_rng i _)⟩
/-- a list or a tuple that is walked -/
def iSeq (K : PySem.W.Frag) (tl : TE) : TI := fun σ H R => tl σ H fun x H1 => ∃ a, x = .ref a ∧ (((∃ xs, SqL K H1 a xs) ∧ R (Itl K a) H1) ∨ ((∃ xs, SqT K H1 a xs) ∧ R (Itt K a) H1))
theorem pi_seq {l : Expr} {tl : TE} (hl : PE X l tl) : PI X tg l (iSeq X.K tl) := by
  refine ⟨fun pins s σ H R I h => ?_⟩
  refine thn (hl.run pins s σ H _ I h) fun v s1 ⟨x, H1, I1, r1, q1⟩ => ?_
  obtain ⟨a, e, q⟩ := q1
  subst e
  cases r1
  rcases q with ⟨⟨xs, hq⟩, q⟩ | ⟨⟨xs, hq⟩, q⟩
  · obtain ⟨its, rv, p, hz⟩ := I1.list hq
    refine wpAny_pyIter_list p.isList ?_
    refine ⟨s1.heap.objs.size, [s1.heap.objs.size], _, _, H1, rfl, I1.kept (t' := s1.toks) fun b o e => Heap.get?_push_of_some _ e, turn_list a _, ⟨_, Heap.get?_push_size _ rfl, rfl, rfl⟩, fun b hb => ?_, q⟩
    have e : b = s1.heap.objs.size := by simpa using hb
    subst e
    exact I1.fpOk (Nat.le_refl _) (I1.hok.fresh (Nat.le_refl _))
  · obtain ⟨its, rv, p, hz⟩ := I1.tuple hq
    refine wpAny_pyIter_tuple (show s1.heap.IsTuple a its.toArray from p) ?_
    refine ⟨s1.heap.objs.size, [s1.heap.objs.size], _, _, H1, rfl, I1.kept (t' := s1.toks) fun b o e => Heap.get?_push_of_some _ e, turn_tuple a _, ⟨_, Heap.get?_push_size _ rfl, rfl, rfl⟩, fun b hb => ?_, q⟩
    have e : b = s1.heap.objs.size := by simpa using hb
    subst e
    exact I1.fpOk (Nat.le_refl _) (I1.hok.fresh (Nat.le_refl _))
theorem keepM {H1 H2 : Hp} (k : ∀ a o, ¬ exL A fs M a → H1 a = some o → H2 a = some o) : Same (hid (exL A fs M) H1) H2 := fun a o q => by
  rw [hid_some] at q
  exact k a o q.1 q.2
theorem keepL {H1 H2 : Hp} {B : Addr → Prop} (hM : ∀ i ∈ L1, i ∈ M) (k : ∀ a o, ¬ exL A fs M a → H1 a = some o → H2 a = some o) (hB : ∀ a, B a → H2 a ≠ none ∧ (exL A fs L1 a ∨ H1 a = none)) : Same (hid (exL A fs L1) H1) (hid B H2) := fun a o q => by
  rw [hid_some] at q ⊢
  refine ⟨fun z => ?_, k a o (fun z => q.1 (exL_sub hM a z)) q.2⟩
  rcases (hB a z).2 with y | y
  · exact q.1 y
  · rw [q.2] at y; cases y
theorem walks_list {H1 : Hp} {a : Addr} {xs : List V} {ds : List D} (hM : ∀ i ∈ L1, i ∈ M) (h1 : SqL K (hid (exL A fs M) H1) a xs) (h2 : Rps K (hid (exL A fs L1) H1) xs ds) : Walks K A fs M L1 (Itl K a) H1 ds := fun H2 B k hB => by
  have q := Same.seq (keepM k) h1
  have r := h2.mono (keepL hM k hB)
  refine ⟨fun i d e => ?_, ⟨xs, q, by rw [h2.length]; exact Nat.le_refl _⟩⟩
  obtain ⟨v, e1, e2⟩ := r.get e
  refine ⟨⟨xs, v, q, e1⟩, fun x H3 ⟨e3, e4⟩ => ?_⟩
  subst e3
  have e5 := e4 xs q
  rw [e1] at e5
  cases e5
  exact ⟨Same.refl _, e2⟩
theorem walks_tup {H1 : Hp} {a : Addr} {xs : List V} {ds : List D} (hM : ∀ i ∈ L1, i ∈ M) (h1 : SqT K (hid (exL A fs M) H1) a xs) (h2 : Rps K (hid (exL A fs L1) H1) xs ds) : Walks K A fs M L1 (Itt K a) H1 ds := fun H2 B k hB => by
  have q := Same.seqT (keepM k) h1
  have r := h2.mono (keepL hM k hB)
  refine ⟨fun i d e => ?_, ⟨xs, q, by rw [h2.length]; exact Nat.le_refl _⟩⟩
  obtain ⟨v, e1, e2⟩ := r.get e
  refine ⟨⟨xs, v, q, e1⟩, fun x H3 ⟨e3, e4⟩ => ?_⟩
  subst e3
  have e5 := e4 xs q
  rw [e1] at e5
  cases e5
  exact ⟨Same.refl _, e2⟩
theorem i_seq (hM : ∀ i ∈ L1, i ∈ M) (ha : PE X a (tR X.K W C own (PC X.K M L1) f)) : PI X tg a (tRI X.K W C own M L1 fun env => do let x ← f env; asL x) :=
  (pi_seq ha).imp fun σ H Q ⟨A, env, fs, ok, r⟩ => Rest.bindE ok r fun x v H1 ok1 s1 p1 r => by
    cases x with
    | list l =>
      obtain ⟨a, xs, rfl, h1, h2⟩ := p1.lst
      exact ⟨a, rfl, .inl ⟨⟨xs, Same.seq hid_le h1⟩, Rest.here r (walks_list hM h1 h2)⟩⟩
    | tuple l =>
      obtain ⟨a, xs, rfl, h1, h2⟩ := p1.tup
      exact ⟨a, rfl, .inr ⟨⟨xs, Same.seqT hid_le h1⟩, Rest.here r (walks_tup hM (Same.seqT (hid_sub (exL_sub hM)) h1) h2)⟩⟩
    | _ => exact False.elim r
/-! ### targets -/
mutual
def chkT (sc : Scope) (N : List Str) : T → Expr → Bool
  | .name i, .Name x _ => decide (N[i]? = some x) && (decide (sc.names.lookup x = some .local) || decide (sc.names.lookup x = some .cell))
  | .tup ts, .Tuple es _ _ => chkTs sc N ts es
  | _, _ => false
def chkTs (sc : Scope) (N : List Str) : Ts → List Expr → Bool
  | .nil, [] => true
  | .cons t ts, e :: es => notStar e && chkT sc N t e && chkTs sc N ts es
  | _, _ => false
end
mutual
def slotsT : T → List Nat
  | .name i => [i]
  | .tup ts => slotsTs ts
def slotsTs : Ts → List Nat
  | .nil => []
  | .cons t ts => slotsT t ++ slotsTs ts
end
/-- a tuple or a list unpacked -/
def gSeq (K : PySem.W.Frag) (n : Nat) (t : TGs) : TG := fun v σ H Q => ∃ a xs, v = .ref a ∧ (SqL K H a xs ∨ SqT K H a xs) ∧ xs.length = n ∧ t xs σ H Q
theorem pg_seq {es : List Expr} {k : Nat} {t : TGs} {n : Nat} (hc : X.calm = true) (h : PGs X es t)
    (hn : (assignEach es X.env).length = n) (hst : (assignEach es X.env).findIdx? (·.1) = none) : PG X (.Tuple es k pos) (gSeq X.K n t) := by
  refine ⟨fun pins s σ H v u Q I r hw => ?_⟩
  obtain ⟨a, xs, e1, hq, hl, hw⟩ := hw
  rcases hq with hq | hq
  · exact (pg_lst hc h hn hst).run pins s σ H v u Q I r ⟨a, xs, e1, hq, hl, hw⟩
  · exact (pg_tup hc h hn hst).run pins s σ H v u Q I r ⟨a, xs, e1, hq, hl, hw⟩
end
end Ev
set_option Elab.async false
set_option linter.all false
set_option maxRecDepth 100000
namespace Ev
open PySem PySem.Spec PyProof.Rows L2
theorem stepOk_of {k : Int} (h : stepOk k = true) : k = -1 ∨ (1 ≤ k ∧ k < 1073741824) := by
  cases k with
  | ofNat n =>
    have h : (Nat.ble 1 n && Nat.ble n 1073741823) = true := h
    rw [Bool.and_eq_true] at h
    have h1 := Nat.le_of_ble_eq_true h.1
    have h2 := Nat.le_of_ble_eq_true h.2
    have e : Int.ofNat n = (n : Int) := rfl
    rw [e]
    omega
  | negSucc n =>
    have h : Nat.beq n 0 = true := h
    have := Nat.eq_of_beq_eq_true h
    subst this
    exact .inl rfl
theorem rgc_of {i j k : Int} (h : stepOk k = true) (hi : -(2 ^ 62) ≤ i ∧ i < 2 ^ 62) (hj : -(2 ^ 62) ≤ j ∧ j < 2 ^ 62) : RgC i j k (stepN i j k) := by
  rcases stepOk_of h with rfl | ⟨h1, h2⟩
  · exact .neg hi.1 hi.2 hj.1 hj.2
  · have hs : Builtin.Range.rangeSize i j k = ((stepN i j k : Nat) : Int) := by
      unfold Builtin.Range.rangeSize stepN
      rw [if_pos (show k > 0 by omega), if_pos (show 0 < k by omega)]
      by_cases hij : i < j
      · rw [if_pos hij, if_pos hij]
        have : 0 ≤ (j - i - 1) / k := Int.ediv_nonneg (by omega) (by omega)
        omega
      · rw [if_neg hij, if_neg hij]
        rfl
    have hn : ((stepN i j k : Nat) : Int) ≤ 2 ^ 63 - 1 := by
      unfold stepN
      rw [if_pos (show 0 < k by omega)]
      by_cases hij : i < j
      · rw [if_pos hij]
        have a1 : 0 ≤ (j - i - 1) / k := Int.ediv_nonneg (by omega) (by omega)
        have a2 : (j - i - 1) / k ≤ j - i - 1 := Int.ediv_le_self _ (by omega)
        omega
      · rw [if_neg hij]
        decide
    refine ⟨by omega, by omega, ?_, hs⟩
    unfold Builtin.Range.small Builtin.Range.rangeFitsLong
    rw [hs, if_pos (show k > 0 by omega)]
    simp only [Bool.and_eq_true, Bool.or_eq_true, decide_eq_true_eq]
    refine ⟨⟨⟨⟨?_, ?_⟩, ?_⟩, ?_⟩, .inr ?_⟩ <;> omega
section
variable {K : PySem.W.Frag} {W : WX} {C : Nat → Value} {own : List Nat} {X : Cx} {σ : L2.St} {H H' : Hp} {A : Addr → Prop} {env : Env} {fs : Nat → List Addr} {pos p p2 : Pos}
variable {a b c tg : Expr} {f g h : Env → R D} {M M1 M2 M3 L1 L2' L3 : List Nat} {o o' : COp}
theorem i_rng3 (ns : notStar a = true) (ns2 : notStar b = true) (ns3 : notStar c = true) (hg : Gl X "range") (hm : X.mg "range" = none) (ha : PE X a (tR X.K W C own (PC X.K M1 L1) f)) (hb : PE X b (tR X.K W C own (PC X.K M2 L2') g)) (hc : PE X c (tR X.K W C own (PC X.K M3 L3) h)) :
    PI X tg (.Call (.Name "range" p) [a, b, c] [] pos) (tRI X.K W C own [] [] fun env => do
      let x ← f env
      let y ← g env
      let z ← h env
      let i ← asI x
      let j ← asI y
      let k ← asI z
      if stepOk k = true ∧ small62 i = true ∧ small62 j = true then pure (rng i (stepN i j k) k) else .bad) :=
  (pi_range3 hg hm (pa_cons ha (pa_cons hb (pa_cons hc pa_nil (star_of ns3)) (star_of ns2)) (star_of ns)) (by rw [star_of ns]) (plain_args (by rw [List.all_cons, List.all_cons, ns2, ns3]; rfl))).imp fun σ H Q ⟨A, env, fs, ok, r⟩ =>
    Rest.bindE ok r fun x v H1 ok1 s1 p1 r => Rest.bindE ok1 r fun y w H2 ok2 s2 p2 r => Rest.bindE ok2 r fun z u H3 ok3 s3 p3 r => by
    obtain ⟨i, e1, r1⟩ := Rest.pI (σ := σ) r
    obtain ⟨j, e2, r2⟩ := Rest.pI (σ := σ) r1
    obtain ⟨k, e3, r3⟩ := Rest.pI (σ := σ) r2
    obtain ⟨⟨c1, c2, c3⟩, r4⟩ := Rest.ite_bad (σ := σ) r3
    subst e1 e2 e3
    exact ⟨i, j, k, _, by rw [p1.int, p2.int, p3.int], rgc_of c1 (small_of c2) (small_of c3), Rest.here r4 (walks_rngC i k _)⟩
theorem zip_get : ∀ {ds es : List D} {i : Nat} {d : D}, (zipD ds es)[i]? = some d → ∃ x y, ds[i]? = some x ∧ es[i]? = some y ∧ d = .tuple [x, y]
  | [], _, _, _, h => by cases h
  | _ :: _, [], _, _, h => by cases h
  | x :: xs, y :: ys, 0, d, h => by cases h; exact ⟨x, y, rfl, rfl, rfl⟩
  | x :: xs, y :: ys, i + 1, d, h => zip_get (ds := xs) (es := ys) (i := i) h
theorem zip_len : ∀ {ds es : List D}, ds.length ≤ (zipD ds es).length ∨ es.length ≤ (zipD ds es).length
  | [], _ => .inl (Nat.le_refl _)
  | _ :: _, [] => .inr (Nat.le_refl _)
  | x :: xs, y :: ys => by
    rcases zip_len (ds := xs) (es := ys) with h | h
    · exact .inl (Nat.succ_le_succ h)
    · exact .inr (Nat.succ_le_succ h)
theorem rp_new {H2 : Hp} {B : Addr → Prop} {T : Addr} {x y : V} {d e : D} (hB : ∀ a, B a → H2 a ≠ none) (hT : H2 T = none) (r1 : Rp K (hid B H2) x d) (r2 : Rp K (hid B H2) y e) : Rp K (hid B (upd H2 T (.tup [x, y]))) (.ref T) (.tuple [d, e]) := by
  have s : Same (hid B H2) (hid B (upd H2 T (.tup [x, y]))) := same_hid (same_new hT)
  refine .tup (.inl (.inl (hid_some.mpr ⟨fun z => hB T z hT, upd_same⟩))) (.cons (r1.mono s) (.cons (r2.mono s) .nil))
theorem walks_zip {H1 : Hp} {a b : Addr} {xs ys : List V} {ds es : List D} (hM : ∀ i ∈ L1, i ∈ M) (h1 : SqL K (hid (exL A fs M) H1) a xs) (h2 : Rps K (hid (exL A fs L1) H1) xs ds) (h3 : SqL K (hid (exL A fs M) H1) b ys) (h4 : Rps K (hid (exL A fs L1) H1) ys es) :
    Walks K A fs M L1 (Itz K a b) H1 (zipD ds es) := fun H2 B k hB => by
  have q := Same.seq (keepM k) h1
  have q2 := Same.seq (keepM k) h3
  have r := h2.mono (keepL hM k hB)
  have r2 := h4.mono (keepL hM k hB)
  refine ⟨fun i d e => ?_, ⟨xs, ys, q, q2, by rw [h2.length, h4.length]; exact zip_len⟩⟩
  obtain ⟨x, y, e1, e2, rfl⟩ := zip_get e
  obtain ⟨v, f1, f2⟩ := r.get e1
  obtain ⟨w, g1, g2⟩ := r2.get e2
  refine ⟨⟨xs, ys, v, w, q, q2, f1, g1⟩, fun z H3 ⟨T, x', y', e3, e4, e5, e6, e7⟩ => ?_⟩
  subst e3 e5
  have i1 := e6 xs q
  rw [f1] at i1
  cases i1
  have i2 := e7 ys q2
  rw [g1] at i2
  cases i2
  exact ⟨same_new e4, rp_new (fun a z => (hB a z).1) e4 f2 g2⟩
theorem walks_zipT {H1 : Hp} {a b : Addr} {xs ys : List V} {ds es : List D} (hM : ∀ i ∈ L1, i ∈ M) (h1 : SqT K (hid (exL A fs M) H1) a xs) (h2 : Rps K (hid (exL A fs L1) H1) xs ds) (h3 : SqT K (hid (exL A fs M) H1) b ys) (h4 : Rps K (hid (exL A fs L1) H1) ys es) :
    Walks K A fs M L1 (RZ.ItzT K a b) H1 (zipD ds es) := fun H2 B k hB => by
  have q := Same.seqT (keepM k) h1
  have q2 := Same.seqT (keepM k) h3
  have r := h2.mono (keepL hM k hB)
  have r2 := h4.mono (keepL hM k hB)
  refine ⟨fun i d e => ?_, ⟨xs, ys, q, q2, by rw [h2.length, h4.length]; exact zip_len⟩⟩
  obtain ⟨x, y, e1, e2, rfl⟩ := zip_get e
  obtain ⟨v, f1, f2⟩ := r.get e1
  obtain ⟨w, g1, g2⟩ := r2.get e2
  refine ⟨⟨xs, ys, v, w, q, q2, f1, g1⟩, fun z H3 ⟨T, x', y', e3, e4, e5, e6, e7⟩ => ?_⟩
  subst e3 e5
  have i1 := e6 xs q
  rw [f1] at i1
  cases i1
  have i2 := e7 ys q2
  rw [g1] at i2
  cases i2
  exact ⟨same_new e4, rp_new (fun a z => (hB a z).1) e4 f2 g2⟩
theorem subA {L1 L2 M1 M2 : List Nat} (h1 : ∀ i ∈ L1, i ∈ M1) (h2 : ∀ i ∈ L2, i ∈ M2) : ∀ i ∈ L1 ++ L2, i ∈ M1 ++ M2 := fun i z => by
  rcases List.mem_append.mp z with z | z
  · exact List.mem_append_left _ (h1 i z)
  · exact List.mem_append_right _ (h2 i z)
theorem i_zip {es : List Expr} {kk : Nat} {tpos : Pos} (hM1 : ∀ i ∈ L1, i ∈ M1) (hM2 : ∀ i ∈ L2', i ∈ M2) (ns : notStar a = true) (ns2 : notStar b = true) (hg : Gl X "zip") (hm : X.mg "zip" = none) (ha : PE X a (tR X.K W C own (PC X.K M1 L1) f)) (hb : PE X b (tR X.K W C own (PC X.K M2 L2') g)) :
    PI X (.Tuple es kk tpos) (.Call (.Name "zip" p) [a, b] [] pos) (tRI X.K W C own (M1 ++ M2) (L1 ++ L2') fun env => do
      let x ← f env
      let y ← g env
      match x, y with
      | .list l, .list m => pure (zipD l m)
      | .tuple l, .tuple m => pure (zipD l m)
      | _, _ => .bad) :=
  (RZ.pi_zipA hg hm (pa_cons ha (pa_cons hb pa_nil (star_of ns2)) (star_of ns)) (star_of ns) (plain_args (by rw [List.all_cons, ns2]; rfl))).imp fun σ H Q ⟨A, env, fs, ok, r⟩ => Rest.bindE ok r fun x v H1 ok1 s1 p1 r => Rest.bindE ok1 r fun y w H2 ok2 s2 p2 r => by
    have p1 := p1.later s2
    have hM := subA hM1 hM2
    cases x with
    | list l =>
      cases y with
      | list m =>
        obtain ⟨a, xs, rfl, h1, h2⟩ := p1.lst
        obtain ⟨b, ys, rfl, h3, h4⟩ := p2.lst
        refine ⟨a, b, xs, ys, rfl, .inl ⟨Same.seq hid_le h1, Same.seq hid_le h3, Rest.here r ?_⟩⟩
        exact walks_zip hM (Same.seq (hid_sub fun a z => exL_app_l z) h1) (h2.mono (hid_sub fun a z => exL_app_l z)) (Same.seq (hid_sub fun a z => exL_app_r z) h3) (h4.mono (hid_sub fun a z => exL_app_r z))
      | _ => exact False.elim r
    | tuple l =>
      cases y with
      | tuple m =>
        obtain ⟨a, xs, rfl, h1, h2⟩ := p1.tup
        obtain ⟨b, ys, rfl, h3, h4⟩ := p2.tup
        refine ⟨a, b, xs, ys, rfl, .inr ⟨Same.seqT hid_le h1, Same.seqT hid_le h3, Rest.here r ?_⟩⟩
        have j1 : ∀ z, exL A fs (M1 ++ M2) z → exL A fs L1 z := fun z w => exL_sub hM1 z (exL_app_l w)
        have j2 : ∀ z, exL A fs (M1 ++ M2) z → exL A fs L2' z := fun z w => exL_sub hM2 z (exL_app_r w)
        exact walks_zipT hM (Same.seqT (hid_sub j1) h1) (h2.mono (hid_sub fun a z => exL_app_l z)) (Same.seqT (hid_sub j2) h3) (h4.mono (hid_sub fun a z => exL_app_r z))
      | _ => exact False.elim r
    | _ => exact False.elim r
theorem enum_get : ∀ {ds : List D} {n i : Nat} {d : D}, (enumD n ds)[i]? = some d → ∃ x, ds[i]? = some x ∧ d = .tuple [.int ((n + i : Nat) : Int), x]
  | [], _, _, _, h => by cases h
  | x :: xs, n, 0, d, h => by cases h; exact ⟨x, rfl, rfl⟩
  | x :: xs, n, i + 1, d, h => by
    obtain ⟨y, h1, h2⟩ := enum_get (ds := xs) (n := n + 1) (i := i) h
    exact ⟨y, h1, by rw [h2, show n + 1 + i = n + (i + 1) by omega]⟩
theorem enum_len : ∀ {ds : List D} {n : Nat}, (enumD n ds).length = ds.length
  | [], _ => rfl
  | _ :: xs, n => congrArg (· + 1) (enum_len (ds := xs) (n := n + 1))
theorem walks_enum {H1 : Hp} {a : Addr} {xs : List V} {ds : List D} (hM : ∀ i ∈ L1, i ∈ M) (h1 : SqL K (hid (exL A fs M) H1) a xs) (h2 : Rps K (hid (exL A fs L1) H1) xs ds) : Walks K A fs M L1 (Ite K a) H1 (enumD 0 ds) := fun H2 B k hB => by
  have q := Same.seq (keepM k) h1
  have r := h2.mono (keepL hM k hB)
  refine ⟨fun i d e => ?_, ⟨xs, q, by rw [h2.length, enum_len]; exact Nat.le_refl _⟩⟩
  obtain ⟨x, e1, rfl⟩ := enum_get e
  obtain ⟨v, f1, f2⟩ := r.get e1
  refine ⟨⟨xs, v, q, f1⟩, fun z H3 ⟨T, x', e3, e4, e5, e6⟩ => ?_⟩
  subst e3 e5
  have i1 := e6 xs q
  rw [f1] at i1
  cases i1
  rw [Nat.zero_add]
  exact ⟨same_new e4, rp_new (fun a z => (hB a z).1) e4 (.int _) f2⟩
theorem i_enum {es : List Expr} {kk : Nat} {tpos : Pos} (hM : ∀ i ∈ L1, i ∈ M1) (ns : notStar a = true) (hg : Gl X "enumerate") (hm : X.mg "enumerate" = none) (ha : PE X a (tR X.K W C own (PC X.K M1 L1) f)) :
    PI X (.Tuple es kk tpos) (.Call (.Name "enumerate" p) [a] [] pos) (tRI X.K W C own M1 L1 fun env => do
      let x ← f env
      let l ← asLst x
      pure (enumD 0 l)) :=
  (pi_enum hg hm (pa_cons ha pa_nil (star_of ns)) (star_of ns)).imp fun σ H Q ⟨A, env, fs, ok, r⟩ => Rest.bindE ok r fun x v H1 ok1 s1 p1 r => by
    cases x with
    | list l =>
      obtain ⟨a, xs, rfl, h1, h2⟩ := p1.lst
      exact ⟨a, xs, rfl, Same.seq hid_le h1, Rest.here r (walks_enum hM h1 h2)⟩
    | _ => exact False.elim r
end
end Ev
set_option Elab.async false
set_option linter.all false
set_option maxRecDepth 100000
namespace Ev
open PySem PySem.Spec PyProof.Rows L2
section
variable {K : PySem.W.Frag} {A : Addr → Prop} {H : Hp} {σ : L2.St} {env : Env} {own : List Nat} {fs : Nat → List Addr}
theorem getD_set_ne {i j : Nat} {o : Option D} (h : i ≠ j) : (env.set i o)[j]? = env[j]? := List.getElem?_set_ne h
/-- a frozen slot stored -/
theorem Ok.set0 {i : Nat} {v : V} {d : D} (k : Ok K A H σ env own fs) (ho : own.getD i 0 = 0) (r : Rp K (hid (ex A fs) H) v d) : Ok K A H (σ.set i (some v)) (env.set i (some d)) own fs where
  len := by rw [List.length_set, List.length_set]; exact k.len
  ow := by rw [List.length_set]; exact k.ow
  sl := fun j e h => by
    by_cases hj : i = j
    · subst hj
      by_cases hl : i < env.length
      · rw [List.getElem?_set_self hl] at h
        cases h
        refine ⟨v, List.getElem?_set_self (by rw [k.len]; exact hl), ?_⟩
        have e0 : fs i = [] := by
          by_cases q : ∃ d', env[i]? = some (some d')
          · obtain ⟨d', q⟩ := q
            obtain ⟨_, _, z⟩ := k.sl i d' q
            rw [ho] at z
            exact z.zero.2
          · exact k.nil i fun d' z => q ⟨d', z⟩
        rw [ho, e0]
        exact .stb r
      · rw [List.getElem?_eq_none (by simpa using hl)] at h
        cases h
    · rw [List.getElem?_set_ne hj] at h
      obtain ⟨w, h1, h2⟩ := k.sl j e h
      exact ⟨w, by rw [List.getElem?_set_ne hj]; exact h1, h2⟩
  nil := fun j h => by
    by_cases hj : i = j
    · subst hj
      by_cases q : ∃ d', env[i]? = some (some d')
      · obtain ⟨d', q⟩ := q
        obtain ⟨_, _, z⟩ := k.sl i d' q
        rw [ho] at z
        exact z.zero.2
      · exact k.nil i fun d' z => q ⟨d', z⟩
    · exact k.nil j fun d' z => h d' (by rw [List.getElem?_set_ne hj]; exact z)
  nd := k.nd
  dis := k.dis
  apart := k.apart
  al := k.al
theorem wipe_set {i : Nat} {o : Option V} : ∀ {vs : List Nat}, i ∈ vs → wipe (σ.set i o) vs = wipe σ vs
  | v :: vs, h => by
    unfold wipe
    by_cases e : v = i
    · subst e
      by_cases hm : v ∈ vs
      · rw [wipe_set hm]
      · have gen : ∀ (ws : List Nat), wipe (σ.set v o) ws = (wipe σ ws).set v (if v ∈ ws then none else o) ∨ True := fun _ => .inr trivial
        apply List.ext_getElem?
        intro j
        by_cases hj : v = j
        · subst hj
          by_cases hl : v < σ.length
          · rw [List.getElem?_set_self (by rw [wipe_length, List.length_set]; exact hl), List.getElem?_set_self (by rw [wipe_length]; exact hl)]
          · rw [List.getElem?_eq_none (by rw [List.length_set, wipe_length, List.length_set]; omega), List.getElem?_eq_none (by rw [List.length_set, wipe_length]; omega)]
        · rw [List.getElem?_set_ne hj, List.getElem?_set_ne hj]
          have key : ∀ (ws : List Nat), (wipe (σ.set v o) ws)[j]? = (wipe σ ws)[j]? := by
            intro ws
            induction ws with
            | nil => unfold wipe; rw [List.getElem?_set_ne hj]
            | cons w ws ih =>
              unfold wipe
              by_cases hw : w = j
              · subst hw
                by_cases hl : w < σ.length
                · rw [List.getElem?_set_self (by rw [wipe_length, List.length_set]; exact hl), List.getElem?_set_self (by rw [wipe_length]; exact hl)]
                · rw [List.getElem?_eq_none (by rw [List.length_set, wipe_length, List.length_set]; omega), List.getElem?_eq_none (by rw [List.length_set, wipe_length]; omega)]
              · rw [List.getElem?_set_ne hw, List.getElem?_set_ne hw]
                exact ih
          exact key vs
    · have hm : i ∈ vs := (List.mem_cons.mp h).elim (fun z => absurd z.symm e) id
      rw [wipe_set hm]
end
/-- what a target's reading is -/
def tG (K : PySem.W.Frag) (own : List Nat) (t : T) : TG := fun v σ H Q => ∃ A env fs d, Ok K A H σ env own fs ∧ Rp K (hid (ex A fs) H) v d ∧
  ∃ e', bindT t d env = .ok e' ∧ ∀ σ', Ok K A H σ' e' own fs → (∀ vs, (∀ i ∈ slotsT t, i ∈ vs) → wipe σ' vs = wipe σ vs) → Q σ' H
def tGs (K : PySem.W.Frag) (own : List Nat) (t : Ts) : TGs := fun vs σ H Q => ∃ A env fs ds, Ok K A H σ env own fs ∧ Rps K (hid (ex A fs) H) vs ds ∧
  ∃ e', bindTs t ds env = .ok e' ∧ ∀ σ', Ok K A H σ' e' own fs → (∀ vs, (∀ i ∈ slotsTs t, i ∈ vs) → wipe σ' vs = wipe σ vs) → Q σ' H
def own0 (own : List Nat) (l : List Nat) : Bool := l.all fun i => own.getD i 0 == 0
/-- a scope whose local names and cells are stored in X -/
structure StOk (X : Cx) (sc : Scope) (N : List Str) : Prop where
  n : X.N = N
  nd : N.Nodup
  calm : X.calm = true
  st : ∀ x, (sc.names.lookup x = some .local ∨ sc.names.lookup x = some .cell) → Loc X.env.scope x ∧ (X.fn x = true ∨ X.env.scope.names.lookup x = some .local)
section
variable {X : Cx} {sc : Scope} {N : List Str} {own : List Nat}
theorem _root_.L2.PG.imp {e : Expr} {t t' : TG} (h : PG X e t) (hi : ∀ v σ H Q, t' v σ H Q → t v σ H Q) : PG X e t' := ⟨fun pins s σ H v u Q I r hq => h.run pins s σ H v u Q I r (hi v σ H Q hq)⟩
theorem _root_.L2.PGs.imp {e : List Expr} {t t' : TGs} (h : PGs X e t) (hi : ∀ v σ H Q, t' v σ H Q → t v σ H Q) : PGs X e t' := ⟨fun pins s σ H v u Q I r hq => h.run pins s σ H v u Q I r (hi v σ H Q hq)⟩
theorem assignEach_cons {e : Expr} {es : List Expr} {env : PySem.Env} (h : notStar e = true) : assignEach (e :: es) env = (false, assign e env) :: assignEach es env := by
  cases e <;> first | rfl | cases h
theorem assignEach_plain : ∀ {ts : Ts} {es : List Expr}, chkTs sc N ts es = true → ∀ env : PySem.Env, (assignEach es env).length = es.length ∧ (assignEach es env).findIdx? (·.1) = none
  | .nil, [], _, env => ⟨rfl, rfl⟩
  | .cons t ts, e :: es, h, env => by
    unfold chkTs at h
    rw [Bool.and_eq_true, Bool.and_eq_true] at h
    obtain ⟨h1, h2⟩ := assignEach_plain (ts := ts) h.2 env
    rw [assignEach_cons h.1.1]
    refine ⟨by rw [List.length_cons, List.length_cons, h1], ?_⟩
    rw [List.findIdx?_cons, h2]
    rfl
  | .nil, _ :: _, h, _ => by unfold chkTs at h; cases h
  | .cons _ _, [], h, _ => by unfold chkTs at h; cases h
theorem bindTs_len : ∀ {ts : Ts} {ds : List D} {env e' : Env} {es : List Expr}, chkTs sc N ts es = true → bindTs ts ds env = .ok e' → ds.length = es.length
  | .nil, [], _, _, [], _, _ => rfl
  | .cons t ts, d :: ds, env, e', e :: es, h, b => by
    unfold chkTs at h
    rw [Bool.and_eq_true] at h
    unfold bindTs at b
    obtain ⟨e1, _, b⟩ := R.bind_ok b
    rw [List.length_cons, List.length_cons, bindTs_len h.2 b]
  | .nil, _ :: _, _, _, _, _, b => by unfold bindTs at b; cases b
  | .cons _ _, [], _, _, _, _, b => by unfold bindTs at b; cases b
  | .nil, [], _, _, _ :: _, h, _ => by unfold chkTs at h; cases h
  | .cons _ _, _ :: _, _, _, [], h, _ => by unfold chkTs at h; cases h
mutual
theorem pg_T (S : StOk X sc N) : ∀ (t : T) (e : Expr), chkT sc N t e = true → own0 own (slotsT t) = true → PG X e (tG X.K own t)
  | .name i, .Name x pos, h, ho => by
    unfold chkT at h
    rw [Bool.and_eq_true, Bool.or_eq_true, decide_eq_true_eq, decide_eq_true_eq, decide_eq_true_eq] at h
    obtain ⟨h1, h2⟩ := S.st x h.2
    refine (pg_name (by rw [S.n]; exact S.nd) (by rw [S.n]; exact h.1) h1 h2).imp fun v σ H Q ⟨A, env, fs, d, ok, r, e', b, q⟩ => ?_
    cases b
    have h0 : own.getD i 0 = 0 := by simpa [own0, slotsT] using ho
    exact q _ (ok.set0 h0 r) fun vs hv => wipe_set (hv i List.mem_cons_self)
  | .tup ts, .Tuple es k pos, h, ho => by
    unfold chkT at h
    obtain ⟨h1, h2⟩ := assignEach_plain h X.env
    refine (pg_seq S.calm (pg_Ts S ts es h ho) h1 h2).imp fun v σ H Q ⟨A, env, fs, d, ok, r, e', b, q⟩ => ?_
    unfold bindT at b
    obtain ⟨l, e1, b⟩ := R.bind_ok b
    cases r with
    | lst s rs =>
      cases e1
      exact ⟨_, _, rfl, .inl (Same.seq hid_le s), by rw [rs.length]; exact bindTs_len h b, A, env, fs, _, ok, rs, e', b, q⟩
    | tup s rs =>
      cases e1
      exact ⟨_, _, rfl, .inr (Same.seqT hid_le s), by rw [rs.length]; exact bindTs_len h b, A, env, fs, _, ok, rs, e', b, q⟩
    | _ => cases e1
  | .name _, .Tuple _ _ _, h, _ => by unfold chkT at h; cases h
  | .tup _, .Name _ _, h, _ => by unfold chkT at h; cases h
theorem pg_Ts (S : StOk X sc N) : ∀ (t : Ts) (e : List Expr), chkTs sc N t e = true → own0 own (slotsTs t) = true → PGs X e (tGs X.K own t)
  | .nil, [], h, ho => pgs_nil.imp fun vs σ H Q ⟨A, env, fs, ds, ok, r, e', b, q⟩ => by
    cases r with
    | nil =>
      unfold bindTs at b
      cases b
      exact ⟨rfl, q σ ok fun _ _ => rfl⟩
    | cons _ _ => unfold bindTs at b; cases b
  | .cons t ts, e :: es, h, ho => by
    unfold chkTs at h
    rw [Bool.and_eq_true, Bool.and_eq_true] at h
    have ho' : own0 own (slotsT t) = true ∧ own0 own (slotsTs ts) = true := by
      unfold own0 slotsTs at ho
      rw [List.all_append, Bool.and_eq_true] at ho
      exact ho
    refine (pgs_cons (pg_T S t e h.1.2 ho'.1) (pg_Ts S ts es h.2 ho'.2) (by rw [assignEach_cons h.1.1]; rfl)).imp fun vs σ H Q ⟨A, env, fs, ds, ok, r, e', b, q⟩ => ?_
    cases r with
    | nil => unfold bindTs at b; cases b
    | cons r rs =>
      unfold bindTs at b
      obtain ⟨e1, b1, b2⟩ := R.bind_ok b
      refine ⟨_, _, rfl, A, env, fs, _, ok, r, e1, b1, fun σ1 ok1 w1 => ⟨A, e1, fs, _, ok1, rs, e', b2, fun σ2 ok2 w2 => q σ2 ok2 fun ws hw => ?_⟩⟩
      rw [w2 ws fun i z => hw i (List.mem_append_right _ z), w1 ws fun i z => hw i (List.mem_append_left _ z)]
  | .nil, _ :: _, h, _ => by unfold chkTs at h; cases h
  | .cons _ _, [], h, _ => by unfold chkTs at h; cases h
end
end
end Ev
set_option Elab.async false
set_option linter.all false
set_option maxRecDepth 100000
namespace Ev
open PySem PySem.Spec PyProof.Rows L2
section
variable {K : PySem.W.Frag} {A : Addr → Prop} {H : Hp} {σ : L2.St} {env : Env} {own : List Nat} {fs : Nat → List Addr}
theorem clr_len : ∀ (vs : List Nat) (e : Env), (clr vs e).length = e.length
  | [], e => rfl
  | v :: vs, e => by unfold clr; rw [List.length_set, clr_len vs e]
theorem clr_in {i : Nat} : ∀ {vs : List Nat} {e : Env}, i ∈ vs → ∀ d, (clr vs e)[i]? ≠ some (some d)
  | v :: vs, e, h, d => by
    unfold clr
    by_cases hv : v = i
    · subst hv
      by_cases hl : v < e.length
      · rw [List.getElem?_set_self (by rw [clr_len]; exact hl)]
        exact fun z => nomatch z
      · rw [List.getElem?_eq_none (by rw [List.length_set, clr_len]; omega)]
        exact fun z => nomatch z
    · rw [List.getElem?_set_ne hv]
      exact clr_in ((List.mem_cons.mp h).elim (fun z => absurd z.symm hv) id) d
theorem clr_out {i : Nat} : ∀ {vs : List Nat} {e : Env}, i ∉ vs → (clr vs e)[i]? = e[i]?
  | [], e, h => rfl
  | v :: vs, e, h => by
    rw [List.mem_cons, not_or] at h
    unfold clr
    rw [List.getElem?_set_ne (Ne.symm h.1)]
    exact clr_out h.2
theorem own0_mem {vs : List Nat} {i : Nat} (h : own0 own vs = true) (hi : i ∈ vs) : own.getD i 0 = 0 := by
  unfold own0 at h
  rw [List.all_eq_true] at h
  exact eq_of_beq (h i hi)
theorem Ok.fs0 (k : Ok K A H σ env own fs) {i : Nat} (ho : own.getD i 0 = 0) : fs i = [] := by
  by_cases q : ∃ d', env[i]? = some (some d')
  · obtain ⟨d', q⟩ := q
    obtain ⟨_, _, z⟩ := k.sl i d' q
    rw [ho] at z
    exact z.zero.2
  · exact k.nil i fun d' z => q ⟨d', z⟩
/-- into a comprehension's block: its own slots forgotten, the new list's address hidden -/
theorem Ok.block (k : Ok K A H σ env own fs) {vs : List Nat} {Dn : Addr} {H3 : Hp} (hv : own0 own vs = true) (s : Same H H3) (h0 : H Dn = none) (h1 : H3 Dn ≠ none) :
    Ok K (fun a => A a ∨ a = Dn) H3 (wipe σ vs) (clr vs env) own fs where
  len := by rw [wipe_length, clr_len]; exact k.len
  ow := by rw [clr_len]; exact k.ow
  sl := fun i d h => by
    by_cases hi : i ∈ vs
    · exact absurd h (clr_in hi d)
    · rw [clr_out hi] at h
      obtain ⟨v, e1, e2⟩ := k.sl i d h
      refine ⟨v, by rw [wipe_out hi]; exact e1, e2.keep (fun a o q => ?_) fun a _ o q => s a o q⟩
      rw [hid_some] at q ⊢
      refine ⟨fun z => ?_, s a o q.2⟩
      rcases z with (z | z) | z
      · exact q.1 (.inl z)
      · rw [z, h0] at q; cases q.2
      · exact q.1 (.inr z)
  nil := fun i h => by
    by_cases hi : i ∈ vs
    · exact k.fs0 (own0_mem hv hi)
    · exact k.nil i fun d z => h d (by rw [clr_out hi]; exact z)
  nd := k.nd
  dis := k.dis
  apart := fun i a h => by
    rcases h with h | h
    · exact k.apart i a h
    · intro z
      rw [h] at z
      exact k.fal i Dn z h0
  al := fun a h => by
    rcases h with h | h
    · intro z
      cases q : H a with
      | none => exact k.al a h q
      | some o => rw [s a o q] at z; cases z
    · rw [h]; exact h1
theorem wipe_idem (σ : L2.St) : ∀ (vs ws : List Nat), (∀ i ∈ vs, i ∈ ws) → wipe (wipe σ vs) ws = wipe σ ws
  | [], ws, _ => rfl
  | v :: vs, ws, h => by
    show wipe ((wipe σ vs).set v none) ws = wipe σ ws
    rw [wipe_set (h v List.mem_cons_self)]
    exact wipe_idem σ vs ws fun i z => h i (List.mem_cons_of_mem _ z)
theorem compL_cons {f : D → R (Option D)} {d : D} {r : List D} {ys : List D} (h : compL f (d :: r) = .ok ys) : ∃ o zs, f d = .ok o ∧ compL f r = .ok zs ∧ ys = (match o with | some y => y :: zs | none => zs) := by
  unfold compL at h
  obtain ⟨o, h1, h⟩ := R.bind_ok h
  obtain ⟨zs, h2, h⟩ := R.bind_ok h
  have h1' : f d = .ok o := by
    cases e : f d with
    | ok o' => rw [e] at h1; cases h1; rfl
    | exc c => rw [e] at h1; cases h1
    | bad => rw [e] at h1; cases h1
  refine ⟨o, zs, h1', h2, ?_⟩
  cases o with
  | none => cases h; rfl
  | some y => cases h; rfl
theorem compL_noexc {f : D → R (Option D)} : ∀ (l : List D) (c : Nat), compL f l ≠ .exc c
  | [], c => fun z => nomatch z
  | d :: r, c => fun z => by
    unfold compL at z
    cases e : noexc (f d) with
    | ok o =>
      rw [e] at z
      cases e2 : compL f r with
      | ok zs => rw [e2] at z; cases o <;> cases z
      | exc c' => exact compL_noexc r c' e2
      | bad => rw [e2] at z; cases z
    | exc c' => cases q : f d <;> rw [q] at e <;> cases e
    | bad => rw [e] at z; cases z
end
abbrev WF : WX := fun _ _ _ _ => False
/-- one turn of a comprehension -/
def turnF (t : T) (vs : List Nat) (fc : Env → R Bool) (fe : Env → R D) (env : Env) : D → R (Option D) := fun d => do
  let e1 ← bindT t d (clr vs env)
  let b ← fc e1
  if b then (do let y ← fe e1; pure (some y)) else pure none
def compF (t : T) (vs : List Nat) (fi : Env → R (List D)) (fc : Env → R Bool) (fe : Env → R D) : Env → R D := fun env => do
  let ds ← fi env
  let rs ← compL (turnF t vs fc fe env) ds
  sized rs
section
variable {X : Cx} {W : WX} {C : Nat → Value} {own : List Nat} {M L : List Nat} {fi : Env → R (List D)} {fc : Env → R Bool} {fe : Env → R D} {t : T} {vs : List Nat}
theorem comp_core (hv : own0 own vs = true) (ht : ∀ i ∈ slotsT t, i ∈ vs) {K : PySem.W.Frag} (σ : L2.St) (H : Hp) (Q : VK) (h : tR K W C own (PF K L) (compF t vs fi fc fe) σ H Q) :
    tLc (tRI K W C own M [] fi) (tG K own t) (tRT K WF C own fc) (tR K WF C own (PV K L) fe) vs σ H Q := by
  obtain ⟨A, env, fs, ok, r⟩ := h
  refine ⟨A, env, fs, ok, ?_⟩
  replace r : Rest W C σ (PF K L A fs H) H Q (fi env >>= fun ds => compL (turnF t vs fc fe env) ds >>= sized) := r
  cases ei : fi env with
  | exc c => rw [ei] at r; exact r
  | bad => rw [ei] at r; exact r
  | ok ds =>
    rw [ei] at r
    intro J H1 s1 wk Dn hDn
    replace r : Rest W C σ (PF K L A fs H) H Q (compL (turnF t vs fc fe env) ds >>= sized) := r
    obtain ⟨rs, er, r⟩ := Rest.pM (σ := σ) r (compL_noexc ds)
    obtain ⟨hz, r⟩ := Rest.ite_bad (σ := σ) r
    have hD0 : H Dn = none := s1.free hDn
    refine ⟨fun i m H2 => m = ds.length - i ∧ i ≤ ds.length ∧ Same H1 H2 ∧ ∃ acc pre suf, H2 Dn = some (.lst acc) ∧ Rps K (hid (fun b => exL A fs L b ∨ b = Dn) H2) acc pre ∧ compL (turnF t vs fc fe env) (ds.drop i) = .ok suf ∧ pre ++ suf = rs,
      ⟨ds.length, by simp, Nat.zero_le _, same_new hDn, [], [], rs, upd_same, .nil, er, rfl⟩, ?_⟩
    rintro i m H2 ⟨rfl, hi, s2, acc, pre, suf, hacc, hpre, hsuf, hrs⟩
    have ok2 := ok.block (vs := vs) (Dn := Dn) hv (s1.trans s2) hD0 (by rw [hacc]; exact fun z => nomatch z)
    obtain ⟨wk1, wk2⟩ := wk H2 (ex (fun a => A a ∨ a = Dn) fs) (fun a o _ q => s2 a o q) (fun a z => ⟨ok2.exal a z, by
      rcases z with (z | z) | z
      · exact .inl (.inl z)
      · rw [z]; exact .inr hDn
      · obtain ⟨j, z⟩ := z
        exact .inl (.inr ⟨j, (fun q => nomatch q), z⟩)⟩)
    by_cases hlt : i < ds.length
    · have ed : ds[i]? = some ds[i] := List.getElem?_eq_getElem hlt
      have edrop : ds.drop i = ds[i] :: ds.drop (i + 1) := List.drop_eq_getElem_cons hlt
      rw [edrop] at hsuf
      obtain ⟨o, zs, ef, hzs, ey⟩ := compL_cons hsuf
      unfold turnF at ef
      obtain ⟨e1, eb, ef⟩ := R.bind_ok ef
      obtain ⟨b, ec, ef⟩ := R.bind_ok ef
      obtain ⟨go, yld⟩ := wk1 i _ ed
      refine .inr ⟨go, fun H' => ∃ m', m' < ds.length - i ∧ (m' = ds.length - (i + 1) ∧ i + 1 ≤ ds.length ∧ Same H1 H' ∧ ∃ acc pre suf, H' Dn = some (.lst acc) ∧ Rps K (hid (fun b => exL A fs L b ∨ b = Dn) H') acc pre ∧ compL (turnF t vs fc fe env) (ds.drop (i + 1)) = .ok suf ∧ pre ++ suf = rs),
        fun H' z => z, fun x H3 hy => ?_⟩
      obtain ⟨s3, rx⟩ := yld x H3 hy
      refine ⟨_, _, fs, ds[i], ok2.same s3, rx, e1, eb, fun σ' ok3 hw => ⟨?_, ?_⟩⟩
      · rw [hw vs ht]
        exact wipe_idem σ vs vs fun _ z => z
      · refine ⟨_, e1, fs, ok3, ?_⟩
        rw [ec]
        rintro b' H4 s4 rfl
        cases b' with
        | true =>
          rw [if_pos rfl]
          replace ef : (fe e1 >>= fun y => R.ok (some y)) = R.ok o := ef
          obtain ⟨y, ee, ef⟩ := R.bind_ok ef
          cases ef
          refine ⟨_, e1, fs, ok3.same s4, ?_⟩
          rw [ee]
          intro v H5 s5 rv
          have s25 : Same H2 H5 := (s3.trans s4).trans s5
          have ey' : suf = y :: zs := ey
          refine ⟨acc, s25 _ _ hacc, ?_, ?_⟩
          · rw [hpre.length]
            have el := congrArg List.length hrs
            rw [List.length_append, ey', List.length_cons] at el
            omega
          · refine ⟨_, Nat.sub_lt_sub_left hlt (Nat.lt_succ_self i), rfl, hlt, fun b o q => ?_, acc ++ [v], pre ++ [y], zs, upd_same, ?_, hzs, ?_⟩
            · rw [upd_ne (ne_of_none q hDn)]
              exact s25 _ _ (s2 _ _ q)
            · refine Rps.append (hpre.mono fun b o q => ?_) (.cons (Rp.mono (fun b o q => ?_) (rv : Rp _ _ _ _)) .nil)
              · rw [hid_some] at q ⊢
                refine ⟨q.1, ?_⟩
                rw [upd_ne fun z => q.1 (.inr z)]
                exact s25 _ _ q.2
              · rw [hid_some] at q ⊢
                refine ⟨fun z => q.1 ?_, ?_⟩
                · rcases z with (z | z) | z
                  · exact .inl (.inl z)
                  · exact .inr z
                  · exact .inl (.inr z)
                · rw [upd_ne fun z => q.1 (.inl (.inr z))]
                  exact q.2
            · rw [← hrs, ey', List.append_assoc]
              rfl
        | false =>
          rw [if_neg Bool.false_ne_true]
          cases ef
          have s24 : Same H2 H4 := s3.trans s4
          have ey' : suf = zs := ey
          exact ⟨_, Nat.sub_lt_sub_left hlt (Nat.lt_succ_self i), rfl, hlt, s2.trans s24, acc, pre, zs, s24 _ _ hacc, hpre.mono (same_hid s24), hzs, by rw [← ey']; exact hrs⟩
    · have ei : i = ds.length := by omega
      subst ei
      rw [List.drop_length] at hsuf
      cases hsuf
      rw [List.append_nil] at hrs
      subst hrs
      exact .inl ⟨wk2, Rest.to r (s1.trans s2) (.inr ⟨Dn, acc, pre, rfl, rfl, hD0, hacc, hpre⟩)⟩
end
end Ev
set_option Elab.async false
set_option linter.all false
set_option maxRecDepth 100000
namespace Ev
open PySem PySem.Spec PyProof.Rows L2
/-- what a statement may change -/
structure Step (fs fs' : Nat → List Addr) (H H' : Hp) : Prop where
  keep : ∀ a o, (∀ i, a ∉ fs i) → H a = some o → H' a = some o
  al : ∀ a, H a ≠ none → H' a ≠ none
  fresh : ∀ i a, a ∈ fs' i → (∃ j, a ∈ fs j) ∨ H a = none
def Keep (fs : Nat → List Addr) (H H' : Hp) : Prop := ∀ a o, (∀ i, a ∉ fs i) → H a = some o → H' a = some o
theorem same_al {H H' : Hp} (s : Same H H') : ∀ a, H a ≠ none → H' a ≠ none := fun a h z => by
  cases q : H a with
  | none => exact h q
  | some o => rw [s a o q] at z; cases z
theorem Step.refl {fs : Nat → List Addr} {H : Hp} : Step fs fs H H := ⟨fun _ _ _ h => h, fun _ h => h, fun i a h => .inl ⟨i, h⟩⟩
theorem Step.of_same {fs : Nat → List Addr} {H H' : Hp} (s : Same H H') : Step fs fs H H' := ⟨fun a o _ h => s a o h, same_al s, fun i a h => .inl ⟨i, h⟩⟩
theorem Step.trans {f g h : Nat → List Addr} {H1 H2 H3 : Hp} (a : Step f g H1 H2) (b : Step g h H2 H3) : Step f h H1 H3 where
  keep := fun x o hx e => b.keep x o (fun i z => by
    rcases a.fresh i x z with ⟨j, q⟩ | q
    · exact hx j q
    · rw [e] at q; cases q) (a.keep x o hx e)
  al := fun x e => b.al x (a.al x e)
  fresh := fun i x z => by
    rcases b.fresh i x z with ⟨j, q⟩ | q
    · exact a.fresh j x q
    · refine .inr ?_
      cases e : H1 x with
      | none => rfl
      | some o => exact absurd q (a.al x (by rw [e]; exact fun z => nomatch z))
theorem Step.toKeep {f g : Nat → List Addr} {H1 H2 H3 : Hp} (a : Step f g H1 H2) (b : Keep g H2 H3) : Keep f H1 H3 := fun x o hx e => b x o (fun i z => by
  rcases a.fresh i x z with ⟨j, q⟩ | q
  · exact hx j q
  · rw [e] at q; cases q) (a.keep x o hx e)
def RestS (K : PySem.W.Frag) (W : WX) (C : Nat → Value) (own : List Nat) (n : Nat) (ws : List Nat) (A : Addr → Prop) (fs : Nat → List Addr) (σ : L2.St) (H : Hp) (D : Ends) : R Out → Prop
  | .ok (.next e') => ∀ σ' H' fs', Step fs fs' H H' → Ok K A H' σ' e' own fs' → (∀ k, k ∉ ws → σ'[k]? = σ[k]?) → D.nx σ' H'
  | .ok (.ret d) => ∀ v H' fp, Keep fs H H' → (∀ a ∈ fp, (∃ i, a ∈ fs i) ∨ H a = none) → fp.Nodup → OR K H' (fun a => A a ∨ a ∈ fp) n v d fp → D.rt v H'
  | .exc c => ∀ σ' H', Keep fs H H' → W (C c) none σ' H'
  | .bad => False
/-- n: how deep the answer is owned; ws: the slots that may be stored -/
def tSt (K : PySem.W.Frag) (W : WX) (C : Nat → Value) (own : List Nat) (n : Nat) (ws : List Nat) (f : Env → R Out) : TS := fun D σ H => ∃ A env fs, Ok K A H σ env own fs ∧ RestS K W C own n ws A fs σ H D (f env)
section
variable {K : PySem.W.Frag} {W : WX} {C : Nat → Value} {own : List Nat} {n : Nat} {ws : List Nat} {X : Cx} {σ σ1 : L2.St} {H H' : Hp} {A : Addr → Prop} {env : Env} {fs fs' : Nat → List Addr} {pos p p2 : Pos} {D : Ends}
theorem _root_.L2.PS.imp {s : Stmt} {t t' : TS} (h : PS X s t) (hi : ∀ D σ H, t' D σ H → t D σ H) : PS X s t' := ⟨fun pins s σ H D I hq => h.run pins s σ H D I (hi D σ H hq)⟩
theorem _root_.L2.PSs.imp {s : List Stmt} {t t' : TS} (h : PSs X s t) (hi : ∀ D σ H, t' D σ H → t D σ H) : PSs X s t' := ⟨fun pins s σ H D I hq => h.run pins s σ H D I (hi D σ H hq)⟩
theorem RestS.later {r : R Out} (h : RestS K W C own n ws A fs σ H D r) (s : Step fs fs' H H') (hs : ∀ k, k ∉ ws → σ1[k]? = σ[k]?) : RestS K W C own n ws A fs' σ1 H' D r := by
  cases r with
  | ok o =>
    cases o with
    | next e' => exact fun σ' H'' fs'' s' ok hk => h σ' H'' fs'' (s.trans s') ok fun k hkw => (hk k hkw).trans (hs k hkw)
    | ret d => exact fun v H'' fp k hf nd o => h v H'' fp (s.toKeep k) (fun a ha => by
        rcases hf a ha with ⟨i, z⟩ | z
        · exact s.fresh i a z
        · refine .inr ?_
          cases e : H a with
          | none => rfl
          | some o => exact absurd z (s.al a (by rw [e]; exact fun z => nomatch z))) nd o
  | exc c => exact fun σ' H'' k => h σ' H'' (s.toKeep k)
  | bad => exact h
theorem RestS.here {r : R Out} (h : RestS K W C own n ws A fs σ H D r) (s : Same H H') : RestS K W C own n ws A fs σ H' D r := h.later (.of_same s) fun _ _ => rfl
theorem RestS.less {ws' : List Nat} {r : R Out} (h : RestS K W C own n ws A fs σ H D r) (hw : ∀ k, k ∈ ws' → k ∈ ws) : RestS K W C own n ws' A fs σ H D r := by
  cases r with
  | ok o =>
    cases o with
    | next e' => exact fun σ' H' fs' s ok hk => h σ' H' fs' s ok fun k q => hk k fun z => q (hw k z)
    | ret d => exact h
  | exc c => exact h
  | bad => exact h
theorem RestS.ends {r : R Out} {D' : Ends} (h : RestS K W C own n ws A fs σ H D r) (hn : D'.nx = D.nx) (hr : D'.rt = D.rt) : RestS K W C own n ws A fs σ H D' r := by
  cases r with
  | ok o =>
    cases o with
    | next e' => intro σ' H' fs' s ok hk; rw [hn]; exact h σ' H' fs' s ok hk
    | ret d => intro v H' fp k hf nd o; rw [hr]; exact h v H' fp k hf nd o
  | exc c => exact h
  | bad => exact h
/-- one expression of a statement -/
theorem RestS.bindE {f : Env → R PyData} {P : Pr} {k : PyData → R Out} {T : VK} (ok : Ok K A H σ env own fs) (r : RestS K W C own n ws A fs σ H D (f env >>= k))
    (hk : ∀ x v H1, Ok K A H1 σ env own fs → Same H H1 → P A fs H H1 v x → RestS K W C own n ws A fs σ H1 D (k x) → T v H1) : tR K W C own P f σ H T := by
  refine ⟨A, env, fs, ok, ?_⟩
  cases e : f env with
  | ok x =>
    rw [e] at r
    exact fun v H1 s p => hk x v H1 (ok.same s) s p (RestS.here r s)
  | exc c => rw [e] at r; exact fun H1 s => r σ H1 fun a o _ h => s a o h
  | bad => rw [e] at r; exact r
theorem RestS.bindT {f : Env → R Bool} {k : Bool → R Out} {T : Bool → Hp → Prop} (ok : Ok K A H σ env own fs) (r : RestS K W C own n ws A fs σ H D (f env >>= k))
    (hk : ∀ x H1, Ok K A H1 σ env own fs → Same H H1 → RestS K W C own n ws A fs σ H1 D (k x) → T x H1) : tRT K W C own f σ H T := by
  refine ⟨A, env, fs, ok, ?_⟩
  cases e : f env with
  | ok x =>
    rw [e] at r
    rintro v H1 s rfl
    exact hk _ H1 (ok.same s) s (RestS.here r s)
  | exc c => rw [e] at r; exact fun H1 s => r σ H1 fun a o _ h => s a o h
  | bad => rw [e] at r; exact r
theorem RestS.pI {k : Int → R Out} {d : PyData} (r : RestS K W C own n ws A fs σ H D (asI d >>= k)) : ∃ i, d = .int i ∧ RestS K W C own n ws A fs σ H D (k i) := by
  cases d <;> first | exact False.elim r | exact ⟨_, rfl, r⟩
theorem RestS.pLst {k : List PyData → R Out} {d : PyData} (r : RestS K W C own n ws A fs σ H D (asLst d >>= k)) : ∃ i, d = .list i ∧ RestS K W C own n ws A fs σ H D (k i) := by
  cases d <;> first | exact False.elim r | exact ⟨_, rfl, r⟩
theorem RestS.pO {α : Type} {k : α → R Out} {o : Option α} (r : RestS K W C own n ws A fs σ H D (ofO o >>= k)) : ∃ i, o = some i ∧ RestS K W C own n ws A fs σ H D (k i) := by
  cases o with
  | none => exact False.elim r
  | some i => exact ⟨i, rfl, r⟩
theorem RestS.pS {k : PyData → R Out} {i : Nat} (r : RestS K W C own n ws A fs σ H D (getS env i >>= k)) : ∃ d, env[i]? = some (some d) ∧ RestS K W C own n ws A fs σ H D (k d) := by
  rcases getS_cases env i with ⟨d, e1, e2⟩ | e2
  · rw [e2] at r; exact ⟨d, e1, r⟩
  · rw [e2] at r; exact False.elim r
/-! ### storing -/
/-- the owned addresses behind a store -/
def fsSet (fs : Nat → List Addr) (mv : List Nat) (i : Nat) (fp : List Addr) : Nat → List Addr := fun k => if k = i then fp else if k ∈ mv then [] else fs k
theorem fsSet_self {mv : List Nat} {i : Nat} {fp : List Addr} : fsSet fs mv i fp i = fp := if_pos rfl
theorem fsSet_mem {mv : List Nat} {i k : Nat} {fp : List Addr} {a : Addr} (h : a ∈ fsSet fs mv i fp k) : (k = i ∧ a ∈ fp) ∨ (k ≠ i ∧ k ∉ mv ∧ a ∈ fs k) := by
  unfold fsSet at h
  by_cases e : k = i
  · rw [if_pos e] at h; exact .inl ⟨e, h⟩
  · rw [if_neg e] at h
    by_cases m : k ∈ mv
    · rw [if_pos m] at h; cases h
    · rw [if_neg m] at h; exact .inr ⟨e, m, h⟩
theorem Ok.store {mv : List Nat} {i : Nat} {fp : List Addr} {v : V} {d : PyData} (k : Ok K A H σ env own fs) (s : Same H H') (hfp : ∀ a ∈ fp, H a = none) (nd : fp.Nodup)
    (o : OR K H' (fun a => exL A fs mv a ∨ a ∈ fp) (own.getD i 0) v d fp) : Ok K A H' (σ.set i (some v)) ((clr mv env).set i (some d)) own (fsSet fs mv i fp) where
  len := by rw [List.length_set, List.length_set, clr_len]; exact k.len
  ow := by rw [List.length_set, clr_len]; exact k.ow
  sl := fun j e h => by
    by_cases hj : i = j
    · subst hj
      by_cases hl : i < env.length
      · rw [List.getElem?_set_self (by rw [clr_len]; exact hl)] at h
        cases h
        refine ⟨v, List.getElem?_set_self (by rw [k.len]; exact hl), ?_⟩
        rw [fsSet_self]
        refine o.keep (hid_sub fun a z => ?_) fun a _ o q => q
        rcases z with z | ⟨j, z⟩
        · exact .inl (.inl z)
        · rcases fsSet_mem z with ⟨_, z⟩ | ⟨_, m, z⟩
          · exact .inr z
          · exact .inl (.inr ⟨j, m, z⟩)
      · rw [List.getElem?_eq_none (by rw [List.length_set, clr_len]; omega)] at h
        cases h
    · rw [List.getElem?_set_ne hj] at h
      by_cases hm : j ∈ mv
      · exact absurd h (clr_in hm e)
      · rw [clr_out hm] at h
        obtain ⟨w, h1, h2⟩ := k.sl j e h
        refine ⟨w, by rw [List.getElem?_set_ne hj]; exact h1, ?_⟩
        have ef : fsSet fs mv i fp j = fs j := by unfold fsSet; rw [if_neg (Ne.symm hj), if_neg hm]
        rw [ef]
        refine h2.keep (fun a o q => ?_) fun a _ o q => s a o q
        rw [hid_some] at q ⊢
        refine ⟨fun z => ?_, s a o q.2⟩
        rcases z with z | ⟨l, z⟩
        · exact q.1 (.inl z)
        · rcases fsSet_mem z with ⟨_, z⟩ | ⟨_, _, z⟩
          · have := hfp a z; rw [q.2] at this; cases this
          · exact q.1 (.inr ⟨l, z⟩)
  nil := fun j h => by
    by_cases hj : i = j
    · subst hj
      rw [fsSet_self]
      by_cases hl : i < env.length
      · exact absurd (List.getElem?_set_self (by rw [clr_len]; exact hl)) (h d)
      · -- beyond the slots nothing is owned
        have h0 : own.getD i 0 = 0 := by
          rw [List.getD_eq_getElem?_getD, List.getElem?_eq_none (by have := k.ow; omega)]
          rfl
        rw [h0] at o
        exact o.zero.2
    · unfold fsSet
      rw [if_neg (Ne.symm hj)]
      by_cases hm : j ∈ mv
      · rw [if_pos hm]
      · rw [if_neg hm]
        exact k.nil j fun d' z => h d' (by rw [List.getElem?_set_ne hj, clr_out hm]; exact z)
  nd := fun j => by
    unfold fsSet
    by_cases e : j = i
    · rw [if_pos e]; exact nd
    · rw [if_neg e]
      by_cases m : j ∈ mv
      · rw [if_pos m]; exact .nil
      · rw [if_neg m]; exact k.nd j
  dis := fun j l a h1 h2 => by
    rcases fsSet_mem h1 with ⟨e1, z1⟩ | ⟨_, _, z1⟩ <;> rcases fsSet_mem h2 with ⟨e2, z2⟩ | ⟨_, _, z2⟩
    · rw [e1, e2]
    · exact absurd (hfp a z1) (k.fal l a z2)
    · exact absurd (hfp a z2) (k.fal j a z1)
    · exact k.dis j l a z1 z2
  apart := fun j a h z => by
    rcases fsSet_mem z with ⟨_, z⟩ | ⟨_, _, z⟩
    · exact k.al a h (hfp a z)
    · exact k.apart j a h z
  al := fun a h => same_al s a (k.al a h)
theorem step_store {mv : List Nat} {i : Nat} {fp : List Addr} (s : Same H H') (hfp : ∀ a ∈ fp, H a = none) : Step fs (fsSet fs mv i fp) H H' :=
  ⟨fun a o _ h => s a o h, same_al s, fun k a z => by
    rcases fsSet_mem z with ⟨_, z⟩ | ⟨_, _, z⟩
    · exact .inr (hfp a z)
    · exact .inl ⟨k, z⟩⟩
end
end Ev
set_option Elab.async false
set_option linter.all false
set_option maxRecDepth 100000
namespace Ev
open PySem PySem.Spec PyProof.Rows L2
section
variable {K : PySem.W.Frag} {W : WX} {C : Nat → Value} {own : List Nat} {n : Nat} {ws : List Nat} {X : Cx} {σ : L2.St} {H H' : Hp} {A : Addr → Prop} {env : Env} {fs fs' : Nat → List Addr} {pos p p2 : Pos} {D : Ends}
/-- the list of a slot owned to the depth 1 -/
theorem Ok.list1 (k : Ok K A H σ env own fs) {i : Nat} {ds : List PyData} (h1 : own.getD i 0 = 1) (e : env[i]? = some (some (.list ds))) :
    ∃ a xs, σ[i]? = some (some (.ref a)) ∧ H a = some (.lst xs) ∧ fs i = [a] ∧ Rps K (hid (ex A fs) H) xs ds := by
  obtain ⟨v, e1, o⟩ := k.sl i _ e
  rw [h1] at o
  obtain ⟨m, a, xs, ds', fp, em, rfl, ed, ef, ha, hs⟩ := o.ref (by decide) ⟨_, rfl⟩
  have m0 : m = 0 := by omega
  subst m0
  cases ed
  obtain ⟨r, z⟩ := hs.zero
  exact ⟨a, xs, e1, ha, by rw [ef, z], r⟩
/-- .. changed -/
theorem Ok.mut1 (k : Ok K A H σ env own fs) {i : Nat} {a : Addr} {xs xs' : List V} {ds ds' : List PyData} {mv : List Nat} (h1 : own.getD i 0 = 1) (hi : i ∉ mv) (e : env[i]? = some (some (.list ds))) (e1 : σ[i]? = some (some (.ref a)))
    (ha : H a = some (.lst xs)) (hf : fs i = [a]) (r : Rps K (hid (exL A fs mv) H) xs' ds') : Ok K A (upd H a (.lst xs')) σ ((clr mv env).set i (some (.list ds'))) own (fsSet fs mv i (fs i)) := by
  have am : a ∈ fs i := by rw [hf]; exact List.mem_cons_self
  have sub : ∀ b, ex A (fsSet fs mv i (fs i)) b → exL A fs mv b := fun b z => by
    rcases z with z | ⟨l, z⟩
    · exact .inl z
    · rcases fsSet_mem z with ⟨_, z⟩ | ⟨_, m, z⟩
      · exact .inr ⟨i, hi, z⟩
      · exact .inr ⟨l, m, z⟩
  have aex : exL A fs mv a := .inr ⟨i, hi, am⟩
  have up : Same (hid (exL A fs mv) H) (hid (ex A (fsSet fs mv i (fs i))) (upd H a (.lst xs'))) := fun b o q => by
    rw [hid_some] at q ⊢
    refine ⟨fun z => q.1 (sub b z), ?_⟩
    rw [upd_ne fun z => q.1 (by rw [z]; exact aex)]
    exact q.2
  have hl : i < env.length := (List.getElem?_eq_some_iff.mp e).1
  refine ⟨by rw [List.length_set, clr_len]; exact k.len, by rw [List.length_set, clr_len]; exact k.ow, fun j d h => ?_, fun j h => ?_, fun j => ?_, fun j l b z1 z2 => ?_, fun j b hb z => ?_, fun b hb => ?_⟩
  · by_cases hj : i = j
    · subst hj
      rw [List.getElem?_set_self (by rw [clr_len]; exact hl)] at h
      cases h
      refine ⟨_, e1, ?_⟩
      have up' := r.mono up
      rw [h1, fsSet_self, hf]
      rw [hf] at up'
      exact .lst upd_same (ORs.of0 up')
    · rw [List.getElem?_set_ne hj] at h
      by_cases hm : j ∈ mv
      · exact absurd h (clr_in hm d)
      · rw [clr_out hm] at h
        obtain ⟨w, q1, q2⟩ := k.sl j d h
        refine ⟨w, q1, ?_⟩
        have ef : fsSet fs mv i (fs i) j = fs j := by unfold fsSet; rw [if_neg (Ne.symm hj), if_neg hm]
        rw [ef]
        refine q2.keep (fun b o q => up b o ?_) fun b hb o q => ?_
        · rw [hid_some] at q ⊢
          exact ⟨fun z => q.1 (by
            rcases z with z | ⟨l, _, z⟩
            · exact .inl z
            · exact .inr ⟨l, z⟩), q.2⟩
        · rw [upd_ne fun z => hj (k.dis i j a am (by rw [← z]; exact hb))]
          exact q
  · by_cases hj : i = j
    · subst hj
      exact absurd (List.getElem?_set_self (by rw [clr_len]; exact hl)) (h _)
    · unfold fsSet
      rw [if_neg (Ne.symm hj)]
      by_cases hm : j ∈ mv
      · rw [if_pos hm]
      · rw [if_neg hm]
        exact k.nil j fun d' z => h d' (by rw [List.getElem?_set_ne hj, clr_out hm]; exact z)
  · unfold fsSet
    by_cases q : j = i
    · rw [if_pos q]; exact k.nd i
    · rw [if_neg q]
      by_cases m : j ∈ mv
      · rw [if_pos m]; exact .nil
      · rw [if_neg m]; exact k.nd j
  · have z1' : b ∈ fs j := by
      rcases fsSet_mem z1 with ⟨q, z⟩ | ⟨_, _, z⟩
      · rw [q]; exact z
      · exact z
    have z2' : b ∈ fs l := by
      rcases fsSet_mem z2 with ⟨q, z⟩ | ⟨_, _, z⟩
      · rw [q]; exact z
      · exact z
    exact k.dis j l b z1' z2'
  · have z' : b ∈ fs j := by
      rcases fsSet_mem z with ⟨q, z⟩ | ⟨_, _, z⟩
      · rw [q]; exact z
      · exact z
    exact k.apart j b hb z'
  · by_cases q : b = a
    · rw [q, upd_same]; exact fun z => nomatch z
    · rw [upd_ne q]; exact k.al b hb
theorem step_mut1 {i : Nat} {a : Addr} {o : HO} {mv : List Nat} (am : a ∈ fs i) : Step fs (fsSet fs mv i (fs i)) H (upd H a o) where
  keep := fun b u hb h => by rw [upd_ne fun z => hb i (by rw [z]; exact am)]; exact h
  al := fun b h => by
    by_cases q : b = a
    · rw [q, upd_same]; exact fun z => nomatch z
    · rw [upd_ne q]; exact h
  fresh := fun j b z => by
    rcases fsSet_mem z with ⟨_, z⟩ | ⟨_, _, z⟩
    · exact .inl ⟨i, z⟩
    · exact .inl ⟨j, z⟩
/-! ### the statements -/
def notComp : Expr → Bool
  | .ListComp _ _ _ _ => false
  | .SetComp _ _ _ _ => false
  | .DictComp _ _ _ _ _ => false
  | _ => true
theorem swaps_of {e : Expr} {t : Option Expr} {l : Nat} {env : PySem.Env} (h : notComp e = true) : swapsWith e t l env = pure false := by
  cases e <;> first | rfl | cases h
theorem swapsSole_of {e t : Expr} {l : Nat} {env : PySem.Env} (h : notComp e = true) : swapsWithSole [t] e l env = pure false := by
  rw [swapsWithSole]
  exact swaps_of h
variable {sc : Scope} {N : List Str} {e : Expr} {f : Env → R PyData} {mv : List Nat} {i : Nat} {x : Str}
/-- x = e, by the value's own form -/
theorem asg_core {m : Nat} (hm : own.getD i 0 = m) (D : Ends) (σ : L2.St) (H : Hp) (h : tSt K W C own n [i] (fun env => do let d ← f env; pure (.next ((clr mv env).set i (some d)))) D σ H) :
    tAsg (tR K W C own (PN K m mv) f) (gName i) D σ H := by
  obtain ⟨A, env, fs, ok, r⟩ := h
  refine ⟨A, env, fs, ok, ?_⟩
  replace r : RestS K W C own n [i] A fs σ H D (f env >>= fun d => .ok (.next ((clr mv env).set i (some d)))) := r
  cases q : f env with
  | ok d =>
    rw [q] at r
    rintro v H1 s1 ⟨fp, h1, h2, h3⟩
    subst hm
    exact r _ H1 _ (step_store s1 h1) (ok.store s1 h1 h2 h3) fun k hk => List.getElem?_set_ne fun z => hk (by rw [z]; exact List.mem_cons_self)
  | exc c => rw [q] at r; exact fun H1 s => r σ H1 fun a o _ h => s a o h
  | bad => rw [q] at r; exact r
theorem PN.of_PV0 {L : List Nat} {v : V} {d : PyData} (h : PV K L A fs H H' v d) : PN K 0 L A fs H H' v d :=
  ⟨[], (fun a z => nomatch z), .nil, .stb ((h : Rp _ _ _ _).mono (hid_sub fun a z => z.elim id fun z => nomatch z))⟩
theorem s_asg {m : Nat} (S : StOk X sc N) (hm : own.getD i 0 = m) (hi : N[i]? = some x) (hx : sc.names.lookup x = some .local ∨ sc.names.lookup x = some .cell) (hc : swapsWithSole [.Name x p2] e pos.line X.env = pure false) (he : PE X e (tR X.K W C own (PN X.K m mv) f)) :
    PS X (.Assign [.Name x p2] e pos) (tSt X.K W C own n [i] fun env => do let d ← f env; pure (.next ((clr mv env).set i (some d)))) :=
  (ps_asg he (pg_name (i := i) (by rw [S.n]; exact S.nd) (by rw [S.n]; exact hi) (S.st x hx).1 (S.st x hx).2) hc).imp fun D σ H h => asg_core hm D σ H h
/-- a move: x = y, y owned as deep as x -/
theorem s_mov {j : Nat} {y : Str} (S : StOk X sc N) (hij : own.getD i 0 = own.getD j 0) (hi : N[i]? = some x) (hx : sc.names.lookup x = some .local ∨ sc.names.lookup x = some .cell) (hj : N[j]? = some y) (hy : Vis X.env.scope y) (hd : (y == ("__debug__" : Str)) = false) (hcd : (y == ("__classdict__" : Str)) = false)
    (hne : i ≠ j) : PS X (.Assign [.Name x p2] (.Name y p) pos) (tSt X.K W C own n [i] fun env => do let d ← getS env j; pure (.next ((clr [j] env).set i (some d)))) := by
  refine (ps_asg (pe_var (i := j) (by rw [S.n]; exact hj) hy hd hcd) (pg_name (i := i) (by rw [S.n]; exact S.nd) (by rw [S.n]; exact hi) (S.st x hx).1 (S.st x hx).2)).imp fun D σ H ⟨A, env, fs, ok, r⟩ => ?_
  obtain ⟨d, e1, r⟩ := RestS.pS r
  obtain ⟨v, e2, o⟩ := ok.sl j d e1
  refine ⟨v, e2, ?_⟩
  -- the addresses of j become those of i
  have key : Ok X.K A H (σ.set i (some v)) ((clr [j] env).set i (some d)) own (fsSet fs [j] i (fs j)) := by
    have hl : i < N.length := (List.getElem?_eq_some_iff.mp hi).1
    have mem : ∀ {k a}, a ∈ fsSet fs [j] i (fs j) k → ∃ l, a ∈ fs l ∧ ((k = i ∧ l = j) ∨ (k ≠ i ∧ k ≠ j ∧ l = k)) := fun {k a} z => by
      rcases fsSet_mem z with ⟨q, z⟩ | ⟨q, m, z⟩
      · exact ⟨j, z, .inl ⟨q, rfl⟩⟩
      · exact ⟨k, z, .inr ⟨q, fun w => m (by rw [w]; exact List.mem_cons_self), rfl⟩⟩
    have sub : Same (hid (ex A fs) H) (hid (ex A (fsSet fs [j] i (fs j))) H) := hid_sub fun a z => by
      rcases z with z | ⟨k, z⟩
      · exact .inl z
      · obtain ⟨l, z, _⟩ := mem z
        exact .inr ⟨l, z⟩
    refine ⟨by rw [List.length_set, List.length_set, clr_len]; exact ok.len, by rw [List.length_set, clr_len]; exact ok.ow, fun k d' h => ?_, fun k h => ?_, fun k => ?_, fun k l a z1 z2 => ?_, fun k a ha z => ?_, ok.al⟩
    · by_cases hk : i = k
      · subst hk
        by_cases hlt : i < env.length
        · rw [List.getElem?_set_self (by rw [clr_len]; exact hlt)] at h
          cases h
          refine ⟨v, List.getElem?_set_self (by rw [ok.len]; exact hlt), ?_⟩
          rw [fsSet_self, hij]
          exact o.keep sub fun _ _ _ q => q
        · rw [List.getElem?_eq_none (by rw [List.length_set, clr_len]; omega)] at h
          cases h
      · rw [List.getElem?_set_ne hk] at h
        by_cases hm : k ∈ [j]
        · exact absurd h (clr_in hm d')
        · rw [clr_out hm] at h
          obtain ⟨w, h1, h2⟩ := ok.sl k d' h
          refine ⟨w, by rw [List.getElem?_set_ne hk]; exact h1, ?_⟩
          have ef : fsSet fs [j] i (fs j) k = fs k := by unfold fsSet; rw [if_neg (Ne.symm hk), if_neg hm]
          rw [ef]
          exact h2.keep sub fun _ _ _ q => q
    · by_cases hk : i = k
      · subst hk
        by_cases hlt : i < env.length
        · exact absurd (List.getElem?_set_self (by rw [clr_len]; exact hlt)) (h d)
        · have h0 : own.getD i 0 = 0 := by
            rw [List.getD_eq_getElem?_getD, List.getElem?_eq_none (by have := ok.ow; omega)]
            rfl
          rw [fsSet_self]
          rw [← hij, h0] at o
          exact o.zero.2
      · unfold fsSet
        rw [if_neg (Ne.symm hk)]
        by_cases hm : k ∈ [j]
        · rw [if_pos hm]
        · rw [if_neg hm]
          exact ok.nil k fun d' z => h d' (by rw [List.getElem?_set_ne hk, clr_out hm]; exact z)
    · unfold fsSet
      by_cases q : k = i
      · rw [if_pos q]; exact ok.nd j
      · rw [if_neg q]
        by_cases m : k ∈ [j]
        · rw [if_pos m]; exact .nil
        · rw [if_neg m]; exact ok.nd k
    · obtain ⟨l1, y1, q1⟩ := mem z1
      obtain ⟨l2, y2, q2⟩ := mem z2
      have el := ok.dis l1 l2 a y1 y2
      rcases q1 with ⟨a1, a2⟩ | ⟨a1, a2, a3⟩ <;> rcases q2 with ⟨b1, b2⟩ | ⟨b1, b2, b3⟩ <;> omega
    · obtain ⟨l, z, _⟩ := mem z
      exact ok.apart l a ha z
  exact r _ H _ ⟨fun a o _ h => h, fun a h => h, fun k a z => by
    rcases fsSet_mem z with ⟨_, z⟩ | ⟨_, _, z⟩
    · exact .inl ⟨j, z⟩
    · exact .inl ⟨k, z⟩⟩ key fun k hk => List.getElem?_set_ne fun z => hk (by rw [z]; exact List.mem_cons_self)
/-- a comprehension to a local name -/
theorem s_setLc {m : Nat} {elt tg iter : Expr} {ifs : List Expr} {scope : Scope} {vs : List (Str × Nat)} {lp : Pos} {wi : TI} {g : TG} {tt : TT} {te : TE} (S : StOk X sc N) (hm : own.getD i 0 = m) (hi : N[i]? = some x) (hxl : X.env.scope.names.lookup x = some .local)
    (hsw : swapsWith (.ListComp elt [⟨tg, iter, ifs, 0⟩] scope lp) (some (.Name x p2)) pos.line X.env = pure true) (hit : PI X tg iter wi) (ok : BlkOk X.N X.env.scope scope vs)
    (hg : ∀ (s : Shared) (H : Hp) (C : Addr) (cl : List (Str × Addr)) (fp : List Addr), PG (X.blk s H scope (compEnvC scope cl C X.env) fp) tg g) (ht : ∀ (s : Shared) (H : Hp) (C : Addr) (cl : List (Str × Addr)) (fp : List Addr), PTs (X.blk s H scope (compEnvC scope cl C X.env) fp) ifs tt)
    (he : ∀ (s : Shared) (H : Hp) (C : Addr) (cl : List (Str × Addr)) (fp : List Addr), PE (X.blk s H scope (compEnvC scope cl C X.env) fp) elt te) (hs : ∀ x, foldedSetIterable iter X.env x = pure x)
    (hcore : ∀ σ H Q, tR X.K W C own (PN X.K m mv) f σ H Q → tLc wi g tt te (vs.map (·.2)) σ H Q) :
    PS X (.Assign [.Name x p2] (.ListComp elt [⟨tg, iter, ifs, 0⟩] scope lp) pos) (tSt X.K W C own n [i] fun env => do let d ← f env; pure (.next ((clr mv env).set i (some d)))) :=
  (ps_setLc S.calm (by rw [S.n]; exact S.nd) (by rw [S.n]; exact hi) hxl hsw hit ok hg ht he hs).imp fun D σ H h => hcore _ _ _ (asg_core hm D σ H h)
theorem e_comp {elt tg iter : Expr} {ifs : List Expr} {scope : Scope} {vs : List (Str × Nat)} {lp : Pos} {wi : TI} {g : TG} {tt : TT} {te : TE} {P : Pr} (S : StOk X sc N) (hit : PI X tg iter wi) (ok : BlkOk X.N X.env.scope scope vs)
    (hg : ∀ (s : Shared) (H : Hp) (C : Addr) (cl : List (Str × Addr)) (fp : List Addr), PG (X.blk s H scope (compEnvC scope cl C X.env) fp) tg g) (ht : ∀ (s : Shared) (H : Hp) (C : Addr) (cl : List (Str × Addr)) (fp : List Addr), PTs (X.blk s H scope (compEnvC scope cl C X.env) fp) ifs tt)
    (he : ∀ (s : Shared) (H : Hp) (C : Addr) (cl : List (Str × Addr)) (fp : List Addr), PE (X.blk s H scope (compEnvC scope cl C X.env) fp) elt te) (hs : ∀ x, foldedSetIterable iter X.env x = pure x)
    (hcore : ∀ σ H Q, tR X.K W C own P f σ H Q → tLc wi g tt te (vs.map (·.2)) σ H Q) : PE X (.ListComp elt [⟨tg, iter, ifs, 0⟩] scope lp) (tR X.K W C own P f) :=
  (pe_lc S.calm (by rw [S.n]; exact S.nd) hit ok hg ht he hs).imp hcore
end
end Ev
set_option Elab.async false
set_option linter.all false
set_option maxRecDepth 100000
namespace Ev
open PySem PySem.Spec PyProof.Rows L2
section
variable {K : PySem.W.Frag} {W : WX} {C : Nat → Value} {own : List Nat} {n : Nat} {ws : List Nat} {X : Cx} {σ : L2.St} {H H' : Hp} {A : Addr → Prop} {env : Env} {fs fs' : Nat → List Addr} {pos p p2 : Pos} {D : Ends}
variable {sc : Scope} {N : List Str} {a b c e k : Expr} {f g h : Env → R PyData} {mv M1 L1 M2 L2' : List Nat} {i j : Nat} {x y : Str}
theorem asg_sub {o i : Expr} {pos : Pos} {env : PySem.Env} (h : plainIx i = true) (v : Value) : assign (.Subscript o i pos) env v = (do
      let ov ← holding [v] (eval o env)
      let iv ← holding [v, ov] (eval i env)
      standAt pos
      holding [v, ov, iv] (setItem ov iv v)
      release [v, ov, iv] []) := by cases i <;> first | rfl | cases h
/-- x.append(e) -/
theorem s_app {apos cpos : Pos} (hN : X.N[i]? = some x) (hv : Vis X.env.scope x) (hd : (x == ("__debug__" : Str)) = false) (hcd : (x == ("__classdict__" : Str)) = false) (ho : own.getD i 0 = 1) (him : i ∉ mv) (ns : notStar e = true) (hline : (apos.endLine == cpos.line) = true)
    (he : PE X e (tR X.K W C own (PV X.K mv) f)) :
    PS X (.Expr (.Call (.Attribute (.Name x p) "append" apos) [e] [] cpos) pos) (tSt X.K W C own n [i] fun env => do
      let x ← getS env i
      let l ← asLst x
      let d ← f env
      let y ← sizedApp l d
      pure (.next ((clr mv env).set i (some y)))) := by
  refine (ps_expr (pe_bm PySem.F.plainAttrs_list PySem.F.slot_list_append PySem.F.type_list_append mt_append (pe_var hN hv hd hcd) (pa_cons he pa_nil (star_of ns)) (hbase := rfl)
    (hfew := by rw [star_of ns]; rfl) (hline := hline) (hs := star_of ns) (hplain := rfl))).imp fun D σ H ⟨A, env, fs, ok, r⟩ => ?_
  obtain ⟨d0, e0, r⟩ := RestS.pS r
  obtain ⟨l, rfl, r⟩ := RestS.pLst r
  obtain ⟨a, xs, hσ, ha, hf, hr⟩ := ok.list1 ho e0
  refine ⟨.ref a, hσ, .inl ⟨rfl, xs, .inl (.inl ha)⟩, ?_⟩
  refine RestS.bindE ok r fun d v H1 ok1 s1 p1 r => ?_
  have ha1 := s1 _ _ ha
  have hr1 := hr.mono (same_hid s1)
  by_cases hz : l.length < sizeLine
  · replace r : RestS X.K W C own n [i] A fs σ H1 D ((if l.length < sizeLine then R.ok (.list (l ++ [d])) else .bad) >>= fun y => pure (.next ((clr mv env).set i (some y)))) := r
    rw [if_pos hz] at r
    refine ⟨a, xs, v, rfl, rfl, ha1, by rw [hr.length]; exact hz, ?_⟩
    have am : a ∈ fs i := by rw [hf]; exact List.mem_cons_self
    exact r σ _ _ (step_mut1 am) (ok1.mut1 ho him e0 hσ ha1 hf ((hr1.mono (hid_sub fun b z => by
      rcases z with z | ⟨l, _, z⟩
      · exact .inl z
      · exact .inr ⟨l, z⟩)).append (.cons p1 .nil))) fun _ _ => rfl
  · replace r : RestS X.K W C own n [i] A fs σ H1 D ((if l.length < sizeLine then R.ok (.list (l ++ [d])) else .bad) >>= fun y => pure (.next ((clr mv env).set i (some y)))) := r
    rw [if_neg hz] at r
    exact False.elim r
/-- x[k] = e -/
theorem s_setIx {sp : Pos} (hpx : plainIx k = true) (hN : X.N[i]? = some x) (hv : Vis X.env.scope x) (hd : (x == ("__debug__" : Str)) = false) (hcd : (x == ("__classdict__" : Str)) = false) (ho : own.getD i 0 = 1) (him : i ∉ mv) (nc : notComp e = true)
    (he : PE X e (tR X.K W C own (PV X.K mv) f)) (hk : PE X k (tR X.K W C own (PC X.K M1 L1) g)) :
    PS X (.Assign [.Subscript (.Name x p) k sp] e pos) (tSt X.K W C own n [i] fun env => do
      let d ← f env
      let x ← getS env i
      let l ← asLst x
      let kk ← g env
      let k0 ← asI kk
      let l2 ← setAt l k0 d
      pure (.next ((clr mv env).set i (some (.list l2))))) := by
  refine (ps_asg he (pg_sub (pe_var hN hv hd hcd) hk set_list (asg_sub hpx)) (swapsSole_of nc) rfl rfl).imp fun D σ H ⟨A, env, fs, ok, r⟩ => ?_
  refine RestS.bindE ok r fun d v H1 ok1 s1 p1 r => ?_
  obtain ⟨d0, e0, r⟩ := RestS.pS r
  obtain ⟨l, rfl, r⟩ := RestS.pLst r
  obtain ⟨a, xs, hσ, ha, hf, hr⟩ := ok1.list1 ho e0
  refine ⟨.ref a, hσ, ?_⟩
  refine RestS.bindE ok1 r fun kk w H2 ok2 s2 p2 r => ?_
  obtain ⟨k0, rfl, r⟩ := RestS.pI r
  have ha2 := s2 _ _ ha
  cases q : L2.ixN l.length k0 with
  | none =>
    replace r : RestS X.K W C own n [i] A fs σ H2 D ((match L2.ixN l.length k0 with | some j => R.ok (l.set j d) | none => .bad) >>= fun l2 => pure (.next ((clr mv env).set i (some (.list l2))))) := r
    rw [q] at r
    exact False.elim r
  | some j =>
    replace r : RestS X.K W C own n [i] A fs σ H2 D ((match L2.ixN l.length k0 with | some j => R.ok (l.set j d) | none => .bad) >>= fun l2 => pure (.next ((clr mv env).set i (some (.list l2))))) := r
    rw [q] at r
    refine ⟨a, xs, k0, j, rfl, p2.int, ha2, by rw [hr.length]; exact q, ?_⟩
    have am : a ∈ fs i := by rw [hf]; exact List.mem_cons_self
    exact r σ _ _ (step_mut1 am) (ok2.mut1 ho him e0 hσ ha2 hf (Rps.set j (Rp.mono (same_hid s2) (p1 : Rp _ _ _ _)) ((hr.mono (same_hid s2)).mono (hid_sub fun b z => by
      rcases z with z | ⟨l, _, z⟩
      · exact .inl z
      · exact .inr ⟨l, z⟩)))) fun _ _ => rfl
/-- x += e, ints -/
theorem s_aug {o : BOp} (S : StOk X sc N) (hi : N[i]? = some x) (hx : sc.names.lookup x = some .local ∨ sc.names.lookup x = some .cell) (ho : own.getD i 0 = 0) (hop : o = .add ∨ o = .sub) (he : PE X e (tR X.K W C own (PC X.K M1 L1) f)) :
    PS X (.AugAssign (.Name x p) (opB o) e pos) (tSt X.K W C own n [i] fun env => do
      let x ← getS env i
      let y ← f env
      let a ← asI x
      let b ← asI y
      let z ← augR o a b
      pure (.next (env.set i (some (.int z))))) := by
  have key : ∀ {ti : TIp} {op : Operator} {fn : Int → Int → Int}, op = opB o → (∀ a b, augR o a b = .ok (fn a b)) → ti = ipI fn → PIp X op ti → PS X (.AugAssign (.Name x p) (opB o) e pos) (tSt X.K W C own n [i] fun env => do
      let x ← getS env i
      let y ← f env
      let a ← asI x
      let b ← asI y
      let z ← augR o a b
      pure (.next (env.set i (some (.int z))))) := fun {ti op fn} eo ef et hp => by
    subst eo et
    refine (ps_aug (i := i) (by rw [S.n]; exact S.nd) (by rw [S.n]; exact hi) (S.st x hx).1 he hp (S.st x hx).2).imp fun D σ H ⟨A, env, fs, ok, r⟩ => ?_
    obtain ⟨d0, e0, r⟩ := RestS.pS r
    obtain ⟨v, e1, o1⟩ := ok.sl i d0 e0
    refine ⟨v, e1, RestS.bindE ok r fun d w H1 ok1 s1 p1 r => ?_⟩
    obtain ⟨a, ea, r1⟩ := RestS.pI r
    obtain ⟨b, eb, r2⟩ := RestS.pI r1
    subst ea eb
    rw [ho] at o1
    refine ⟨a, b, o1.zero.1.int', p1.int, ?_⟩
    rw [ef] at r2
    exact r2 _ H1 _ .refl (ok1.set0 ho (.int _)) fun k hk => List.getElem?_set_ne fun z => hk (by rw [z]; exact List.mem_cons_self)
  rcases hop with rfl | rfl
  · exact key (fn := fun i j => i + j) rfl (fun _ _ => rfl) rfl ip_add
  · exact key (fn := fun i j => i - j) rfl (fun _ _ => rfl) rfl ip_sub
/-- a block -/
theorem ss_nil : PSs X [] (tSt X.K W C own n ws fun env => .ok (.next env)) :=
  pss_nil.imp fun D σ H ⟨A, env, fs, ok, r⟩ => r σ H fs .refl ok fun _ _ => rfl
def seqF (f g : Env → R Out) : Env → R Out := fun env => do
  let o ← f env
  match o with
  | .next e1 => g e1
  | .ret v => pure (.ret v)
theorem ss_cons {s : Stmt} {ss : List Stmt} {w1 w2 : List Nat} {f g : Env → R Out} (h1 : PS X s (tSt X.K W C own n w1 f)) (h2 : PSs X ss (tSt X.K W C own n w2 g)) :
    PSs X (s :: ss) (tSt X.K W C own n (w1 ++ w2) (seqF f g)) :=
  (pss_cons h1 h2).imp fun D σ H ⟨A, env, fs, ok, r⟩ => by
    refine ⟨A, env, fs, ok, ?_⟩
    unfold seqF at r
    cases q : f env with
    | ok o =>
      cases o with
      | next e1 =>
        intro σ1 H1 fs1 s1 ok1 hk
        rw [q] at r
        exact ⟨A, e1, fs1, ok1, (RestS.later (RestS.less (ws' := w1 ++ w2) r fun k z => z) s1 fun k z => hk k fun y => z (List.mem_append_left _ y)).less fun k z => List.mem_append_right _ z⟩
      | ret d => rw [q] at r; exact r
    | exc c => rw [q] at r; exact r
    | bad => rw [q] at r; exact r
/-- if -/
theorem s_ite {sa sb : List Stmt} {wa wb : List Nat} {g h : Env → R Out} (hc : PT X c (tRT X.K W C own fun env => f env >>= asB)) (ha : PSs X sa (tSt X.K W C own n wa g)) (hb : PSs X sb (tSt X.K W C own n wb h)) :
    PS X (.If c sa sb pos) (tSt X.K W C own n (wa ++ wb) fun env => do let d ← f env; let t ← asB d; if t then g env else h env) :=
  (ps_if hc ha hb).imp fun D σ H ⟨A, env, fs, ok, r⟩ => by
    have e : (do let d ← f env; let t ← asB d; if t then g env else h env) = ((f env >>= asB) >>= fun t => if t then g env else h env) := by cases f env <;> rfl
    replace r : RestS X.K W C own n (wa ++ wb) A fs σ H D (do let d ← f env; let t ← asB d; if t then g env else h env) := r
    rw [e] at r
    refine RestS.bindT ok r fun t H1 ok1 s1 r => ?_
    cases t with
    | true => exact iteT ⟨A, env, fs, ok1, RestS.less r fun k z => List.mem_append_left _ z⟩
    | false => exact iteF ⟨A, env, fs, ok1, RestS.less r fun k z => List.mem_append_right _ z⟩
/-- while -/
theorem s_whl {body : List Stmt} {F : Nat} {g : Env → R Out} (hp : PassesOwn (model X.prog X.w) X.A X.env X.xe) (hc : PT X c (tRT X.K W C own fun env => f env >>= asB)) (hb : PSs X body (tSt X.K W C own n ws g)) :
    PS X (.While c body [] pos) (tSt X.K W C own n ws fun env => whlL (fun e => do let d ← f e; asB d) g F env) :=
  (ps_while hp hc hb).imp fun D σ H ⟨A, env, fs, ok, r⟩ => by
    refine ⟨fun m σ' H' => ∃ A env fs, Ok X.K A H' σ' env own fs ∧ RestS X.K W C own n ws A fs σ' H' D (whlL (fun e => f e >>= asB) g m env), ⟨F, A, env, fs, ok, r⟩, ?_⟩
    rintro m σ' H' ⟨A, env, fs, ok, r⟩
    cases m with
    | zero => exact False.elim r
    | succ m =>
      replace r : RestS X.K W C own n ws A fs σ' H' D ((f env >>= asB) >>= fun t => if t then (g env >>= fun o => match o with | .next e1 => whlL (fun e => f e >>= asB) g m e1 | .ret v => pure (.ret v)) else pure (.next env)) := r
      refine RestS.bindT ok r fun t H1 ok1 s1 r => ?_
      cases t with
      | true =>
        refine iteT ⟨fun σ2 H2 => ∃ A env fs, Ok X.K A H2 σ2 env own fs ∧ RestS X.K W C own n ws A fs σ2 H2 D (whlL (fun e => f e >>= asB) g m env), fun σ2 H2 z => ⟨m, Nat.lt_succ_self m, z⟩, A, env, fs, ok1, ?_⟩
        replace r : RestS X.K W C own n ws A fs σ' H1 D (g env >>= fun o => match o with | .next e1 => whlL (fun e => f e >>= asB) g m e1 | .ret v => pure (.ret v)) := r
        cases q : g env with
        | ok o =>
          cases o with
          | next e1 =>
            rw [q] at r
            intro σ2 H2 fs2 s2 ok2 hk
            exact ⟨A, e1, fs2, ok2, RestS.later r s2 hk⟩
          | ret d => rw [q] at r; exact r
        | exc c => rw [q] at r; exact r
        | bad => rw [q] at r; exact r
      | false => exact iteF (r σ' H1 fs .refl ok1 fun _ _ => rfl)
/-! return, raise, expressions -/
theorem s_ret (he : PE X e (tR X.K W C own (PN X.K n mv) f)) : PS X (.Return (some e) pos) (tSt X.K W C own n ws fun env => do let d ← f env; pure (.ret d)) :=
  (ps_ret he).imp fun D σ H ⟨A, env, fs, ok, r⟩ => by
    refine ⟨A, env, fs, ok, ?_⟩
    replace r : RestS X.K W C own n ws A fs σ H D (f env >>= fun d => .ok (.ret d)) := r
    cases q : f env with
    | ok d =>
      rw [q] at r
      rintro v H1 s1 ⟨fp, h1, h2, h3⟩
      refine r v H1 fp (fun a o _ h => s1 a o h) (fun a ha => .inr (h1 a ha)) h2 (h3.keep (hid_sub fun a z => ?_) fun _ _ _ h => h)
      rcases z with z | z
      · exact .inl (.inl z)
      · exact .inr z
    | exc c => rw [q] at r; exact fun H1 s => r σ H1 fun a o _ h => s a o h
    | bad => rw [q] at r; exact r
theorem s_retN : PS X (.Return none pos) (tSt X.K W C own n ws fun env => .ok (.ret .none)) :=
  ps_retN.imp fun D σ H ⟨A, env, fs, ok, r⟩ => r .non H [] (fun a o _ h => h) (fun a z => nomatch z) .nil (.nm rfl .non)
/-- return x, x owned -/
theorem s_retV (hN : X.N[i]? = some x) (hv : Vis X.env.scope x) (hd : (x == ("__debug__" : Str)) = false) (hcd : (x == ("__classdict__" : Str)) = false) (ho : own.getD i 0 = n) :
    PS X (.Return (some (.Name x p)) pos) (tSt X.K W C own n ws fun env => do let d ← getS env i; pure (.ret d)) :=
  (ps_ret (pe_var hN hv hd hcd)).imp fun D σ H ⟨A, env, fs, ok, r⟩ => by
    obtain ⟨d, e0, r⟩ := RestS.pS r
    obtain ⟨v, e1, o⟩ := ok.sl i d e0
    subst ho
    refine ⟨v, e1, r v H (fs i) (fun a o _ h => h) (fun a ha => .inl ⟨i, ha⟩) (ok.nd i) (o.keep (hid_sub fun a z => ?_) fun _ _ _ h => h)⟩
    rcases z with z | z
    · exact .inl z
    · exact .inr ⟨i, z⟩
theorem s_expr (nc : notComp e = true) (he : PE X e (tR X.K W C own (PV X.K mv) f)) : PS X (.Expr e pos) (tSt X.K W C own n ws fun env => do let _ ← f env; pure (.next env)) :=
  (ps_expr he (swaps_of nc)).imp fun D σ H ⟨A, env, fs, ok, r⟩ => RestS.bindE ok r fun d v H1 ok1 s1 p1 r => r σ H1 fs .refl ok1 fun _ _ => rfl
theorem s_pass : PS X (.Pass pos) (tSt X.K W C own n ws fun env => .ok (.next env)) :=
  ps_pass.imp fun D σ H ⟨A, env, fs, ok, r⟩ => r σ H fs .refl ok fun _ _ => rfl
theorem s_raise {cI : Nat} {t : L2.St → Hp → XK → Prop} (hcalm : X.calm = true) (tk : Takes X W) (he : PMk X e fun _ H Q => Q (C cI) none H) : PS X (.Raise (some e) none pos) (tSt X.K W C own n ws fun _ => .exc cI) :=
  (ps_raise hcalm tk he).imp fun D σ H ⟨A, env, fs, ok, r⟩ => r σ H fun a o _ h => h
end
end Ev
set_option Elab.async false
set_option linter.all false
set_option maxRecDepth 100000
namespace Ev
open PySem PySem.Spec PyProof.Rows L2
theorem unhide_len (old : Env) : ∀ (hd : List Nat) (e : Env), (unhide hd old e).length = e.length
  | [], e => rfl
  | i :: hd, e => by
    show ((unhide hd old e).set i (old.getD i none)).length = e.length
    rw [List.length_set]
    exact unhide_len old hd e
theorem unhide_in (old : Env) {k : Nat} : ∀ {hd : List Nat} {e : Env}, k ∈ hd → k < e.length → (unhide hd old e)[k]? = some (old.getD k none)
  | i :: hd, e, h, hl => by
    show ((unhide hd old e).set i (old.getD i none))[k]? = _
    by_cases q : i = k
    · subst q
      rw [List.getElem?_set_self (by rw [unhide_len]; exact hl)]
    · rw [List.getElem?_set_ne q]
      exact unhide_in old ((List.mem_cons.mp h).elim (fun z => absurd z.symm q) id) hl
theorem unhide_out (old : Env) {k : Nat} : ∀ {hd : List Nat} {e : Env}, k ∉ hd → (unhide hd old e)[k]? = e[k]?
  | [], e, _ => rfl
  | i :: hd, e, h => by
    rw [List.mem_cons, not_or] at h
    show ((unhide hd old e).set i (old.getD i none))[k]? = _
    rw [List.getElem?_set_ne (Ne.symm h.1)]
    exact unhide_out old h.2
section
variable {K : PySem.W.Frag} {A : Addr → Prop} {H H' : Hp} {σ σ' : L2.St} {env e1 : Env} {own : List Nat} {fs fs' : Nat → List Addr} {hd : List Nat}
def hidA (A : Addr → Prop) (fs : Nat → List Addr) (hd : List Nat) : Addr → Prop := fun a => A a ∨ ∃ k, k ∈ hd ∧ a ∈ fs k
def hidF (fs : Nat → List Addr) (hd : List Nat) : Nat → List Addr := fun k => if k ∈ hd then [] else fs k
theorem hidF_mem {k : Nat} {a : Addr} (h : a ∈ hidF fs hd k) : k ∉ hd ∧ a ∈ fs k := by
  unfold hidF at h
  by_cases m : k ∈ hd
  · rw [if_pos m] at h; cases h
  · rw [if_neg m] at h; exact ⟨m, h⟩
theorem Ok.hide (k : Ok K A H σ env own fs) (hd : List Nat) : Ok K (hidA A fs hd) H σ (clr hd env) own (hidF fs hd) where
  len := by rw [clr_len]; exact k.len
  ow := by rw [clr_len]; exact k.ow
  sl := fun i d h => by
    by_cases hm : i ∈ hd
    · exact absurd h (clr_in hm d)
    · rw [clr_out hm] at h
      obtain ⟨v, e1, o⟩ := k.sl i d h
      refine ⟨v, e1, ?_⟩
      have ef : hidF fs hd i = fs i := by unfold hidF; rw [if_neg hm]
      rw [ef]
      refine o.keep (hid_sub fun a z => ?_) fun _ _ _ q => q
      rcases z with (z | ⟨j, _, z⟩) | ⟨j, z⟩
      · exact .inl z
      · exact .inr ⟨j, z⟩
      · exact .inr ⟨j, (hidF_mem z).2⟩
  nil := fun i h => by
    unfold hidF
    by_cases hm : i ∈ hd
    · rw [if_pos hm]
    · rw [if_neg hm]
      exact k.nil i fun d z => h d (by rw [clr_out hm]; exact z)
  nd := fun i => by
    unfold hidF
    by_cases hm : i ∈ hd
    · rw [if_pos hm]; exact .nil
    · rw [if_neg hm]; exact k.nd i
  dis := fun i j a h1 h2 => k.dis i j a (hidF_mem h1).2 (hidF_mem h2).2
  apart := fun i a h z => by
    obtain ⟨m, z⟩ := hidF_mem z
    rcases h with h | ⟨j, hj, h⟩
    · exact k.apart i a h z
    · exact m (by rw [← k.dis j i a h z]; exact hj)
  al := fun a h => by
    rcases h with h | ⟨j, _, h⟩
    · exact k.al a h
    · exact k.fal j a h
def unF (fs fs' : Nat → List Addr) (hd : List Nat) : Nat → List Addr := fun k => if k ∈ hd then fs k else fs' k
theorem unF_mem {k : Nat} {a : Addr} (h : a ∈ unF fs fs' hd k) : (k ∈ hd ∧ a ∈ fs k) ∨ (k ∉ hd ∧ a ∈ fs' k) := by
  unfold unF at h
  by_cases m : k ∈ hd
  · rw [if_pos m] at h; exact .inl ⟨m, h⟩
  · rw [if_neg m] at h; exact .inr ⟨m, h⟩
theorem Ok.unhide (k : Ok K A H σ env own fs) (s : Step (hidF fs hd) fs' H H') (k' : Ok K (hidA A fs hd) H' σ' e1 own fs') (hs : ∀ i ∈ hd, σ'[i]? = σ[i]?) (hl : e1.length = env.length) :
    Ok K A H' σ' (Ev.unhide hd env e1) own (unF fs fs' hd) where
  len := by rw [unhide_len]; exact k'.len
  ow := by rw [unhide_len]; exact k'.ow
  sl := fun i d h => by
    by_cases hm : i ∈ hd
    · by_cases hlt : i < e1.length
      · rw [unhide_in env hm hlt] at h
        have h' : env[i]? = some (some d) := by
          rw [List.getD_eq_getElem?_getD] at h
          cases q : env[i]? with
          | none => rw [q] at h; cases h
          | some o =>
            rw [q] at h
            exact congrArg some (Option.some.inj h)
        obtain ⟨v, q1, q2⟩ := k.sl i d h'
        refine ⟨v, (hs i hm).trans q1, ?_⟩
        have ef : unF fs fs' hd i = fs i := by unfold unF; rw [if_pos hm]
        rw [ef]
        refine q2.keep (fun a o q => ?_) fun a ha o q => s.keep a o (fun j z => ?_) q
        · rw [hid_some] at q ⊢
          refine ⟨fun z => ?_, s.keep a o (fun j z => q.1 (.inr ⟨j, (hidF_mem z).2⟩)) q.2⟩
          rcases z with z | ⟨j, z⟩
          · exact q.1 (.inl z)
          · rcases unF_mem z with ⟨_, z⟩ | ⟨_, z⟩
            · exact q.1 (.inr ⟨j, z⟩)
            · rcases s.fresh j a z with ⟨l, z⟩ | z
              · exact q.1 (.inr ⟨l, (hidF_mem z).2⟩)
              · rw [q.2] at z; cases z
        · obtain ⟨m, z⟩ := hidF_mem z
          exact m (by rw [← k.dis i j a ha z]; exact hm)
      · rw [List.getElem?_eq_none (by rw [unhide_len]; omega)] at h
        cases h
    · rw [unhide_out env hm] at h
      obtain ⟨v, q1, q2⟩ := k'.sl i d h
      refine ⟨v, q1, ?_⟩
      have ef : unF fs fs' hd i = fs' i := by unfold unF; rw [if_neg hm]
      rw [ef]
      refine q2.keep (hid_sub fun a z => ?_) fun _ _ _ q => q
      rcases z with z | ⟨j, z⟩
      · exact .inl (.inl z)
      · rcases unF_mem z with ⟨m, z⟩ | ⟨_, z⟩
        · exact .inl (.inr ⟨j, m, z⟩)
        · exact .inr ⟨j, z⟩
  nil := fun i h => by
    unfold unF
    by_cases hm : i ∈ hd
    · rw [if_pos hm]
      refine k.nil i fun d z => ?_
      have hlt : i < e1.length := by rw [hl]; exact (List.getElem?_eq_some_iff.mp z).1
      refine h d ?_
      rw [unhide_in env hm hlt, List.getD_eq_getElem?_getD, z]
      rfl
    · rw [if_neg hm]
      exact k'.nil i fun d z => h d (by rw [unhide_out env hm]; exact z)
  nd := fun i => by
    unfold unF
    by_cases hm : i ∈ hd
    · rw [if_pos hm]; exact k.nd i
    · rw [if_neg hm]; exact k'.nd i
  dis := fun i j a h1 h2 => by
    rcases unF_mem h1 with ⟨m1, z1⟩ | ⟨m1, z1⟩ <;> rcases unF_mem h2 with ⟨m2, z2⟩ | ⟨m2, z2⟩
    · exact k.dis i j a z1 z2
    · exact absurd z2 (k'.apart j a (.inr ⟨i, m1, z1⟩))
    · exact absurd z1 (k'.apart i a (.inr ⟨j, m2, z2⟩))
    · exact k'.dis i j a z1 z2
  apart := fun i a h z => by
    rcases unF_mem z with ⟨_, z⟩ | ⟨_, z⟩
    · exact k.apart i a h z
    · exact k'.apart i a (.inl h) z
  al := fun a h => k'.al a (.inl h)
theorem step_un (s : Step (hidF fs hd) fs' H H') : Step fs (unF fs fs' hd) H H' where
  keep := fun a o h e => s.keep a o (fun i z => h i (hidF_mem z).2) e
  al := s.al
  fresh := fun i a z => by
    rcases unF_mem z with ⟨_, z⟩ | ⟨_, z⟩
    · exact .inl ⟨i, z⟩
    · rcases s.fresh i a z with ⟨j, z⟩ | z
      · exact .inl ⟨j, (hidF_mem z).2⟩
      · exact .inr z
end
mutual
theorem bindT_len : ∀ (t : T) (d : D) (e e' : Env), bindT t d e = .ok e' → e'.length = e.length
  | .name i, d, e, e', h => by unfold bindT at h; cases h; exact List.length_set ..
  | .tup ts, d, e, e', h => by
    unfold bindT at h
    obtain ⟨l, _, h⟩ := R.bind_ok h
    exact bindTs_len' ts l e e' h
theorem bindTs_len' : ∀ (t : Ts) (d : List D) (e e' : Env), bindTs t d e = .ok e' → e'.length = e.length
  | .nil, [], e, e', h => by unfold bindTs at h; cases h; rfl
  | .cons t ts, d :: ds, e, e', h => by
    unfold bindTs at h
    obtain ⟨e1, h1, h2⟩ := R.bind_ok h
    rw [bindTs_len' ts ds e1 e' h2, bindT_len t d e e1 h1]
  | .nil, _ :: _, _, _, h => by unfold bindTs at h; cases h
  | .cons _ _, [], _, _, h => by unfold bindTs at h; cases h
end
mutual
theorem bindT_noexc : ∀ (t : T) (d : D) (e : Env) (c : Nat), bindT t d e ≠ .exc c
  | .name i, d, e, c => fun h => by unfold bindT at h; cases h
  | .tup ts, d, e, c => fun h => by
    unfold bindT at h
    cases q : asL d with
    | ok l => rw [q] at h; exact bindTs_noexc ts l e c h
    | exc c' => cases d <;> cases q
    | bad => rw [q] at h; cases h
theorem bindTs_noexc : ∀ (t : Ts) (d : List D) (e : Env) (c : Nat), bindTs t d e ≠ .exc c
  | .nil, [], e, c => fun h => by unfold bindTs at h; cases h
  | .cons t ts, d :: ds, e, c => fun h => by
    unfold bindTs at h
    cases q : bindT t d e with
    | ok e1 => rw [q] at h; exact bindTs_noexc ts ds e1 c h
    | exc c' => exact bindT_noexc t d e c' q
    | bad => rw [q] at h; cases h
  | .nil, _ :: _, _, _ => fun h => by unfold bindTs at h; cases h
  | .cons _ _, [], _, _ => fun h => by unfold bindTs at h; cases h
end
def forF (hd : List Nat) (t : T) (fi : Env → R (List D)) (g : Env → R Out) : Env → R Out := fun env => do
  let ds ← fi env
  let o ← forL (fun d e => do let e1 ← bindT t d e; g e1) ds (clr hd env)
  match o with
  | .next e1 => pure (.next (unhide hd env e1))
  | .ret v => pure (.ret v)
section
variable {K : PySem.W.Frag} {W : WX} {C : Nat → Value} {own : List Nat} {n : Nat} {ws : List Nat} {X : Cx} {σ : L2.St} {H H' : Hp} {A : Addr → Prop} {env : Env} {fs fs' : Nat → List Addr} {pos p p2 : Pos}
/-- what a target stores -/
theorem tG_slots {t : T} {v : V} {Q : L2.St → Hp → Prop} {d : D} {e' : Env} (ok : Ok K A H σ env own fs) (r : Rp K (hid (ex A fs) H) v d) (b : bindT t d env = .ok e')
    (q : ∀ σ', Ok K A H σ' e' own fs → (∀ k, k ∉ slotsT t → σ'[k]? = σ[k]?) → Q σ' H) : tG K own t v σ H Q :=
  ⟨A, env, fs, d, ok, r, e', b, fun σ' ok' hw => q σ' ok' fun k hk => by
    have e := hw (slotsT t) fun _ z => z
    have e1 : (wipe σ' (slotsT t))[k]? = (wipe σ (slotsT t))[k]? := by rw [e]
    rw [wipe_out hk, wipe_out hk] at e1
    exact e1⟩
theorem folded_of {e : Expr} {env : PySem.Env} (h : plainIn e = true) (x : Value) : foldedSetIterable e env x = pure x := by cases e <;> first | rfl | cases h
theorem s_for {tg iter : Expr} {body : List Stmt} {t : T} {hd wb : List Nat} {fi : Env → R (List D)} {g : Env → R Out} (hp : PassesOwn (model X.prog X.w) X.A X.env X.xe) (hc : X.calm = true) (hi : PI X tg iter (tRI X.K W C own hd [] fi))
    (hg : PG X tg (tG X.K own t)) (hb : PSs X body (tSt X.K W C own n wb g)) (hdj : ∀ k ∈ hd, k ∉ slotsT t ∧ k ∉ wb) (hlen : ∀ e o, g e = .ok (.next o) → o.length = e.length) (hset : plainIn iter = true) :
    PS X (.For tg iter body [] pos) (tSt X.K W C own n (slotsT t ++ wb) (forF hd t fi g)) := by
  refine (ps_for hp hc hi hg hb (folded_of hset)).imp fun De σ H ⟨A, env, fs, ok, r⟩ => ?_
  refine ⟨A, env, fs, ok, ?_⟩
  unfold forF at r
  cases ei : fi env with
  | exc c => rw [ei] at r; exact fun H1 s => r σ H1 fun a o _ h => s a o h
  | bad => rw [ei] at r; exact r
  | ok ds =>
    rw [ei] at r
    intro J H1 s1 wk
    have ok1 := ok.same s1
    replace r := RestS.here (fs := fs) r s1
    obtain ⟨step, hstep⟩ : ∃ step : D → Env → R Out, step = (fun d e => bindT t d e >>= g) := ⟨_, rfl⟩
    obtain ⟨o, ho⟩ : ∃ o, o = forL step ds (clr hd env) := ⟨_, rfl⟩
    replace r : RestS X.K W C own n (slotsT t ++ wb) A fs σ H1 De (o >>= fun o => match o with | .next e1 => pure (.next (unhide hd env e1)) | .ret v => pure (.ret v)) := by
      rw [ho, hstep]; exact r
    refine ⟨fun i m σ' H' => m = ds.length - i ∧ i ≤ ds.length ∧ ∃ env' fs', Ok X.K (hidA A fs hd) H' σ' env' own fs' ∧ Step (hidF fs hd) fs' H1 H' ∧ (∀ k, k ∉ slotsT t ++ wb → σ'[k]? = σ[k]?) ∧ env'.length = env.length ∧ forL step (ds.drop i) env' = o,
      ⟨ds.length, by simp, Nat.zero_le _, clr hd env, hidF fs hd, ok1.hide hd, .refl, fun _ _ => rfl, clr_len _ _, ho.symm⟩, ?_⟩
    rintro i m σ' H' ⟨rfl, hi, env', fs', ok', st, hk, hl, hf⟩
    obtain ⟨wk1, wk2⟩ := wk H' (ex (hidA A fs hd) fs') (fun a o z q => st.keep a o (fun j y => by
        obtain ⟨m, y⟩ := hidF_mem y
        exact z (.inr ⟨j, m, y⟩)) q) (fun a z => ⟨ok'.exal a z, by
      rcases z with (z | ⟨j, _, z⟩) | ⟨j, z⟩
      · exact .inl (.inl z)
      · exact .inl (.inr ⟨j, (fun q => nomatch q), z⟩)
      · rcases st.fresh j a z with ⟨l, z⟩ | z
        · exact .inl (.inr ⟨l, (fun q => nomatch q), (hidF_mem z).2⟩)
        · exact .inr z⟩)
    by_cases hlt : i < ds.length
    · have ed : ds[i]? = some ds[i] := List.getElem?_eq_getElem hlt
      have edrop : ds.drop i = ds[i] :: ds.drop (i + 1) := List.drop_eq_getElem_cons hlt
      rw [edrop] at hf
      replace hf : (step ds[i] env' >>= fun o => match o with | .next e1 => forL step (ds.drop (i + 1)) e1 | .ret v => pure (.ret v)) = o := hf
      obtain ⟨go, yld⟩ := wk1 i _ ed
      refine .inr ⟨go, fun σ2 H2 => ∃ m', m' < ds.length - i ∧ (m' = ds.length - (i + 1) ∧ i + 1 ≤ ds.length ∧ ∃ env' fs', Ok X.K (hidA A fs hd) H2 σ2 env' own fs' ∧ Step (hidF fs hd) fs' H1 H2 ∧ (∀ k, k ∉ slotsT t ++ wb → σ2[k]? = σ[k]?) ∧ env'.length = env.length ∧ forL step (ds.drop (i + 1)) env' = o),
        fun _ _ z => z, fun x H3 hy => ?_⟩
      obtain ⟨s3, rx⟩ := yld x H3 hy
      have st3 : Step (hidF fs hd) fs' H1 H3 := st.trans (.of_same s3)
      cases eb : bindT t ds[i] env' with
      | exc c => exact absurd eb (bindT_noexc _ _ _ _)
      | bad =>
        have es : step ds[i] env' = .bad := by rw [hstep]; show (bindT t ds[i] env' >>= g) = _; rw [eb]; rfl
        rw [es] at hf
        rw [← hf] at r
        exact False.elim r
      | ok e1 =>
        have es : step ds[i] env' = g e1 := by rw [hstep]; show (bindT t ds[i] env' >>= g) = _; rw [eb]; rfl
        rw [es] at hf
        refine tG_slots (ok'.same s3) rx eb fun σ2 ok2 hk2 => ⟨_, e1, fs', ok2, ?_⟩
        cases eg : g e1 with
        | bad =>
          rw [eg] at hf
          rw [← hf] at r
          exact False.elim r
        | exc c =>
          rw [eg] at hf
          rw [← hf] at r
          exact fun σ4 H4 k4 => r σ4 H4 fun a o h e => st3.toKeep k4 a o (fun j z => h j (hidF_mem z).2) e
        | ok o2 =>
          rw [eg] at hf
          cases o2 with
          | next e2 =>
            intro σ4 H4 fs4 s4 ok4 hk4
            refine ⟨_, Nat.sub_lt_sub_left hlt (Nat.lt_succ_self i), rfl, hlt, e2, fs4, ok4, st3.trans s4, fun k hkw => ?_, ?_, hf⟩
            · rw [List.mem_append, not_or] at hkw
              rw [hk4 k hkw.2, hk2 k hkw.1]
              exact hk k (by rw [List.mem_append, not_or]; exact hkw)
            · rw [hlen e1 e2 eg, bindT_len _ _ _ _ eb, hl]
          | ret d =>
            rw [← hf] at r
            intro v H4 fp k4 hfp nd o4
            refine r v H4 fp (fun a o h e => st3.toKeep k4 a o (fun j z => h j (hidF_mem z).2) e) (fun a ha => ?_) nd (o4.keep (hid_sub fun a z => ?_) fun _ _ _ q => q)
            · rcases hfp a ha with ⟨j, z⟩ | z
              · rcases st3.fresh j a z with ⟨l, z⟩ | z
                · exact .inl ⟨l, (hidF_mem z).2⟩
                · exact .inr z
              · refine .inr ?_
                cases e : H1 a with
                | none => rfl
                | some o => exact absurd z (st3.al a (by rw [e]; exact fun z => nomatch z))
            · rcases z with z | z
              · exact .inl (.inl z)
              · exact .inr z
    · have e : i = ds.length := by omega
      subst e
      rw [List.drop_length] at hf
      refine .inl ⟨wk2, ?_⟩
      rw [← hf] at r
      exact r σ' H' _ (step_un st) (ok1.unhide st ok' (fun k hkh => hk k (by
        rw [List.mem_append, not_or]
        exact hdj k hkh)) hl) fun k hkw => hk k hkw
end
end Ev
set_option Elab.async false
set_option linter.all false
set_option maxRecDepth 100000
namespace Ev
open PySem PySem.Spec PyProof.Rows L2
def notTup : Expr → Bool
  | .Tuple _ _ _ => false
  | _ => true
section
variable {K : PySem.W.Frag} {W : WX} {C : Nat → Value} {own : List Nat} {n : Nat} {ws : List Nat} {X : Cx} {σ : L2.St} {H H' : Hp} {A : Addr → Prop} {env : Env} {fs fs' : Nat → List Addr} {pos p p2 : Pos}
variable {sc : Scope} {N : List Str} {a b c e k : Expr} {f g h : Env → R PyData} {mv M1 L1 M2 L2' : List Nat} {i j : Nat} {x y : Str}
theorem noSwap_of {t : Expr} {env : PySem.Env} (h : notTup e = true) : swappedStores [t] e env = pure none := by
  cases t <;> cases e <;> first | rfl | cases h
/-- a, b, .. = e -/
theorem s_asgT {ts : Ts} {es : List Expr} {kk : Nat} (S : StOk X sc N) (ht : chkTs sc N ts es = true) (ho : own0 own (slotsTs ts) = true) (nc : notComp e = true) (nt : notTup e = true) (he : PE X e (tR X.K W C own (PV X.K []) f)) :
    PS X (.Assign [.Tuple es kk p2] e pos) (tSt X.K W C own n (slotsTs ts) fun env => do let d ← f env; let l ← asL d; let e1 ← bindTs ts l (clr [] env); pure (.next e1)) := by
  have hT : PG X (.Tuple es kk p2) (tG X.K own (.tup ts)) := pg_T S (.tup ts) (.Tuple es kk p2) (by unfold chkT; exact ht) (by unfold slotsT; exact ho)
  refine (ps_asg he hT (swapsSole_of nc) (noSwap_of nt) (by rw [assignEach_cons rfl]; rfl)).imp fun D σ H ⟨A, env, fs, ok, r⟩ => ?_
  refine RestS.bindE ok r fun d v H1 ok1 s1 p1 r => ?_
  replace r : RestS X.K W C own n (slotsTs ts) A fs σ H1 D (bindT (.tup ts) d env >>= fun e1 => pure (.next e1)) := by
    have e : bindT (.tup ts) d env = (asL d >>= fun l => bindTs ts l env) := by rw [bindT]
    rw [e, bnd_assoc]
    exact r
  cases q : bindT (.tup ts) d env with
  | exc c => exact absurd q (bindT_noexc _ _ _ _)
  | bad => rw [q] at r; exact False.elim r
  | ok e1 =>
    rw [q] at r
    have p1' : Rp X.K (hid (ex A fs) H1) v d := by
      have z : Rp X.K (hid (exL A fs []) H1) v d := p1
      rw [exL_nil] at z
      exact z
    refine tG_slots ok1 p1' q fun σ' ok' hk => ?_
    have es : slotsT (.tup ts) = slotsTs ts := by rw [slotsT]
    rw [es] at hk
    exact r σ' H1 fs .refl ok' hk
theorem swap2_of {env : PySem.Env} {px py pt pt2 : Pos} {kt k2 : Nat} (hk : env.blockKind = .function) (hx : env.kindOf x = some .local) (hy : env.kindOf y = some .local) (hl : (py.line == px.line) = true) (hne : x ≠ y)
    (hf : [a, b].all (foldedForSure 8) = false) (hc : [a, b].all (constantsAlone 8) = false) (ha : notStar a = true) (hb : notStar b = true) :
    swappedStores [.Tuple [.Name x px, .Name y py] kt pt] (.Tuple [a, b] k2 pt2) env = pure (some [x, y]) := by
  have e1 : [x, y].eraseDups = [x, y] := by
    rw [List.eraseDups_cons]
    have : (y == x) = false := beq_eq_false_iff_ne.mpr (Ne.symm hne)
    simp [this, List.eraseDups_cons]
  unfold swappedStores
  simp only [List.length_cons, List.length_nil, hk, hf, hc, List.filterMap_cons, List.filterMap_nil, hx, hy, List.head?_cons, Option.map_some, Option.getD_some, Expr.pos, hl, beq_self_eq_true, Bool.and_self, if_true, e1, bne_self_eq_false, Bool.or_false, Bool.false_eq_true, if_false]
  rw [if_neg (by decide), if_neg]
  intro z
  rw [List.any_eq_true] at z
  obtain ⟨e, he, hz⟩ := z
  have hns : notStar e = true := by
    rcases List.mem_cons.mp he with q | q
    · rw [q]; exact ha
    · rw [List.mem_singleton.mp q]; exact hb
  cases e <;> first | exact Bool.noConfusion hz | exact Bool.noConfusion hns
theorem s_par {px py pt pt2 : Pos} {kt k2 : Nat} (S : StOk X sc N) (hkd : X.env.scope.kind = .function) (hi : N[i]? = some x) (hj : N[j]? = some y) (hij : i ≠ j) (hx : X.env.scope.names.lookup x = some .local) (hy : X.env.scope.names.lookup y = some .local) (hoi : own.getD i 0 = 0) (hoj : own.getD j 0 = 0)
    (hl : (py.line == px.line) = true) (hne : x ≠ y) (hf : [a, b].all (foldedForSure 8) = false) (hc : [a, b].all (constantsAlone 8) = false) (na : notStar a = true) (nb : notStar b = true)
    (ha : PE X a (tR X.K W C own (PV X.K []) f)) (hb : PE X b (tR X.K W C own (PV X.K []) g)) :
    PS X (.Assign [.Tuple [.Name x px, .Name y py] kt pt] (.Tuple [a, b] k2 pt2) pos) (tSt X.K W C own n [i, j] fun env => do let u ← f env; let v ← g env; pure (.next (((clr [] env).set i (some u)).set j (some v)))) := by
  have hbk : X.env.blockKind = .function := by unfold PySem.Env.blockKind; rw [hkd]; rfl
  refine (ps_par S.calm (by rw [S.n]; exact S.nd) (by rw [S.n]; exact hi) (by rw [S.n]; exact hj) hij hx hy (pa_cons ha (pa_cons hb pa_nil (star_of nb)) (star_of na)) (swap2_of hbk hx hy hl hne hf hc na nb) (swapsSole_of rfl)).imp fun D σ H ⟨A, env, fs, ok, r⟩ => ?_
  refine RestS.bindE ok r fun u v H1 ok1 s1 p1 r => RestS.bindE ok1 r fun u2 v2 H2 ok2 s2 p2 r => ⟨v, v2, rfl, ?_⟩
  have q1 : Rp X.K (hid (ex A fs) H2) v u := by
    have z : Rp X.K (hid (exL A fs []) H1) v u := p1
    rw [exL_nil] at z
    exact z.mono (same_hid s2)
  have q2 : Rp X.K (hid (ex A fs) H2) v2 u2 := by
    have z : Rp X.K (hid (exL A fs []) H2) v2 u2 := p2
    rw [exL_nil] at z
    exact z
  refine r _ H2 fs .refl ((ok2.set0 hoi q1).set0 hoj q2) fun k hk => ?_
  rw [List.mem_cons, not_or, List.mem_singleton] at hk
  rw [List.getElem?_set_ne (Ne.symm hk.2), List.getElem?_set_ne (Ne.symm hk.1)]
end
end Ev
set_option Elab.async false
set_option linter.all false
set_option maxRecDepth 100000
/-! the text against the language -/
namespace Ev
open PySem PySem.Spec PyProof.Rows L2
/-- what the module's names are: defs (number, parameters, depth of the answer), constants, exception classes, built-ins -/
structure Gt where
  fns : List (Str × Nat × Nat × Nat)
  csts : List (Str × D)
  excs : List (Str × Nat)
  blts : List Str
mutual
def eqD : D → D → Bool
  | .none, .none => true
  | .bool a, .bool b => decide (a = b)
  | .int a, .int b => decide (a = b)
  | .str a, .str b => decide (a = b)
  | .list a, .list b => eqDs a b
  | .tuple a, .tuple b => eqDs a b
  | _, _ => false
def eqDs : List D → List D → Bool
  | [], [] => true
  | x :: xs, y :: ys => eqD x y && eqDs xs ys
  | _, _ => false
end
mutual
theorem eqD_sound : ∀ a b : D, eqD a b = true → a = b
  | .none, .none, _ => rfl
  | .bool a, .bool b, h => by unfold eqD at h; rw [of_decide_eq_true h]
  | .int a, .int b, h => by unfold eqD at h; rw [of_decide_eq_true h]
  | .str a, .str b, h => by unfold eqD at h; rw [of_decide_eq_true h]
  | .list a, .list b, h => by unfold eqD at h; rw [eqDs_sound a b h]
  | .tuple a, .tuple b, h => by unfold eqD at h; rw [eqDs_sound a b h]
theorem eqDs_sound : ∀ a b : List D, eqDs a b = true → a = b
  | [], [], _ => rfl
  | x :: xs, y :: ys, h => by
    unfold eqDs at h
    rw [Bool.and_eq_true] at h
    rw [eqD_sound x y h.1, eqDs_sound xs ys h.2]
end
/-! ### what a value may share with owned slots -/
mutual
/-- (the value itself, its items) -/
def escP (own : List Nat) : E → List Nat × List Nat
  | .var i => (ownS own i, if own.getD i 0 ≤ 1 then [] else ownS own i)
  | .int _ => ([], [])
  | .bl _ => ([], [])
  | .non => ([], [])
  | .str _ => ([], [])
  | .cst _ => ([], [])
  | .bin _ a b => ((escP own a).2 ++ (escP own b).2, (escP own a).2 ++ (escP own b).2)
  | .lmul es _ => (escs own es, escs own es)
  | .neg _ => ([], [])
  | .cmp _ _ _ => ([], [])
  | .chain _ _ _ _ _ => ([], [])
  | .and _ _ => ([], [])
  | .or _ _ => ([], [])
  | .not _ => ([], [])
  | .ite _ a b => ((escP own a).1 ++ (escP own b).1, (escP own a).1 ++ (escP own b).1)
  | .isi _ _ => ([], [])
  | .tup es => (escs own es, escs own es)
  | .lst es => (escs own es, escs own es)
  | .ix a _ => ((escP own a).2, (escP own a).2)
  | .slice a _ _ => ((escP own a).2, (escP own a).2)
  | .rev a => ((escP own a).2, (escP own a).2)
  | .b1 _ a => ((escP own a).2, (escP own a).2)
  | .b2 _ _ _ => ([], [])
  | .divmod _ _ => ([], [])
  | .call _ es => (escs own es, escs own es)
  | .call0 _ => ([], [])
  | .comp _ el _ _ _ => ((escP own el).1, (escP own el).1)
  | .stopE => ([], [])
def escs (own : List Nat) : Es → List Nat
  | .nil => []
  | .cons e es => (escP own e).1 ++ escs own es
end
/-- a new object or what is none of its own -/
def freshE : E → Bool
  | .var _ => false
  | .ix _ _ => false
  | .ite _ _ _ => false
  | .call _ _ => false
  | .call0 _ => false
  | _ => true
def escI (own : List Nat) : I → List Nat × List Nat
  | .rng1 _ => ([], [])
  | .rng2 _ _ => ([], [])
  | .rng3 _ _ _ => ([], [])
  | .seq a => escP own a
  | .zip a b => ((escP own a).1 ++ (escP own b).1, (escP own a).2 ++ (escP own b).2)
  | .enum a => escP own a
def isLoc (sc : Scope) (x : Str) : Bool := decide (sc.names.lookup x = some .local) || decide (sc.names.lookup x = some .cell)
def isVis (sc : Scope) (x : Str) : Bool := isLoc sc x || decide (sc.names.lookup x = some .free)
def isGl (sc : Scope) (x : Str) : Bool := decide (sc.names.lookup x = some .globalImplicit)
def nameOk (x : Str) : Bool := (x == ("__debug__" : Str)) == false && (x == ("__classdict__" : Str)) == false
def isB (G : Gt) (sc : Scope) (x : Str) : Bool := isGl sc x && G.blts.contains x
def subL (a b : List Nat) : Bool := a.all fun i => b.contains i
/-! ### the text taken apart -/
def dName : Expr → Option Str
  | .Name x _ => some x
  | _ => none
theorem dName_inv {e : Expr} {x : Str} (h : dName e = some x) : ∃ p, e = .Name x p := by
  unfold dName at h; split at h <;> first | (cases h; exact ⟨_, rfl⟩) | cases h
def dInt : Expr → Option Int
  | .Constant (.int i) _ _ => some i
  | _ => none
theorem dInt_inv {e : Expr} {x : Int} (h : dInt e = some x) : ∃ j p, e = .Constant (.int x) j p := by
  unfold dInt at h; split at h <;> first | (cases h; exact ⟨_, _, rfl⟩) | cases h
def dBl : Expr → Option Bool
  | .Constant (.bool i) _ _ => some i
  | _ => none
theorem dBl_inv {e : Expr} {x : Bool} (h : dBl e = some x) : ∃ j p, e = .Constant (.bool x) j p := by
  unfold dBl at h; split at h <;> first | (cases h; exact ⟨_, _, rfl⟩) | cases h
def dStr : Expr → Option Str
  | .Constant (.str i) _ _ => some i
  | _ => none
theorem dStr_inv {e : Expr} {x : Str} (h : dStr e = some x) : ∃ j p, e = .Constant (.str x) j p := by
  unfold dStr at h; split at h <;> first | (cases h; exact ⟨_, _, rfl⟩) | cases h
def dNon : Expr → Bool
  | .Constant .none _ _ => true
  | _ => false
theorem dNon_inv {e : Expr} (h : dNon e = true) : ∃ j p, e = .Constant .none j p := by
  unfold dNon at h; split at h <;> first | exact ⟨_, _, rfl⟩ | cases h
def xBin : Expr → Option (Expr × Operator × Expr)
  | .BinOp x k y _ => some (x, k, y)
  | _ => none
theorem xBin_inv {e x y : Expr} {k : Operator} (h : xBin e = some (x, k, y)) : ∃ p, e = .BinOp x k y p := by
  unfold xBin at h; split at h <;> first | (cases h; exact ⟨_, rfl⟩) | cases h
def dLmul : Expr → Option (List Expr × Expr)
  | .BinOp (.List xs _) .Mult y _ => some (xs, y)
  | _ => none
theorem dLmul_inv {e y : Expr} {xs : List Expr} (h : dLmul e = some (xs, y)) : ∃ q p, e = .BinOp (.List xs q) .Mult y p := by
  unfold dLmul at h; split at h <;> first | (cases h; exact ⟨_, _, rfl⟩) | cases h
def dUn : Expr → Option (UnaryOp × Expr)
  | .UnaryOp o x _ => some (o, x)
  | _ => none
theorem dUn_inv {e x : Expr} {o : UnaryOp} (h : dUn e = some (o, x)) : ∃ p, e = .UnaryOp o x p := by
  unfold dUn at h; split at h <;> first | (cases h; exact ⟨_, rfl⟩) | cases h
def dCmp1 : Expr → Option (Expr × CmpOp × Expr)
  | .Compare x [k] [y] _ => some (x, k, y)
  | _ => none
theorem dCmp1_inv {e x y : Expr} {k : CmpOp} (h : dCmp1 e = some (x, k, y)) : ∃ p, e = .Compare x [k] [y] p := by
  unfold dCmp1 at h; split at h <;> first | (cases h; exact ⟨_, rfl⟩) | cases h
def dCmp2 : Expr → Option (Expr × CmpOp × CmpOp × Expr × Expr)
  | .Compare x [k, k'] [y, z] _ => some (x, k, k', y, z)
  | _ => none
theorem dCmp2_inv {e x y z : Expr} {k k' : CmpOp} (h : dCmp2 e = some (x, k, k', y, z)) : ∃ p, e = .Compare x [k, k'] [y, z] p := by
  unfold dCmp2 at h; split at h <;> first | (cases h; exact ⟨_, rfl⟩) | cases h
def dBop : Expr → Option (BoolOp × Expr × Expr × List Expr × Pos)
  | .BoolOp o (x :: y :: r) p => some (o, x, y, r, p)
  | _ => none
theorem dBop_inv {e x y : Expr} {o : BoolOp} {r : List Expr} {p : Pos} (h : dBop e = some (o, x, y, r, p)) : e = .BoolOp o (x :: y :: r) p := by
  unfold dBop at h; split at h <;> first | (cases h; rfl) | cases h
def dIte : Expr → Option (Expr × Expr × Expr)
  | .IfExp c a b _ => some (c, a, b)
  | _ => none
theorem dIte_inv {e c a b : Expr} (h : dIte e = some (c, a, b)) : ∃ p, e = .IfExp c a b p := by
  unfold dIte at h; split at h <;> first | (cases h; exact ⟨_, rfl⟩) | cases h
def dCall : Expr → Option (Str × List Expr)
  | .Call (.Name f _) xs [] _ => some (f, xs)
  | _ => none
theorem dCall_inv {e : Expr} {f : Str} {xs : List Expr} (h : dCall e = some (f, xs)) : ∃ q p, e = .Call (.Name f q) xs [] p := by
  unfold dCall at h; split at h <;> first | (cases h; exact ⟨_, _, rfl⟩) | cases h
def dTup : Expr → Option (List Expr)
  | .Tuple xs _ _ => some xs
  | _ => none
theorem dTup_inv {e : Expr} {xs : List Expr} (h : dTup e = some xs) : ∃ j p, e = .Tuple xs j p := by
  unfold dTup at h; split at h <;> first | (cases h; exact ⟨_, _, rfl⟩) | cases h
def dLst : Expr → Option (List Expr)
  | .List xs _ => some xs
  | _ => none
theorem dLst_inv {e : Expr} {xs : List Expr} (h : dLst e = some xs) : ∃ p, e = .List xs p := by
  unfold dLst at h; split at h <;> first | (cases h; exact ⟨_, rfl⟩) | cases h
def dSub : Expr → Option (Expr × Expr)
  | .Subscript x y _ => some (x, y)
  | _ => none
theorem dSub_inv {e x y : Expr} (h : dSub e = some (x, y)) : ∃ p, e = .Subscript x y p := by
  unfold dSub at h; split at h <;> first | (cases h; exact ⟨_, rfl⟩) | cases h
def dSlc : Expr → Option (Expr × Option Expr × Option Expr)
  | .Subscript x (.Slice l h none _) _ => some (x, l, h)
  | _ => none
theorem dSlc_inv {e x : Expr} {l u : Option Expr} (h : dSlc e = some (x, l, u)) : ∃ q p, e = .Subscript x (.Slice l u none q) p := by
  unfold dSlc at h; split at h <;> first | (cases h; exact ⟨_, _, rfl⟩) | cases h
def dRev' : Expr → Option Expr
  | .Subscript x (.Slice none none (some (.UnaryOp .USub (.Constant (.int 1) _ _) _)) _) _ => some x
  | _ => none
theorem dRev_inv {e x : Expr} (h : dRev' e = some x) : ∃ j p1 p2 p3 p, e = .Subscript x (.Slice none none (some (.UnaryOp .USub (.Constant (.int 1) j p1) p2)) p3) p := by
  unfold dRev' at h; split at h <;> first | (cases h; exact ⟨_, _, _, _, _, rfl⟩) | cases h
def dLc : Expr → Option (Expr × Expr × Expr × List Expr × Scope)
  | .ListComp elt [⟨tg, it, ifs, 0⟩] sc _ => some (elt, tg, it, ifs, sc)
  | _ => none
theorem dLc_inv {e elt tg it : Expr} {ifs : List Expr} {sc : Scope} (h : dLc e = some (elt, tg, it, ifs, sc)) : ∃ p, e = .ListComp elt [⟨tg, it, ifs, 0⟩] sc p := by
  unfold dLc at h; split at h <;> first | (cases h; exact ⟨_, rfl⟩) | cases h
def plainS : Expr → Bool
  | .UnaryOp .Not _ _ => false
  | .BoolOp _ _ _ => false
  | .IfExp _ _ _ _ => false
  | .Compare _ _ _ _ => false
  | _ => true
mutual
def chkE (G : Gt) (N : List Str) (own : List Nat) : E → Scope → Expr → Bool
  | .var i, sc, e => (match dName e with | some x => decide (N[i]? = some x) && isVis sc x && nameOk x | none => false)
  | .int i, _, e => (match dInt e with | some j => decide (i = j) | none => false)
  | .bl i, _, e => (match dBl e with | some j => decide (i = j) | none => false)
  | .non, _, e => dNon e
  | .str i, _, e => (match dStr e with | some j => decide (i = j) | none => false)
  | .bin o a b, sc, e => (match xBin e with | some (x, k, y) => decide (k = opB o) && chkE G N own a sc x && chkE G N own b sc y | none => false)
  | .lmul es k, sc, e => (match dLmul e with | some (xs, y) => chkEs G N own es sc xs && chkE G N own k sc y | none => false)
  | .neg a, sc, e => (match dUn e with | some (o, x) => decide (o = .USub) && chkE G N own a sc x | none => false)
  | .cmp o a b, sc, e => (match dCmp1 e with | some (x, k, y) => decide (k = opC o) && plainIn y && chkE G N own a sc x && chkE G N own b sc y | none => false)
  | .chain o o' a b c, sc, e => (match dCmp2 e with | some (x, k, k', y, z) => decide (k = opC o) && decide (k' = opC o') && decide (o ≠ .in_ ∧ o ≠ .notin) && plainIn z && chkE G N own a sc x && chkE G N own b sc y && chkE G N own c sc z | none => false)
  | .and a b, sc, e => (match dBop e with | some (o, x, y, r, p) => decide (o = .And) && chkE G N own a sc x && (match r with | [] => chkE G N own b sc y | _ :: _ => chkE G N own b sc (.BoolOp .And (y :: r) p)) | none => false)
  | .or a b, sc, e => (match dBop e with | some (o, x, y, r, p) => decide (o = .Or) && chkE G N own a sc x && (match r with | [] => chkE G N own b sc y | _ :: _ => chkE G N own b sc (.BoolOp .Or (y :: r) p)) | none => false)
  | .not a, sc, e => (match dUn e with | some (o, x) => decide (o = .Not) && chkE G N own a sc x | none => false)
  | .ite c a b, sc, e => (match dIte e with | some (z, x, y) => chkE G N own c sc z && chkE G N own a sc x && chkE G N own b sc y | none => false)
  | .isi t a, sc, e => (match dCall e with | some (f, [x, y]) => (match dName y with | some tn => decide (f = ("isinstance" : Str)) && decide (tn = tyName t) && isB G sc f && isB G sc tn && notStar x && chkE G N own a sc x | none => false) | _ => false)
  | .tup es, sc, e => (match dTup e with | some xs => chkEs G N own es sc xs | none => false)
  | .lst es, sc, e => (match dLst e with | some xs => chkEs G N own es sc xs | none => false)
  | .ix a b, sc, e => (match dSub e with | some (x, y) => plainIx y && chkE G N own a sc x && chkE G N own b sc y | none => false)
  | .slice a lo hi, sc, e => (match dSlc e with | some (x, l, h) => chkE G N own a sc x && chkO G N own lo sc l && chkO G N own hi sc h | none => false)
  | .rev a, sc, e => (match dRev' e with | some x => chkE G N own a sc x | none => false)
  | .b1 f a, sc, e => (match dCall e with | some (fn, [x]) => decide (fn = b1Name f) && isB G sc fn && notStar x && chkE G N own a sc x | _ => false)
  | .b2 f a b, sc, e => (match dCall e with | some (fn, [x, y]) => decide (fn = b2Name f) && isB G sc fn && notStar x && notStar y && chkE G N own a sc x && chkE G N own b sc y | _ => false)
  | .divmod a b, sc, e => (match dCall e with | some (fn, [x, y]) => decide (fn = ("divmod" : Str)) && isB G sc fn && notStar x && notStar y && chkE G N own a sc x && chkE G N own b sc y | _ => false)
  | .call f es, sc, e => (match dCall e with | some (fn, xs) => (match G.fns.lookup fn with | some (g, np, _) => decide (g = f) && decide (np = xs.length) | none => false) && isGl sc fn && nameOk fn && decide (xs ≠ []) && xs.all notStar && chkEs G N own es sc xs | none => false)
  | .call0 f, sc, e => (match dCall e with | some (fn, []) => (match G.fns.lookup fn with | some (g, np, _) => decide (g = f) && decide (np = 0) | none => false) && isGl sc fn && nameOk fn | _ => false)
  | .cst d, sc, e => (match dName e with | some x => (match G.csts.lookup x with | some d' => eqD d' d | none => false) && isGl sc x && nameOk x && notMut d | none => false)
  | .comp vs el tg it cond, sc, e => (match dLc e with
    | some (elt, tgx, itx, ifs, scope) => blkC N sc scope (vs.map fun i => (N.getD i "", i)) && chkT scope N tg tgx && subL (slotsT tg) vs && own0 own vs && own0 own (slotsT tg) && decide ((escI own it).2 = []) && plainIn itx && chkI G N own it sc itx tgx
      && chkC G N own cond (relS scope sc) ifs && chkE G N own el (relS scope sc) elt
    | none => false)
  | .stopE, _, e => plainS e
def chkEs (G : Gt) (N : List Str) (own : List Nat) : Es → Scope → List Expr → Bool
  | .nil, _, xs => xs.isEmpty
  | .cons e es, sc, xs => (match xs with | x :: xs => notStar x && chkE G N own e sc x && chkEs G N own es sc xs | [] => false)
def chkO (G : Gt) (N : List Str) (own : List Nat) : OE → Scope → Option Expr → Bool
  | .none, _, x => x.isNone
  | .some e, sc, x => (match x with | some x => chkE G N own e sc x | none => false)
def chkC (G : Gt) (N : List Str) (own : List Nat) : OE → Scope → List Expr → Bool
  | .none, _, xs => xs.isEmpty
  | .some e, sc, xs => (match xs with | [x] => chkE G N own e sc x | _ => false)
def chkI (G : Gt) (N : List Str) (own : List Nat) : I → Scope → Expr → Expr → Bool
  | .rng1 a, sc, e, _ => (match dCall e with | some (fn, [x]) => decide (fn = ("range" : Str)) && isB G sc fn && notStar x && chkE G N own a sc x | _ => false)
  | .rng2 a b, sc, e, _ => (match dCall e with | some (fn, [x, y]) => decide (fn = ("range" : Str)) && isB G sc fn && notStar x && notStar y && chkE G N own a sc x && chkE G N own b sc y | _ => false)
  | .rng3 a b d, sc, e, _ => (match dCall e with | some (fn, [x, y, z]) => decide (fn = ("range" : Str)) && isB G sc fn && notStar x && notStar y && notStar z && chkE G N own a sc x && chkE G N own b sc y && chkE G N own d sc z | _ => false)
  | .seq a, sc, e, _ => chkE G N own a sc e
  | .zip a b, sc, e, tg => (match dCall e with | some (fn, [x, y]) => decide (fn = ("zip" : Str)) && isB G sc fn && notStar x && notStar y && (dTup tg).isSome && chkE G N own a sc x && chkE G N own b sc y | _ => false)
  | .enum a, sc, e, tg => (match dCall e with | some (fn, [x]) => decide (fn = ("enumerate" : Str)) && isB G sc fn && notStar x && (dTup tg).isSome && chkE G N own a sc x | _ => false)
end
end Ev
set_option Elab.async false
set_option linter.all false
set_option maxRecDepth 100000
set_option maxHeartbeats 4000000
namespace HT
open PySem PySem.Spec PyProof.Rows
section
variable {prog : Program} {w : World} {A : Around} {E : Value → Shared → Prop} {s : Shared}
theorem sliceApplied_rev {sl : Addr} {vl vu vs : Value} {n : Nat} {Q : Int × Int × Nat → Shared → Prop} (hs : s.heap.IsSliceOf sl vl vu vs) (pl : IsPart vl none) (pu : IsPart vu none) (ps : IsPart vs (some (-1)))
    (h : Q ((n : Int) - 1, -1, n) s) : wpAny (model prog w) A (Builtin.Slice.sliceApplied (.ref sl) (pure (n : Int))) Q E s := by
  obtain ⟨os, hos, hcs, hds⟩ := id hs
  unfold Builtin.Slice.sliceApplied Builtin.Slice.sliceFields
  refine wpAny_bind (wpAny_bind (wpAny_field hos hds (x := vl) rfl (wpAny_bind (wpAny_field hos hds (x := vu) rfl (wpAny_bind (wpAny_field hos hds (x := vs) rfl (wpAny_pure ?_)))))))
  refine wpAny_bind (slicePart_ ps ?_)
  show wpAny _ _ (if ((-1 : Int) == 0) = true then _ else _) _ _ s
  rw [if_neg (by decide)]
  refine wpAny_bind (slicePart_ pl (wpAny_bind (slicePart_ pu (wpAny_bind (wpAny_pure ?_)))))
  show wpAny _ _ (match Builtin.Slice.sliceAdjust none none (-1) (n : Int) with | (lo, hi) => pure (lo, (-1 : Int), Builtin.Slice.slicePlaces lo hi (-1))) _ _ s
  have e : Builtin.Slice.sliceAdjust none none (-1) (n : Int) = ((n : Int) - 1, -1) := by
    unfold Builtin.Slice.sliceAdjust
    rfl
  rw [e]
  show wpAny _ _ (pure ((n : Int) - 1, (-1 : Int), Builtin.Slice.slicePlaces ((n : Int) - 1) (-1) (-1))) _ _ s
  have e2 : Builtin.Slice.slicePlaces ((n : Int) - 1) (-1) (-1) = n := by
    unfold Builtin.Slice.slicePlaces
    have h1 : ¬ ((-1 : Int) > 0) := by omega
    simp only [h1, if_false]
    rw [show (- -1 : Int) = 1 by decide, Int.ediv_one]
    split <;> omega
  rw [e2]
  exact wpAny_pure h
theorem pick_rev (xs : Array Value) : ((List.range xs.size).filterMap fun (m : Nat) => xs[(((xs.size : Int) - 1) + (m : Int) * (-1)).toNat]?).toArray = xs.toList.reverse.toArray := by
  have e : (List.range xs.size).filterMap (fun (m : Nat) => xs[(((xs.size : Int) - 1) + (m : Int) * (-1)).toNat]?) = ((List.range xs.size).map fun k => xs.size - 1 - k).filterMap (xs[·]?) := by
    rw [List.filterMap_map]
    have key : ∀ l : List Nat, (∀ m ∈ l, m < xs.size) → l.filterMap (fun (m : Nat) => xs[(((xs.size : Int) - 1) + (m : Int) * (-1)).toNat]?) = l.filterMap ((fun x => xs[x]?) ∘ fun k => xs.size - 1 - k) := by
      intro l
      induction l with
      | nil => intro _; rfl
      | cons m l ih =>
        intro h
        have hm := h m (List.mem_cons_self ..)
        have e : (((xs.size : Int) - 1) + (m : Int) * (-1)).toNat = xs.size - 1 - m := by omega
        rw [List.filterMap_cons, List.filterMap_cons, ih fun k hk => h k (List.mem_cons_of_mem _ hk), e]
        rfl
    exact key _ fun m hm => List.mem_range.mp hm
  rw [e, PySem.W.krv_range, List.filterMap_reverse, PySem.W.krv_all]
theorem getItem_tuple_rev {t sl : Addr} {items : Array Value} {vl vu vs : Value} {Q : Value → Shared → Prop} (ht : IsTup s.heap t items) (hs : s.heap.IsSliceOf sl vl vu vs) (pl : IsPart vl none) (pu : IsPart vu none) (ps : IsPart vs (some (-1)))
    (h : Q (.ref s.heap.objs.size) { s with heap := s.heap.push { cls := .type "tuple", data := .seq items.toList.reverse.toArray } })
    (hsz : items.size ≤ sizeLine) : wpAny (model prog w) A (getItem (.ref t) (.ref sl)) Q E s := by
  have htake : sizeOk (.seq items.toList.reverse.toArray) := by
    show items.toList.reverse.toArray.size ≤ sizeLine
    rw [List.size_toArray, List.length_reverse, Array.length_toList]
    omega
  obtain ⟨os, hos, hcs, hds⟩ := id hs
  have hTs : s.TypeIs (.ref sl) "slice" := ⟨os, hos, hcs⟩
  unfold getItem
  try with_reducible refine wpAny_holding ?_
  first | refine wpAny_bind (wpAny_pure ?_) | skip
  refine wpAny_bind (wpAny_sequenceKey ht.typeIs (by decide) ?_)
  refine wpAny_bind (wpAny_callSpecial?_slot (name := Str.ofString "__getitem__") ht.typeIs PyProof.Rows.slot_tuple_getitem
    (wpAny_call_entry PyProof.Rows.slot_tuple_getitem ht.typeIs entry_tuple_getitem ?_ (args_tuple_getitem _ _)))
  show wpAny _ _ (Builtin.Tuple.tupleItemsOf (.ref t) >>= _) _ _ s
  refine wpAny_bind (tupleItemsOf_ ht ?_)
  refine wpAny_bind (wpAny_typeOf hTs ?_)
  rw [if_pos (by decide)]
  refine wpAny_bind (sliceApplied_rev hs pl pu ps ?_)
  have hno : ¬ ((((items.size : Int) - 1) == 0 && (-1 : Int) == 1 && items.size == items.size) = true) := by
    intro q
    rw [Bool.and_eq_true, Bool.and_eq_true] at q
    exact absurd q.1.2 (by decide)
  show wpAny _ _ (if (((items.size : Int) - 1) == 0 && (-1 : Int) == 1 && items.size == items.size) = true then _ else _) _ _ s
  rw [if_neg hno, pick_rev]
  first
    | exact wpAny_bind (m := Builtin.Tuple.tupleExact _) (wpAny_newObj_type (wpAny_pure ⟨_, rfl, wpAny_pure h⟩) htake)
    | exact wpAny_bind (m := Builtin.Tuple.tupleExact _) (wpAny_newObj_type (wpAny_bind (wpAny_pure (wpAny_pure ⟨_, rfl, wpAny_pure h⟩))) htake)
    | exact wpAny_bind (wpAny_bind (m := Builtin.Tuple.tupleExact _) (wpAny_newObj_type (wpAny_pure (wpAny_pure ⟨_, rfl, wpAny_pure h⟩)) htake))
    | exact wpAny_bind (wpAny_bind (m := Builtin.Tuple.tupleExact _) (wpAny_newObj_type (wpAny_pure ⟨_, rfl, wpAny_pure h⟩) htake))
end
end HT
namespace L2
open PySem PySem.Spec PyProof.Rows
section
variable {X : Cx}
def tRevA (K : PySem.W.Frag) (te : TE) : TE := fun σ H Q => te σ H fun x H1 => ∃ a xs, x = .ref a ∧ ((SqL K H1 a xs ∧ ∀ p, H1 p = none → Q (.ref p) (upd H1 p (.lst xs.reverse))) ∨ (SqT K H1 a xs ∧ ∀ p, H1 p = none → Q (.ref p) (upd H1 p (.tup xs.reverse))))
theorem pe_revA {e : Expr} {te : TE} {k : Nat} {p1 p2 p3 pos : Pos} (he : PE X e te) : PE X (.Subscript e (.Slice none none (some (.UnaryOp .USub (.Constant (.int 1) k p1) p2)) p3) pos) (tRevA X.K te) := by
  refine ⟨fun pins s σ H Q I h => ?_⟩
  refine Subscript_ (thn (he.run pins s σ H _ I h) fun v s1 ⟨x, H1, I1, r1, q1⟩ => ?_)
  obtain ⟨a, xs, ex, q⟩ := q1
  subst ex
  cases r1
  have hst : PO X (some (.UnaryOp .USub (.Constant (.int 1) k p1) p2)) (tPart (tUn (rU fun i => .int (-i)) (tC (.int 1)))) := po_some (pe_un un_neg pe_int)
  refine wpAny_Slice (thn (po_none.run pins s1 σ H1 (fun o H2 => o = none ∧ H2 = H1) I1 ⟨rfl, rfl⟩) fun vl s2 ⟨l, H2, I2, pl, el, e2⟩ => ?_)
  subst el e2
  refine thn (po_none.run pins s2 σ H2 (fun o H3 => o = none ∧ H3 = H2) I2 ⟨rfl, rfl⟩) fun vu s3 ⟨u, H3, I3, pu, eu, e3⟩ => ?_
  subst eu e3
  refine thn (hst.run pins s3 σ H3 (fun o H4 => o = some (-1) ∧ H4 = H3) I3 ⟨1, rfl, -1, rfl, rfl, rfl⟩) fun vs s4 ⟨o, H4, I4, ps, eo, e4⟩ => ?_
  subst eo e4
  have I5 : Inv X pins σ H4 { s4 with heap := s4.heap.push { cls := .type "slice", data := .fields #[vl, vu, vs] } } := I4.kept (t' := s4.toks) fun b ob q => Heap.get?_push_of_some _ q
  show wpAny (model X.prog X.w) X.A (subscriptTail e (.Slice none none (some (.UnaryOp .USub (.Constant (.int 1) k p1) p2)) p3) (.ref a) (.ref s4.heap.objs.size)) (EP X pins σ Q) X.xe { s4 with heap := s4.heap.push { cls := .type "slice", data := .fields #[vl, vu, vs] } }
  rcases q with ⟨hx, q⟩ | ⟨hx, q⟩
  · obtain ⟨its, r, ht, hz⟩ := I5.list hx
    have hlen := r.length
    refine tail_any (ops := [.ref a, .ref s4.heap.objs.size]) ht.isList.typeIs (PySem.slot_list_getitem.lookup) ?_ (by with_unfolding_all rfl)
    refine wpAny_getItem_list_slice ht.isList (Heap.IsSliceOf.new _ vl vu vs) pl pu ps (by decide) ?_ (by rw [List.size_toArray]; omega)
    rw [PySem.W.krv_pick]
    refine ⟨.ref _, _, I5.laid (t' := s4.toks) (o := .lst xs.reverse) (fun b ob q => Heap.get?_push_of_some _ q) (Nat.le_refl _) ?_, rfl, q _ (I5.hok.fresh (Nat.le_refl _))⟩
    exact ⟨by rw [List.length_reverse]; exact hz, _, 0, r.reverse, Heap.get?_push_size _ rfl⟩
  · obtain ⟨its, r, ht, hz⟩ := I5.tuple hx
    have hlen := r.length
    refine tail_any (ops := [.ref a, .ref s4.heap.objs.size]) ht.typeIs (PyProof.Rows.slot_tuple_getitem.lookup) ?_ (by with_unfolding_all rfl)
    refine HT.getItem_tuple_rev ht (Heap.IsSliceOf.new _ vl vu vs) pl pu ps ?_ (by rw [List.size_toArray]; omega)
    refine ⟨.ref _, _, I5.laid (t' := s4.toks) (o := .tup xs.reverse) (fun b ob q => Heap.get?_push_of_some _ q) (Nat.le_refl _) ?_, rfl, q _ (I5.hok.fresh (Nat.le_refl _))⟩
    exact ⟨by rw [List.length_reverse]; exact hz, its.reverse, r.reverse, _, Heap.get?_push_size _ rfl, rfl, _, rfl⟩
theorem pt_of_pw {op : BoolOp} {es : List Expr} {p : Pos} {t : TT} (h : PW X (.BoolOp op es p) t) : PT X (.BoolOp op es p) t := ⟨fun pins s σ H Q I q => h.run _ pins s σ H Q I q⟩
theorem pt_ifExp {c a b : Expr} {t ta tb : TT} {pos : Pos} (hc : PT X c t) (ha : PT X a ta) (hb : PT X b tb) : PT X (.IfExp c a b pos) (fun σ H Q => t σ H fun d H1 => if d = true then ta σ H1 Q else tb σ H1 Q) := by
  refine ⟨fun pins s σ H Q I h => ?_⟩
  unfold PySem.isTrue
  refine wpAny_bind (thn (hc.run pins s σ H _ I h) fun d s1 ⟨H1, I1, q1⟩ => ?_)
  cases d with
  | true => exact ha.run pins s1 σ H1 Q I1 q1
  | false => exact hb.run pins s1 σ H1 Q I1 q1
end
end L2
namespace Ev
open PySem PySem.Spec PyProof.Rows L2
section
variable {X : Cx} {W : WX} {C : Nat → Value} {own : List Nat} {f g h : Env → R D} {a b c : Expr} {pos : Pos} {L1 M1 : List Nat}
theorem t_ite (hc : PT X c (tRT X.K W C own fun env => f env >>= asB)) (ha : PT X a (tRT X.K W C own fun env => g env >>= asB)) (hb : PT X b (tRT X.K W C own fun env => h env >>= asB)) :
    PT X (.IfExp c a b pos) (tRT X.K W C own fun env => (do let x ← f env; let t ← asB x; if t then g env else h env) >>= asB) :=
  (pt_ifExp hc ha hb).imp fun σ H Q ⟨A, env, fs, ok, r⟩ => by
    have e : ((do let x ← f env; let t ← asB x; if t then g env else h env) >>= asB) = ((f env >>= asB) >>= fun t => if t then (g env >>= asB) else (h env >>= asB)) := by
      cases f env with
      | ok x =>
        cases x <;> try rfl
        rename_i k
        cases k <;> rfl
      | exc k => rfl
      | bad => rfl
    replace r : Rest W C σ (fun _ v d => v = d) H Q ((do let x ← f env; let t ← asB x; if t then g env else h env) >>= asB) := r
    rw [e] at r
    exact Rest.bindT ok r fun k H1 ok1 s1 r => by
      cases k with
      | true => exact ⟨A, env, fs, ok1, r.later (Same.refl _)⟩
      | false => exact ⟨A, env, fs, ok1, r.later (Same.refl _)⟩
theorem f_rev {k : Nat} {p1 p2 p3 : Pos} (ha : PE X a (tR X.K W C own (PC X.K M1 L1) f)) :
    PE X (.Subscript a (.Slice none none (some (.UnaryOp .USub (.Constant (.int 1) k p1) p2)) p3) pos) (tR X.K W C own (PF X.K L1) fun env => do let x ← f env; dRev x) :=
  (pe_revA ha).imp fun σ H Q ⟨A, env, fs, ok, r⟩ => Rest.bindE ok r fun x v H1 ok1 s1 p1 r => by
    cases x with
    | list l =>
      obtain ⟨b, xs, rfl, h1, h2⟩ := p1.lst
      refine ⟨b, xs, rfl, .inl ⟨Same.seq hid_le h1, fun p hp => ?_⟩⟩
      exact Rest.to r (same_new hp) (PF.new s1 hp h2.reverse)
    | tuple l =>
      obtain ⟨b, xs, rfl, h1, h2⟩ := p1.tup
      refine ⟨b, xs, rfl, .inr ⟨Same.seqT hid_le h1, fun p hp => ?_⟩⟩
      exact Rest.to r (same_new hp) (PF.newT ok1 hp h2.reverse)
    | _ => exact False.elim r
end
end Ev
set_option Elab.async false
set_option linter.all false
set_option maxRecDepth 100000
set_option maxHeartbeats 4000000
namespace Ev
open PySem PySem.Spec PyProof.Rows L2
/-- an exception class of the text, as the top has made it -/
structure ExcOk (K : PySem.W.Frag) (mg : Str → Option Value) (x : Str) (v : Value) : Prop where
  ex : ∃ Ca, v = .ref Ca ∧ mg x = some (.ref Ca) ∧ PySem.W.keepIn K (.ref Ca) = true ∧ PySem.W.excIn K Ca [.type "ValueError", .type "Exception", .type "BaseException", .type "object"] "ValueError.__new__" = true ∧
    PySem.W.subIn K (.ref Ca) (.type "BaseException") = some true ∧ PySem.W.typeIn K (.ref Ca) = some (.type "type")
/-- what the top has written -/
structure GOk (P : Program) (w : World) (K : PySem.W.Frag) (mg : Str → Option Value) (base : Heap) (C : Nat → Value) (G : Gt) (Φ : Cfg) (k : Nat) : Prop where
  blt : ∀ x, x ∈ G.blts → mg x = none
  cst : ∀ x d, G.csts.lookup x = some d → ∃ v u, mg x = some u ∧ RelV v u ∧ ∀ H, Rp K H v d
  fn : ∀ x f np rt, G.fns.lookup x = some (f, np, rt) → ∃ fa fd ps, mg x = some (.ref fa) ∧ PySem.W.keepIn K (.ref fa) = true ∧ Binds K fd ps [] ∧ FnOk P w K mg base (L2.CX P w) k fa fd ps (spD K C rt np (Φ.call f))
  exc : ∀ x c, G.excs.lookup x = some c → ExcOk K mg x (C c)
structure Fit (X : Cx) (G : Gt) (N : List Str) (sc : Scope) (W : WX) (C : Nat → Value) (Φ : Cfg) (k : Nat) : Prop where
  sc : X.env.scope = sc
  n : X.N = N
  nd : N.Nodup
  calm : X.calm = true
  room : Room k X.A
  tk : Takes X W
  g : GOk X.prog X.w X.K X.mg X.base C G Φ k
theorem Fit.hu {X : Cx} {G : Gt} {N : List Str} {sc : Scope} {W : WX} {C : Nat → Value} {Φ : Cfg} {k : Nat} (F : Fit X G N sc W C Φ k) : X.A.units + 65 < cLine := by have := F.room.un; omega
theorem Fit.blk {X : Cx} {G : Gt} {N : List Str} {sc : Scope} {W : WX} {C : Nat → Value} {Φ : Cfg} {k : Nat} (F : Fit X G N sc W C Φ k) (s : Shared) (H : Hp) (scope : Scope) (Ca : Addr) (cl : List (Str × Addr)) (fp : List Addr) :
    Fit (X.blk s H scope (compEnvC scope cl Ca X.env) fp) G N (relS scope sc) WF C Φ k where
  sc := by
    rw [← F.sc]
    rfl
  n := F.n
  nd := F.nd
  calm := F.calm
  room := F.room
  tk := fun u s' h => by
    obtain ⟨_, _, _, _, _, _, _, _, _, _, _, _, _, _, _, _, w⟩ := h
    exact w.elim
  g := F.g
theorem Fit.blkSt {X : Cx} {G : Gt} {N : List Str} {sc : Scope} {W : WX} {C : Nat → Value} {Φ : Cfg} {k : Nat} (F : Fit X G N sc W C Φ k) (s : Shared) (H : Hp) (scope : Scope) (Ca : Addr) (cl : List (Str × Addr)) (fp : List Addr) :
    StOk (X.blk s H scope (compEnvC scope cl Ca X.env) fp) scope N where
  n := F.n
  nd := F.nd
  calm := F.calm
  st := fun x h => by
    have key : ∀ kd, kd ≠ .free → scope.names.lookup x = some kd → (compEnvC scope cl Ca X.env).scope.names.lookup x = some kd := fun kd hk hl => lookup_relS_keep (sc := X.env.scope) hk hl
    rcases h with h | h
    · exact ⟨.inl (key _ (by decide) h), .inr (key _ (by decide) h)⟩
    · refine ⟨.inr (key _ (by decide) h), .inl ?_⟩
      show (scope.names.lookup x == some NameKind.cell) = true
      rw [h]
      rfl
/-- all that is shown of an expression -/
structure EOk (X : Cx) (W : WX) (C : Nat → Value) (own : List Nat) (Φ : Cfg) (ir : E) (e : Expr) : Prop where
  val : PE X e (tR X.K W C own (PV X.K (escP own ir).1) (evE Φ ir))
  con : PE X e (tR X.K W C own (PC X.K (escP own ir).1 (escP own ir).2) (evE Φ ir))
  tst : PT X e (tRT X.K W C own fun env => evE Φ ir env >>= asB)
  fr : freshE ir = true → PE X e (tR X.K W C own (PF X.K (escP own ir).1) (evE Φ ir))
  pw : ∀ op vs p, e = .BoolOp op vs p → PW X e (tRT X.K W C own fun env => evE Φ ir env >>= asB)
def plainT : Expr → Bool
  | .UnaryOp .Not _ _ => false
  | .BoolOp _ _ _ => false
  | .IfExp _ _ _ _ => false
  | .Compare _ _ _ _ => false
  | _ => true
theorem plainT_of {e : Expr} (h : plainT e = true) (env : PySem.Env) : ∀ whole, isTrue e env whole = (do let v ← whole; standAt e.pos; holding [v] (truthy v)) := by
  intro whole
  cases e <;> first | rfl | (exfalso; exact Bool.noConfusion h) | skip
  rename_i op a p
  cases op <;> first | rfl | (exfalso; exact Bool.noConfusion h)
section
variable {X : Cx} {G : Gt} {N : List Str} {sc : Scope} {W : WX} {C : Nat → Value} {Φ : Cfg} {k : Nat} {own : List Nat} {ir : E} {e : Expr}
/-- what is new, by its form alone -/
theorem EOk.of_fr (h : PE X e (tR X.K W C own (PF X.K (escP own ir).1) (evE Φ ir))) (he : (escP own ir).2 = (escP own ir).1) (hp : plainT e = true) : EOk X W C own Φ ir e where
  val := pe_PV h
  con := by rw [he]; exact pe_PC (fun i z => z) (pe_PV h)
  tst := t_val (pe_PV h) (plainT_of hp X.env)
  fr := fun _ => h
  pw := fun op vs p q => by subst q; cases hp
theorem EOk.of_val (h : PE X e (tR X.K W C own (PV X.K (escP own ir).1) (evE Φ ir))) (he : (escP own ir).2 = (escP own ir).1) (hp : plainT e = true) (hf : freshE ir = false) : EOk X W C own Φ ir e where
  val := h
  con := by rw [he]; exact pe_PC (fun i z => z) h
  tst := t_val h (plainT_of hp X.env)
  fr := fun z => by rw [hf] at z; cases z
  pw := fun op vs p q => by subst q; cases hp
theorem isVis_of (F : Fit X G N sc W C Φ k) {x : Str} (h : isVis sc x = true) : Vis X.env.scope x := by
  unfold isVis isLoc at h
  rw [Bool.or_eq_true, Bool.or_eq_true, decide_eq_true_eq, decide_eq_true_eq, decide_eq_true_eq] at h
  rw [F.sc]
  rcases h with (h | h) | h
  · exact .inl h
  · exact .inr (.inl h)
  · exact .inr (.inr h)
theorem isGl_of (F : Fit X G N sc W C Φ k) {x : Str} (h : isGl sc x = true) : Gl X x := by
  unfold isGl at h
  rw [decide_eq_true_eq] at h
  show X.env.kindOf x = _
  unfold PySem.Env.kindOf
  rw [F.sc]
  exact h
theorem isB_of (F : Fit X G N sc W C Φ k) {x : Str} (h : isB G sc x = true) : Gl X x ∧ X.mg x = none := by
  unfold isB at h
  rw [Bool.and_eq_true] at h
  exact ⟨isGl_of F h.1, F.g.blt x (List.contains_iff_mem.mp h.2)⟩
theorem nameOk_of {x : Str} (h : nameOk x = true) : (x == ("__debug__" : Str)) = false ∧ (x == ("__classdict__" : Str)) = false := by
  unfold nameOk at h
  rw [Bool.and_eq_true] at h
  exact ⟨eq_of_beq h.1, eq_of_beq h.2⟩
theorem chkEs_cons {e : E} {es : Es} {xs : List Expr} (c : chkEs G N own (.cons e es) sc xs = true) : ∃ x ys, xs = x :: ys ∧ notStar x = true ∧ chkE G N own e sc x = true ∧ chkEs G N own es sc ys = true := by
  unfold chkEs at c
  cases xs with
  | nil => cases c
  | cons x ys =>
    dsimp only at c
    rw [Bool.and_eq_true, Bool.and_eq_true] at c
    exact ⟨x, ys, rfl, c.1.1, c.1.2, c.2⟩
theorem chkEs_nil {xs : List Expr} (c : chkEs G N own .nil sc xs = true) : xs = [] := by
  unfold chkEs at c
  cases xs with
  | nil => rfl
  | cons x ys => cases c
theorem evEs_len : ∀ (es : Es) {xs : List Expr} {env : Env} {ds : List D}, chkEs G N own es sc xs = true → evEs Φ es env = .ok ds → ds.length = xs.length
  | .nil, xs, _, _, c, h => by
    rw [chkEs_nil c]
    unfold evEs at h
    cases h
    rfl
  | .cons e es, xs, env, ds, c, h => by
    obtain ⟨x, ys, rfl, _, _, c2⟩ := chkEs_cons c
    unfold evEs at h
    obtain ⟨d, _, h⟩ := R.bind_ok h
    obtain ⟨ds', h2, h⟩ := R.bind_ok h
    cases h
    rw [List.length_cons, List.length_cons, evEs_len es c2 h2]
theorem subL_of {a b : List Nat} (h : subL a b = true) : ∀ i ∈ a, i ∈ b := fun i hi => by
  unfold subL at h
  rw [List.all_eq_true] at h
  exact List.contains_iff_mem.mp (h i hi)
theorem subM : ∀ (ir : E), ∀ i ∈ (escP own ir).2, i ∈ (escP own ir).1 := fun ir i h => by
  cases ir <;> first | exact h | skip
  rename_i j
  unfold escP at h ⊢
  by_cases c : own.getD j 0 ≤ 1
  · rw [if_pos c] at h; cases h
  · rw [if_neg c] at h; exact h
end
end Ev
set_option Elab.async false
set_option linter.all false
set_option maxRecDepth 100000
set_option maxHeartbeats 4000000
namespace Ev
open PySem PySem.Spec PyProof.Rows L2
theorem and2 {a b : Bool} (h : (a && b) = true) : a = true ∧ b = true := by rw [Bool.and_eq_true] at h; exact h
theorem pe_con {X : Cx} {W : WX} {C : Nat → Value} {own : List Nat} {Φ : Cfg} {ir : E} {e : Expr} (h : PE X e (tR X.K W C own (PV X.K (escP own ir).1) (evE Φ ir))) (he : (escP own ir).2 = (escP own ir).1) : PE X e (tR X.K W C own (PC X.K (escP own ir).1 (escP own ir).2) (evE Φ ir)) := by
  rw [he]; exact pe_PC (fun i z => z) h
section
variable {G : Gt} {N : List Str} {C : Nat → Value} {Φ : Cfg} {k : Nat} {own : List Nat}
/-- an expression that has its own test rule: no value taken apart -/
theorem EOk.of_test {X : Cx} {W : WX} {ir : E} {e : Expr} (h : PE X e (tR X.K W C own (PF X.K (escP own ir).1) (evE Φ ir))) (he : (escP own ir).2 = (escP own ir).1) (ht : PT X e (tRT X.K W C own fun env => evE Φ ir env >>= asB))
    (hp : ∀ op vs p, e = .BoolOp op vs p → PW X e (tRT X.K W C own fun env => evE Φ ir env >>= asB)) : EOk X W C own Φ ir e where
  val := pe_PV h
  con := by rw [he]; exact pe_PC (fun i z => z) (pe_PV h)
  tst := ht
  fr := fun _ => h
  pw := hp
theorem passes_F {X : Cx} : Passes (L2.CX X.prog X.w) X fun _ _ _ => False := passes_call (W := WF) (fun u s' ⟨_, _, _, _, _, _, _, _, _, _, _, _, _, _, _, _, w⟩ => w.elim) fun _ _ _ _ h => h
theorem spD_noexc {K : PySem.W.Frag} {rt : Nat} {g : List D → R D} {vs : List V} {H : Hp} {Q : VK} {Ex : XK} (h : spD K C rt 0 (fun ds => noexc (g ds)) vs H Q Ex) : spD K C rt 0 g vs H Q Ex := by
  obtain ⟨h1, A, ds, h2, h3, h4⟩ := h
  refine ⟨h1, A, ds, h2, h3, ?_⟩
  dsimp only at h4
  cases q : g ds with
  | ok d => rw [q] at h4; exact h4
  | exc c => rw [q] at h4; exact h4.elim
  | bad => rw [q] at h4; exact h4
theorem noexc_no {α : Type} (r : R α) (c : Nat) : noexc r ≠ .exc c := by cases r <;> exact fun z => nomatch z
mutual
theorem okE : ∀ (ir : E) {X : Cx} {W : WX} {sc : Scope} {e : Expr}, Fit X G N sc W C Φ k → chkE G N own ir sc e = true → EOk X W C own Φ ir e
  | .var i, X, W, sc, e, F, c => by
    unfold chkE at c
    cases q : dName e with
    | none => rw [q] at c; cases c
    | some x =>
      rw [q] at c
      obtain ⟨c, c3⟩ := and2 c
      obtain ⟨c1, c2⟩ := and2 c
      obtain ⟨p, rfl⟩ := dName_inv q
      have hn : X.N[i]? = some x := by rw [F.n]; exact of_decide_eq_true c1
      have v := v_var (W := W) (C := C) (own := own) (pos := p) hn (isVis_of F c2) (nameOk_of c3).1 (nameOk_of c3).2
      refine ⟨v, ?_, t_val v fun _ => rfl, fun z => Bool.noConfusion z, fun op vs p q => nomatch q⟩
      by_cases ho : own.getD i 0 ≤ 1
      · have := c_var (W := W) (C := C) (pos := p) ho hn (isVis_of F c2) (nameOk_of c3).1 (nameOk_of c3).2
        unfold escP
        rw [if_pos ho]
        exact this
      · exact pe_con (Φ := Φ) (ir := .var i) v (by unfold escP; rw [if_neg ho])
  | .int i, X, W, sc, e, F, c => by
    unfold chkE at c
    cases q : dInt e with
    | none => rw [q] at c; cases c
    | some x =>
      rw [q] at c
      obtain rfl := of_decide_eq_true c
      obtain ⟨j, p, rfl⟩ := dInt_inv q
      exact .of_fr v_int rfl rfl
  | .bl i, X, W, sc, e, F, c => by
    unfold chkE at c
    cases q : dBl e with
    | none => rw [q] at c; cases c
    | some x =>
      rw [q] at c
      obtain rfl := of_decide_eq_true c
      obtain ⟨j, p, rfl⟩ := dBl_inv q
      exact .of_fr v_bl rfl rfl
  | .non, X, W, sc, e, F, c => by
    unfold chkE at c
    obtain ⟨j, p, rfl⟩ := dNon_inv c
    exact .of_fr v_non rfl rfl
  | .str i, X, W, sc, e, F, c => by
    unfold chkE at c
    cases q : dStr e with
    | none => rw [q] at c; cases c
    | some x =>
      rw [q] at c
      obtain rfl := of_decide_eq_true c
      obtain ⟨j, p, rfl⟩ := dStr_inv q
      exact .of_fr v_str rfl rfl
  | .cst d, X, W, sc, e, F, c => by
    unfold chkE at c
    cases q : dName e with
    | none => rw [q] at c; cases c
    | some x =>
      rw [q] at c
      obtain ⟨c, c4⟩ := and2 c
      obtain ⟨c, c3⟩ := and2 c
      obtain ⟨c1, c2⟩ := and2 c
      obtain ⟨p, rfl⟩ := dName_inv q
      cases q2 : G.csts.lookup x with
      | none => rw [q2] at c1; cases c1
      | some d' =>
        rw [q2] at c1
        obtain rfl := eqD_sound _ _ c1
        obtain ⟨v, u, h1, h2, h3⟩ := F.g.cst x d' q2
        exact .of_fr (v_cst (isGl_of F c2) h1 h2 c4 h3 (nameOk_of c3).1) rfl rfl
  | .bin o a b, X, W, sc, e, F, c => by
    unfold chkE at c
    cases q : xBin e with
    | none => rw [q] at c; cases c
    | some y =>
      obtain ⟨x, kk, y⟩ := y
      rw [q] at c
      obtain ⟨c, c3⟩ := and2 c
      obtain ⟨c1, c2⟩ := and2 c
      obtain ⟨p, rfl⟩ := xBin_inv q
      obtain rfl := of_decide_eq_true c1
      exact .of_fr (f_bin (okE a F c2).con (okE b F c3).con) rfl rfl
  | .lmul es kx, X, W, sc, e, F, c => by
    unfold chkE at c
    cases q : dLmul e with
    | none => rw [q] at c; cases c
    | some y =>
      obtain ⟨xs, y⟩ := y
      rw [q] at c
      obtain ⟨c1, c2⟩ := and2 c
      obtain ⟨p2, p, rfl⟩ := dLmul_inv q
      exact .of_fr (f_lmul (okEs es F c1) (okE kx F c2).con) rfl rfl
  | .neg a, X, W, sc, e, F, c => by
    unfold chkE at c
    cases q : dUn e with
    | none => rw [q] at c; cases c
    | some y =>
      obtain ⟨o, x⟩ := y
      rw [q] at c
      obtain ⟨c1, c2⟩ := and2 c
      obtain ⟨p, rfl⟩ := dUn_inv q
      obtain rfl := of_decide_eq_true c1
      exact .of_fr (f_neg (okE a F c2).con) rfl rfl
  | .cmp o a b, X, W, sc, e, F, c => by
    unfold chkE at c
    cases q : dCmp1 e with
    | none => rw [q] at c; cases c
    | some y =>
      obtain ⟨x, kk, y⟩ := y
      rw [q] at c
      obtain ⟨c, c4⟩ := and2 c
      obtain ⟨c, c3⟩ := and2 c
      obtain ⟨c1, c2⟩ := and2 c
      obtain ⟨p, rfl⟩ := dCmp1_inv q
      obtain rfl := of_decide_eq_true c1
      exact .of_test (f_cmp F.hu c2 (okE a F c3).con (okE b F c4).con) rfl (t_cmp F.hu c2 (okE a F c3).con (okE b F c4).con) fun _ _ _ z => by cases z
  | .chain o o' a b d, X, W, sc, e, F, c => by
    unfold chkE at c
    cases q : dCmp2 e with
    | none => rw [q] at c; cases c
    | some y =>
      obtain ⟨x, kk, kk', y, z⟩ := y
      rw [q] at c
      obtain ⟨c, c7⟩ := and2 c
      obtain ⟨c, c6⟩ := and2 c
      obtain ⟨c, c5⟩ := and2 c
      obtain ⟨c, c4⟩ := and2 c
      obtain ⟨c, c3⟩ := and2 c
      obtain ⟨c1, c2⟩ := and2 c
      obtain ⟨p, rfl⟩ := dCmp2_inv q
      obtain rfl := of_decide_eq_true c1
      obtain rfl := of_decide_eq_true c2
      exact .of_test (f_chain F.hu (of_decide_eq_true c3) c4 (okE a F c5).con (okE b F c6).con (okE d F c7).con) rfl (t_chain F.hu (of_decide_eq_true c3) c4 (okE a F c5).con (okE b F c6).con (okE d F c7).con) fun _ _ _ z => by cases z
  | .and a b, X, W, sc, e, F, c => by
    unfold chkE at c
    cases q : dBop e with
    | none => rw [q] at c; cases c
    | some y =>
      obtain ⟨o, x, y, r, p⟩ := y
      rw [q] at c
      obtain ⟨c, c3⟩ := and2 c
      obtain ⟨c1, c2⟩ := and2 c
      obtain rfl := dBop_inv q
      obtain rfl := of_decide_eq_true c1
      have A1 := okE a F c2
      cases r with
      | nil =>
        have B1 := okE b F c3
        have w := w_and (pos := p) A1.tst (pw_and1 (pos := p) B1.tst)
        exact .of_test (f_and A1.val (pe_one (op := .And) B1.val)) rfl (pt_of_pw w) fun _ _ _ z => by cases z; exact w
      | cons z r =>
        have B1 := okE b F c3
        have w := w_and (pos := p) A1.tst (B1.pw _ _ _ rfl)
        exact .of_test (f_and A1.val B1.val) rfl (pt_of_pw w) fun _ _ _ z => by cases z; exact w
  | .or a b, X, W, sc, e, F, c => by
    unfold chkE at c
    cases q : dBop e with
    | none => rw [q] at c; cases c
    | some y =>
      obtain ⟨o, x, y, r, p⟩ := y
      rw [q] at c
      obtain ⟨c, c3⟩ := and2 c
      obtain ⟨c1, c2⟩ := and2 c
      obtain rfl := dBop_inv q
      obtain rfl := of_decide_eq_true c1
      have A1 := okE a F c2
      cases r with
      | nil =>
        have B1 := okE b F c3
        have w := w_or (pos := p) A1.tst (pw_or1 (pos := p) B1.tst)
        exact .of_test (f_or A1.val (pe_one (op := .Or) B1.val)) rfl (pt_of_pw w) fun _ _ _ z => by cases z; exact w
      | cons z r =>
        have B1 := okE b F c3
        have w := w_or (pos := p) A1.tst (B1.pw _ _ _ rfl)
        exact .of_test (f_or A1.val B1.val) rfl (pt_of_pw w) fun _ _ _ z => by cases z; exact w
  | .not a, X, W, sc, e, F, c => by
    unfold chkE at c
    cases q : dUn e with
    | none => rw [q] at c; cases c
    | some y =>
      obtain ⟨o, x⟩ := y
      rw [q] at c
      obtain ⟨c1, c2⟩ := and2 c
      obtain ⟨p, rfl⟩ := dUn_inv q
      obtain rfl := of_decide_eq_true c1
      exact .of_test (f_not (okE a F c2).val) rfl (t_not (okE a F c2).tst) fun _ _ _ z => by cases z
  | .ite d a b, X, W, sc, e, F, c => by
    unfold chkE at c
    cases q : dIte e with
    | none => rw [q] at c; cases c
    | some y =>
      obtain ⟨z, x, y⟩ := y
      rw [q] at c
      obtain ⟨c, c3⟩ := and2 c
      obtain ⟨c1, c2⟩ := and2 c
      obtain ⟨p, rfl⟩ := dIte_inv q
      have D1 := okE d F c1
      have A1 := okE a F c2
      have B1 := okE b F c3
      have v : PE X (.IfExp z x y p) (tR X.K W C own (PV X.K (escP own (.ite d a b)).1) (evE Φ (.ite d a b))) := v_ite D1.tst A1.val B1.val
      exact ⟨v, pe_con v rfl, t_ite D1.tst A1.tst B1.tst, fun z => Bool.noConfusion z, fun op vs p q => nomatch q⟩
  | .isi t a, X, W, sc, e, F, c => by
    unfold chkE at c
    cases q : dCall e with
    | none => rw [q] at c; cases c
    | some y =>
      obtain ⟨f, xs⟩ := y
      rw [q] at c
      match xs, q, c with
      | [x, y], q, c =>
        cases q2 : dName y with
        | none => dsimp only at c; rw [q2] at c; cases c
        | some tn =>
          dsimp only at c
          rw [q2] at c
          obtain ⟨c, c6⟩ := and2 c
          obtain ⟨c, c5⟩ := and2 c
          obtain ⟨c, c4⟩ := and2 c
          obtain ⟨c, c3⟩ := and2 c
          obtain ⟨c1, c2⟩ := and2 c
          obtain ⟨p2, p, rfl⟩ := dCall_inv q
          obtain ⟨p3, rfl⟩ := dName_inv q2
          obtain rfl := of_decide_eq_true c1
          obtain rfl := of_decide_eq_true c2
          exact .of_fr (f_isi c5 (isB_of F c3).1 (isB_of F c3).2 (isB_of F c4).1 (isB_of F c4).2 (okE a F c6).con) rfl rfl
      | [], q, c => cases c
      | [_], q, c => cases c
      | _ :: _ :: _ :: _, q, c => cases c
  | .tup es, X, W, sc, e, F, c => by
    unfold chkE at c
    cases q : dTup e with
    | none => rw [q] at c; cases c
    | some xs =>
      rw [q] at c
      obtain ⟨j, p, rfl⟩ := dTup_inv q
      exact .of_fr (f_tup (okEs es F c)) rfl rfl
  | .lst es, X, W, sc, e, F, c => by
    unfold chkE at c
    cases q : dLst e with
    | none => rw [q] at c; cases c
    | some xs =>
      rw [q] at c
      obtain ⟨p, rfl⟩ := dLst_inv q
      exact .of_fr (f_lst (okEs es F c)) rfl rfl
  | .ix a b, X, W, sc, e, F, c => by
    unfold chkE at c
    cases q : dSub e with
    | none => rw [q] at c; cases c
    | some y =>
      obtain ⟨x, y⟩ := y
      rw [q] at c
      obtain ⟨c, c3⟩ := and2 c
      obtain ⟨c1, c2⟩ := and2 c
      obtain ⟨p, rfl⟩ := dSub_inv q
      exact .of_val (v_ix c1 (okE a F c2).con (okE b F c3).con) rfl rfl rfl
  | .slice a lo hi, X, W, sc, e, F, c => by
    unfold chkE at c
    cases q : dSlc e with
    | none => rw [q] at c; cases c
    | some y =>
      obtain ⟨x, l, h⟩ := y
      rw [q] at c
      obtain ⟨c, c3⟩ := and2 c
      obtain ⟨c1, c2⟩ := and2 c
      obtain ⟨p2, p, rfl⟩ := dSlc_inv q
      exact .of_fr (f_slice (okE a F c1).con (okO lo F c2) (okO hi F c3)) rfl rfl
  | .rev a, X, W, sc, e, F, c => by
    unfold chkE at c
    cases q : dRev' e with
    | none => rw [q] at c; cases c
    | some x =>
      rw [q] at c
      obtain ⟨j, p1, p2, p3, p, rfl⟩ := dRev_inv q
      exact .of_fr (f_rev (okE a F c).con) rfl rfl
  | .b1 f a, X, W, sc, e, F, c => by
    unfold chkE at c
    cases q : dCall e with
    | none => rw [q] at c; cases c
    | some y =>
      obtain ⟨fn, xs⟩ := y
      rw [q] at c
      match xs, q, c with
      | [x], q, c =>
        obtain ⟨c, c4⟩ := and2 c
        obtain ⟨c, c3⟩ := and2 c
        obtain ⟨c1, c2⟩ := and2 c
        obtain ⟨p2, p, rfl⟩ := dCall_inv q
        obtain rfl := of_decide_eq_true c1
        exact .of_fr (f_b1 F.calm c3 (isB_of F c2).1 (isB_of F c2).2 (okE a F c4).con) rfl rfl
      | [], q, c => cases c
      | _ :: _ :: _, q, c => cases c
  | .b2 f a b, X, W, sc, e, F, c => by
    unfold chkE at c
    cases q : dCall e with
    | none => rw [q] at c; cases c
    | some y =>
      obtain ⟨fn, xs⟩ := y
      rw [q] at c
      match xs, q, c with
      | [x, y], q, c =>
        obtain ⟨c, c6⟩ := and2 c
        obtain ⟨c, c5⟩ := and2 c
        obtain ⟨c, c4⟩ := and2 c
        obtain ⟨c, c3⟩ := and2 c
        obtain ⟨c1, c2⟩ := and2 c
        obtain ⟨p2, p, rfl⟩ := dCall_inv q
        obtain rfl := of_decide_eq_true c1
        exact .of_fr (f_b2 F.calm c3 c4 (isB_of F c2).1 (isB_of F c2).2 (okE a F c5).con (okE b F c6).con) rfl rfl
      | [], q, c => cases c
      | [_], q, c => cases c
      | _ :: _ :: _ :: _, q, c => cases c
  | .divmod a b, X, W, sc, e, F, c => by
    unfold chkE at c
    cases q : dCall e with
    | none => rw [q] at c; cases c
    | some y =>
      obtain ⟨fn, xs⟩ := y
      rw [q] at c
      match xs, q, c with
      | [x, y], q, c =>
        obtain ⟨c, c6⟩ := and2 c
        obtain ⟨c, c5⟩ := and2 c
        obtain ⟨c, c4⟩ := and2 c
        obtain ⟨c, c3⟩ := and2 c
        obtain ⟨c1, c2⟩ := and2 c
        obtain ⟨p2, p, rfl⟩ := dCall_inv q
        obtain rfl := of_decide_eq_true c1
        exact .of_fr (f_divmod c3 c4 (isB_of F c2).1 (isB_of F c2).2 (okE a F c5).con (okE b F c6).con) rfl rfl
      | [], q, c => cases c
      | [_], q, c => cases c
      | _ :: _ :: _ :: _, q, c => cases c
  | .call f es, X, W, sc, e, F, c => by
    unfold chkE at c
    cases q : dCall e with
    | none => rw [q] at c; cases c
    | some y =>
      obtain ⟨fn, xs⟩ := y
      rw [q] at c
      obtain ⟨c, c6⟩ := and2 c
      obtain ⟨c, c5⟩ := and2 c
      obtain ⟨c, c4⟩ := and2 c
      obtain ⟨c, c3⟩ := and2 c
      obtain ⟨c1, c2⟩ := and2 c
      obtain ⟨p2, p, rfl⟩ := dCall_inv q
      cases q2 : G.fns.lookup fn with
      | none => rw [q2] at c1; cases c1
      | some y =>
        obtain ⟨g, np, rt⟩ := y
        rw [q2] at c1
        obtain ⟨d1, d2⟩ := and2 c1
        obtain rfl := of_decide_eq_true d1
        obtain ⟨fa, fd, ps, h1, h2, h3, h4⟩ := F.g.fn fn g np rt q2
        exact .of_val (pe_PN (n_call h4 F.room (isGl_of F c2) h1 h2 h3 F.tk (of_decide_eq_true d2) (of_decide_eq_true c4) (okEs es F c6) c5 (nameOk_of c3).1 fun env ds h => evEs_len es c6 h)) rfl rfl rfl
  | .call0 f, X, W, sc, e, F, c => by
    unfold chkE at c
    cases q : dCall e with
    | none => rw [q] at c; cases c
    | some y =>
      obtain ⟨fn, xs⟩ := y
      rw [q] at c
      match xs, q, c with
      | _ :: _, q, c => cases c
      | [], q, c =>
        obtain ⟨c, c3⟩ := and2 c
        obtain ⟨c1, c2⟩ := and2 c
        obtain ⟨p2, p, rfl⟩ := dCall_inv q
        cases q2 : G.fns.lookup fn with
        | none => rw [q2] at c1; cases c1
        | some y =>
          obtain ⟨g, np, rt⟩ := y
          rw [q2] at c1
          obtain ⟨d1, d2⟩ := and2 c1
          obtain rfl := of_decide_eq_true d1
          obtain rfl := of_decide_eq_true d2
          obtain ⟨fa, fd, ps, h1, h2, h3, h4⟩ := F.g.fn fn g 0 rt q2
          exact .of_val (pe_PN (n_call0 (g := fun ds => noexc (Φ.call g ds)) (h4.imp fun vs H Q E h => spD_noexc h) F.room (isGl_of F c2) h1 h2 h3 (nameOk_of c3).1 (fun c => noexc_no _ c) passes_F)) rfl rfl rfl
  | .stopE, X, W, sc, e, F, c => by
    unfold chkE at c
    exact .of_fr ⟨fun pins s σ H Q I ⟨A, env, fs, ok, r⟩ => False.elim r⟩ rfl (by cases e <;> first | rfl | exact c)
  | .comp vs el tg it cond, X, W, sc, e, F, c => by
    unfold chkE at c
    cases q : dLc e with
    | none => rw [q] at c; cases c
    | some y =>
      obtain ⟨elt, tgx, itx, ifs, scope⟩ := y
      rw [q] at c
      obtain ⟨c, c10⟩ := and2 c
      obtain ⟨c, c9⟩ := and2 c
      obtain ⟨c, c8⟩ := and2 c
      obtain ⟨c, c7⟩ := and2 c
      obtain ⟨c, c6⟩ := and2 c
      obtain ⟨c, c5⟩ := and2 c
      obtain ⟨c, c4⟩ := and2 c
      obtain ⟨c, c3⟩ := and2 c
      obtain ⟨c1, c2⟩ := and2 c
      obtain ⟨p, rfl⟩ := dLc_inv q
      have I1 := okI it F c8
      rw [of_decide_eq_true c6] at I1
      have hb : BlkOk X.N X.env.scope scope (vs.map fun i => (N.getD i "", i)) := by rw [F.n, F.sc]; exact blkOk_by c1
      have hv : (vs.map fun i => (N.getD i "", i)).map (·.2) = vs := by rw [List.map_map]; exact List.map_id _
      have hg : ∀ (s : Shared) (H : Hp) (Ca : Addr) (cl : List (Str × Addr)) (fp : List Addr), PG (X.blk s H scope (compEnvC scope cl Ca X.env) fp) tgx (tG X.K own tg) := fun s H Ca cl fp => pg_T (F.blkSt s H scope Ca cl fp) tg tgx c2 c5
      have ht : ∀ (s : Shared) (H : Hp) (Ca : Addr) (cl : List (Str × Addr)) (fp : List Addr), PTs (X.blk s H scope (compEnvC scope cl Ca X.env) fp) ifs (tRT X.K WF C own (evC Φ cond)) := fun s H Ca cl fp => okC cond (F.blk s H scope Ca cl fp) c9
      have he : ∀ (s : Shared) (H : Hp) (Ca : Addr) (cl : List (Str × Addr)) (fp : List Addr), PE (X.blk s H scope (compEnvC scope cl Ca X.env) fp) elt (tR X.K WF C own (PV X.K (escP own el).1) (evE Φ el)) := fun s H Ca cl fp => (okE el (F.blk s H scope Ca cl fp) c10).val
      refine .of_fr ((pe_lc F.calm (by rw [F.n]; exact F.nd) I1 hb hg ht he (folded_of c7)).imp fun σ H Q h => ?_) rfl rfl
      rw [hv]
      exact comp_core c4 (subL_of c3) σ H Q h
theorem okEs : ∀ (es : Es) {X : Cx} {W : WX} {sc : Scope} {xs : List Expr}, Fit X G N sc W C Φ k → chkEs G N own es sc xs = true → PA X xs (tRA X.K W C own (escs own es) (evEs Φ es))
  | .nil, X, W, sc, xs, F, c => by
    rw [chkEs_nil c]
    exact a_nil
  | .cons e es, X, W, sc, xs, F, c => by
    obtain ⟨x, ys, rfl, c0, c1, c2⟩ := chkEs_cons c
    exact a_cons (okE e F c1).val (okEs es F c2) (star_of c0)
theorem okO : ∀ (o : OE) {X : Cx} {W : WX} {sc : Scope} {x : Option Expr}, Fit X G N sc W C Φ k → chkO G N own o sc x = true → PO X x (tRO X.K W C own (evO Φ o))
  | .none, X, W, sc, x, F, c => by
    unfold chkO at c
    cases x with
    | none => exact o_none
    | some x => cases c
  | .some e, X, W, sc, x, F, c => by
    unfold chkO at c
    cases x with
    | none => cases c
    | some x => exact o_some (okE e F c).con
theorem okC : ∀ (o : OE) {X : Cx} {sc : Scope} {xs : List Expr}, Fit X G N sc WF C Φ k → chkC G N own o sc xs = true → PTs X xs (tRT X.K WF C own (evC Φ o))
  | .none, X, sc, xs, F, c => by
    unfold chkC at c
    cases xs with
    | nil => exact ⟨fun pins s σ H Q I ⟨A, env, fs, ok, r⟩ => pts_nil.run pins s σ H Q I (Rest.here r rfl)⟩
    | cons x xs => cases c
  | .some e, X, sc, xs, F, c => by
    unfold chkC at c
    match xs, c with
    | [x], c => exact pts_one (okE e F c).tst
    | [], c => cases c
    | _ :: _ :: _, c => cases c
theorem okI : ∀ (it : I) {X : Cx} {W : WX} {sc : Scope} {e tg : Expr}, Fit X G N sc W C Φ k → chkI G N own it sc e tg = true → PI X tg e (tRI X.K W C own (escI own it).1 (escI own it).2 (evI Φ it))
  | .rng1 a, X, W, sc, e, tg, F, c => by
    unfold chkI at c
    cases q : dCall e with
    | none => rw [q] at c; cases c
    | some y =>
      obtain ⟨fn, xs⟩ := y
      rw [q] at c
      match xs, q, c with
      | [x], q, c =>
        obtain ⟨c, c4⟩ := and2 c
        obtain ⟨c, c3⟩ := and2 c
        obtain ⟨c1, c2⟩ := and2 c
        obtain ⟨p2, p, rfl⟩ := dCall_inv q
        obtain rfl := of_decide_eq_true c1
        exact i_rng1 c3 (isB_of F c2).1 (isB_of F c2).2 (okE a F c4).con
      | [], q, c => cases c
      | _ :: _ :: _, q, c => cases c
  | .rng2 a b, X, W, sc, e, tg, F, c => by
    unfold chkI at c
    cases q : dCall e with
    | none => rw [q] at c; cases c
    | some y =>
      obtain ⟨fn, xs⟩ := y
      rw [q] at c
      match xs, q, c with
      | [x, y], q, c =>
        obtain ⟨c, c6⟩ := and2 c
        obtain ⟨c, c5⟩ := and2 c
        obtain ⟨c, c4⟩ := and2 c
        obtain ⟨c, c3⟩ := and2 c
        obtain ⟨c1, c2⟩ := and2 c
        obtain ⟨p2, p, rfl⟩ := dCall_inv q
        obtain rfl := of_decide_eq_true c1
        exact i_rng2 c3 c4 (isB_of F c2).1 (isB_of F c2).2 (okE a F c5).con (okE b F c6).con
      | [], q, c => cases c
      | [_], q, c => cases c
      | _ :: _ :: _ :: _, q, c => cases c
  | .rng3 a b d, X, W, sc, e, tg, F, c => by
    unfold chkI at c
    cases q : dCall e with
    | none => rw [q] at c; cases c
    | some y =>
      obtain ⟨fn, xs⟩ := y
      rw [q] at c
      match xs, q, c with
      | [x, y, z], q, c =>
        obtain ⟨c, c8⟩ := and2 c
        obtain ⟨c, c7⟩ := and2 c
        obtain ⟨c, c6⟩ := and2 c
        obtain ⟨c, c5⟩ := and2 c
        obtain ⟨c, c4⟩ := and2 c
        obtain ⟨c, c3⟩ := and2 c
        obtain ⟨c1, c2⟩ := and2 c
        obtain ⟨p2, p, rfl⟩ := dCall_inv q
        obtain rfl := of_decide_eq_true c1
        exact i_rng3 c3 c4 c5 (isB_of F c2).1 (isB_of F c2).2 (okE a F c6).con (okE b F c7).con (okE d F c8).con
      | [], q, c => cases c
      | [_], q, c => cases c
      | [_, _], q, c => cases c
      | _ :: _ :: _ :: _ :: _, q, c => cases c
  | .seq a, X, W, sc, e, tg, F, c => by
    unfold chkI at c
    exact i_seq (subM a) (okE a F c).con
  | .zip a b, X, W, sc, e, tg, F, c => by
    unfold chkI at c
    cases q : dCall e with
    | none => rw [q] at c; cases c
    | some y =>
      obtain ⟨fn, xs⟩ := y
      rw [q] at c
      match xs, q, c with
      | [x, y], q, c =>
        obtain ⟨c, c7⟩ := and2 c
        obtain ⟨c, c6⟩ := and2 c
        obtain ⟨c, c5⟩ := and2 c
        obtain ⟨c, c4⟩ := and2 c
        obtain ⟨c, c3⟩ := and2 c
        obtain ⟨c1, c2⟩ := and2 c
        obtain ⟨p2, p, rfl⟩ := dCall_inv q
        obtain rfl := of_decide_eq_true c1
        obtain ⟨es, he⟩ := Option.isSome_iff_exists.mp c5
        obtain ⟨j, p3, rfl⟩ := dTup_inv he
        exact i_zip (subM a) (subM b) c3 c4 (isB_of F c2).1 (isB_of F c2).2 (okE a F c6).con (okE b F c7).con
      | [], q, c => cases c
      | [_], q, c => cases c
      | _ :: _ :: _ :: _, q, c => cases c
  | .enum a, X, W, sc, e, tg, F, c => by
    unfold chkI at c
    cases q : dCall e with
    | none => rw [q] at c; cases c
    | some y =>
      obtain ⟨fn, xs⟩ := y
      rw [q] at c
      match xs, q, c with
      | [x], q, c =>
        obtain ⟨c, c5⟩ := and2 c
        obtain ⟨c, c4⟩ := and2 c
        obtain ⟨c, c3⟩ := and2 c
        obtain ⟨c1, c2⟩ := and2 c
        obtain ⟨p2, p, rfl⟩ := dCall_inv q
        obtain rfl := of_decide_eq_true c1
        obtain ⟨es, he⟩ := Option.isSome_iff_exists.mp c4
        obtain ⟨j, p3, rfl⟩ := dTup_inv he
        exact i_enum (subM a) c3 (isB_of F c2).1 (isB_of F c2).2 (okE a F c5).con
      | [], q, c => cases c
      | _ :: _ :: _, q, c => cases c
end
end
end Ev
set_option Elab.async false
set_option linter.all false
set_option maxRecDepth 100000
set_option maxHeartbeats 4000000
/-! statements: the text against the language -/
namespace Ev
open PySem PySem.Spec PyProof.Rows L2
def yAsg : Stmt → Option (Str × Pos × Expr)
  | .Assign [.Name x p] e _ => some (x, p, e)
  | _ => none
theorem yAsg_inv {s : Stmt} {x : Str} {p : Pos} {e : Expr} (h : yAsg s = some (x, p, e)) : ∃ q, s = .Assign [.Name x p] e q := by
  unfold yAsg at h; split at h <;> first | (cases h; exact ⟨_, rfl⟩) | cases h
def yAsgT : Stmt → Option (List Expr × Expr)
  | .Assign [.Tuple es _ _] e _ => some (es, e)
  | _ => none
theorem yAsgT_inv {s : Stmt} {es : List Expr} {e : Expr} (h : yAsgT s = some (es, e)) : ∃ k p q, s = .Assign [.Tuple es k p] e q := by
  unfold yAsgT at h; split at h <;> first | (cases h; exact ⟨_, _, _, rfl⟩) | cases h
def yPar : Stmt → Option (Str × Pos × Str × Pos × Expr × Expr)
  | .Assign [.Tuple [.Name x px, .Name y py] _ _] (.Tuple [a, b] _ _) _ => some (x, px, y, py, a, b)
  | _ => none
theorem yPar_inv {s : Stmt} {x y : Str} {px py : Pos} {a b : Expr} (h : yPar s = some (x, px, y, py, a, b)) : ∃ k p k2 p2 q, s = .Assign [.Tuple [.Name x px, .Name y py] k p] (.Tuple [a, b] k2 p2) q := by
  unfold yPar at h; split at h <;> first | (cases h; exact ⟨_, _, _, _, _, rfl⟩) | cases h
def yApp : Stmt → Option (Str × Expr × Bool)
  | .Expr (.Call (.Attribute (.Name x _) m apos) [e] [] cpos) _ => if m = ("append" : Str) then some (x, e, apos.endLine == cpos.line) else none
  | _ => none
theorem yApp_inv {s : Stmt} {x : Str} {e : Expr} {b : Bool} (h : yApp s = some (x, e, b)) : ∃ p apos cpos q, s = .Expr (.Call (.Attribute (.Name x p) "append" apos) [e] [] cpos) q ∧ b = (apos.endLine == cpos.line) := by
  unfold yApp at h
  split at h
  · split at h
    · rename_i hm
      cases h
      subst hm
      exact ⟨_, _, _, _, rfl, rfl⟩
    · cases h
  · cases h
def ySet : Stmt → Option (Str × Expr × Expr)
  | .Assign [.Subscript (.Name x _) k _] e _ => some (x, k, e)
  | _ => none
theorem ySet_inv {s : Stmt} {x : Str} {k e : Expr} (h : ySet s = some (x, k, e)) : ∃ p p2 q, s = .Assign [.Subscript (.Name x p) k p2] e q := by
  unfold ySet at h; split at h <;> first | (cases h; exact ⟨_, _, _, rfl⟩) | cases h
def yAug : Stmt → Option (Str × Operator × Expr)
  | .AugAssign (.Name x _) o e _ => some (x, o, e)
  | _ => none
theorem yAug_inv {s : Stmt} {x : Str} {o : Operator} {e : Expr} (h : yAug s = some (x, o, e)) : ∃ p q, s = .AugAssign (.Name x p) o e q := by
  unfold yAug at h; split at h <;> first | (cases h; exact ⟨_, _, rfl⟩) | cases h
def yIf : Stmt → Option (Expr × List Stmt × List Stmt)
  | .If c a b _ => some (c, a, b)
  | _ => none
theorem yIf_inv {s : Stmt} {c : Expr} {a b : List Stmt} (h : yIf s = some (c, a, b)) : ∃ q, s = .If c a b q := by
  unfold yIf at h; split at h <;> first | (cases h; exact ⟨_, rfl⟩) | cases h
def yWhl : Stmt → Option (Expr × List Stmt)
  | .While c a [] _ => some (c, a)
  | _ => none
theorem yWhl_inv {s : Stmt} {c : Expr} {a : List Stmt} (h : yWhl s = some (c, a)) : ∃ q, s = .While c a [] q := by
  unfold yWhl at h; split at h <;> first | (cases h; exact ⟨_, rfl⟩) | cases h
def yFor : Stmt → Option (Expr × Expr × List Stmt)
  | .For t i a [] _ => some (t, i, a)
  | _ => none
theorem yFor_inv {s : Stmt} {t i : Expr} {a : List Stmt} (h : yFor s = some (t, i, a)) : ∃ q, s = .For t i a [] q := by
  unfold yFor at h; split at h <;> first | (cases h; exact ⟨_, rfl⟩) | cases h
def yRet : Stmt → Option Expr
  | .Return (some e) _ => some e
  | _ => none
theorem yRet_inv {s : Stmt} {e : Expr} (h : yRet s = some e) : ∃ q, s = .Return (some e) q := by
  unfold yRet at h; split at h <;> first | (cases h; exact ⟨_, rfl⟩) | cases h
def yRetN : Stmt → Bool
  | .Return none _ => true
  | _ => false
theorem yRetN_inv {s : Stmt} (h : yRetN s = true) : ∃ q, s = .Return none q := by
  unfold yRetN at h; split at h <;> first | exact ⟨_, rfl⟩ | cases h
def yPass : Stmt → Bool
  | .Pass _ => true
  | _ => false
theorem yPass_inv {s : Stmt} (h : yPass s = true) : ∃ q, s = .Pass q := by
  unfold yPass at h; split at h <;> first | exact ⟨_, rfl⟩ | cases h
def yExpr : Stmt → Option Expr
  | .Expr e _ => some e
  | _ => none
theorem yExpr_inv {s : Stmt} {e : Expr} (h : yExpr s = some e) : ∃ q, s = .Expr e q := by
  unfold yExpr at h; split at h <;> first | (cases h; exact ⟨_, rfl⟩) | cases h
/-- how deep a value is owned -/
def depE (G : Gt) : Nat → E → Bool
  | 0, _ => true
  | 1, .call f _ => (G.fns.all fun y => decide (y.2.1 ≠ f) || decide (y.2.2.2 = 1))
  | 1, .call0 f => (G.fns.all fun y => decide (y.2.1 ≠ f) || decide (y.2.2.2 = 1))
  | 1, e => freshE e
  | _ + 2, _ => false

mutual
def wr : S → List Nat
  | .asg _ i _ _ => [i]
  | .asgT ts _ _ => slotsTs ts
  | .par i j _ _ _ => [i, j]
  | .app i _ _ => [i]
  | .appAt i _ _ _ => [i]
  | .setIx i _ _ _ => [i]
  | .setIx2 i _ _ _ _ => [i]
  | .aug i _ _ => [i]
  | .ite _ a b => wrs a ++ wrs b
  | .whl _ b => wrs b
  | .for_ _ tg _ b => slotsT tg ++ wrs b
  | .ret _ _ => []
  | .retN => []
  | .raise_ _ => []
  | .expr _ => []
  | .pass => []
  | .stop => []
def wrs : Ss → List Nat
  | .nil => []
  | .cons s ss => wr s ++ wrs ss
end
mutual
theorem evS_len {Φ : Cfg} : ∀ (s : S) (e o : Env), evS Φ s e = .ok (.next o) → o.length = e.length
  | .asg _ i x mv, e, o, h => by
    unfold evS at h
    obtain ⟨d, _, h⟩ := R.bind_ok h
    cases h
    rw [List.length_set, clr_len]
  | .asgT ts x mv, e, o, h => by
    unfold evS at h
    obtain ⟨d, _, h⟩ := R.bind_ok h
    obtain ⟨l, _, h⟩ := R.bind_ok h
    obtain ⟨e1, h1, h⟩ := R.bind_ok h
    cases h
    rw [bindTs_len' _ _ _ _ h1, clr_len]
  | .par i j a b mv, e, o, h => by
    unfold evS at h
    obtain ⟨d, _, h⟩ := R.bind_ok h
    obtain ⟨l, _, h⟩ := R.bind_ok h
    cases h
    rw [List.length_set, List.length_set, clr_len]
  | .app i x mv, e, o, h => by
    unfold evS at h
    obtain ⟨_, _, h⟩ := R.bind_ok h
    obtain ⟨_, _, h⟩ := R.bind_ok h
    obtain ⟨_, _, h⟩ := R.bind_ok h
    obtain ⟨_, _, h⟩ := R.bind_ok h
    cases h
    rw [List.length_set, clr_len]
  | .appAt i k x mv, e, o, h => by
    unfold evS at h
    obtain ⟨_, _, h⟩ := R.bind_ok h
    obtain ⟨_, _, h⟩ := R.bind_ok h
    obtain ⟨_, _, h⟩ := R.bind_ok h
    obtain ⟨_, _, h⟩ := R.bind_ok h
    obtain ⟨_, _, h⟩ := R.bind_ok h
    obtain ⟨_, _, h⟩ := R.bind_ok h
    obtain ⟨_, _, h⟩ := R.bind_ok h
    obtain ⟨_, _, h⟩ := R.bind_ok h
    obtain ⟨_, _, h⟩ := R.bind_ok h
    cases h
    rw [List.length_set, clr_len]
  | .setIx i k x mv, e, o, h => by
    unfold evS at h
    obtain ⟨_, _, h⟩ := R.bind_ok h
    obtain ⟨_, _, h⟩ := R.bind_ok h
    obtain ⟨_, _, h⟩ := R.bind_ok h
    obtain ⟨_, _, h⟩ := R.bind_ok h
    obtain ⟨_, _, h⟩ := R.bind_ok h
    obtain ⟨_, _, h⟩ := R.bind_ok h
    cases h
    rw [List.length_set, clr_len]
  | .setIx2 i k k' x mv, e, o, h => by
    unfold evS at h
    obtain ⟨_, _, h⟩ := R.bind_ok h
    obtain ⟨_, _, h⟩ := R.bind_ok h
    obtain ⟨_, _, h⟩ := R.bind_ok h
    obtain ⟨_, _, h⟩ := R.bind_ok h
    obtain ⟨_, _, h⟩ := R.bind_ok h
    obtain ⟨_, _, h⟩ := R.bind_ok h
    obtain ⟨_, _, h⟩ := R.bind_ok h
    obtain ⟨_, _, h⟩ := R.bind_ok h
    obtain ⟨_, _, h⟩ := R.bind_ok h
    obtain ⟨_, _, h⟩ := R.bind_ok h
    obtain ⟨_, _, h⟩ := R.bind_ok h
    cases h
    rw [List.length_set, clr_len]
  | .aug i op x, e, o, h => by
    unfold evS at h
    obtain ⟨_, _, h⟩ := R.bind_ok h
    obtain ⟨_, _, h⟩ := R.bind_ok h
    obtain ⟨_, _, h⟩ := R.bind_ok h
    obtain ⟨_, _, h⟩ := R.bind_ok h
    obtain ⟨_, _, h⟩ := R.bind_ok h
    cases h
    rw [List.length_set]
  | .ite c a b, e, o, h => by
    unfold evS at h
    obtain ⟨_, _, h⟩ := R.bind_ok h
    obtain ⟨t, _, h⟩ := R.bind_ok h
    cases t with
    | true => exact evSs_len a e o h
    | false => exact evSs_len b e o h
  | .whl c b, e, o, h => by
    unfold evS at h
    have key : ∀ (m : Nat) (e o : Env), whlL (fun e => do let d ← evE Φ c e; asB d) (evSs Φ b) m e = .ok (.next o) → o.length = e.length := by
      intro m
      induction m with
      | zero => intro e o h; cases h
      | succ m ih =>
        intro e o h
        unfold whlL at h
        obtain ⟨t, _, h⟩ := R.bind_ok h
        cases t with
        | false => cases h; rfl
        | true =>
          obtain ⟨o1, h1, h⟩ := R.bind_ok h
          cases o1 with
          | next e1 => rw [ih e1 o h, evSs_len b e e1 h1]
          | ret v => cases h
    exact key _ _ _ h
  | .for_ hd tg it b, e, o, h => by
    unfold evS at h
    obtain ⟨ds, _, h⟩ := R.bind_ok h
    obtain ⟨o1, h1, h⟩ := R.bind_ok h
    have key : ∀ (ds : List D) (e o : Env), forL (fun d e => do let e1 ← bindT tg d e; evSs Φ b e1) ds e = .ok (.next o) → o.length = e.length := by
      intro ds
      induction ds with
      | nil => intro e o h; unfold forL at h; cases h; rfl
      | cons d ds ih =>
        intro e o h
        unfold forL at h
        obtain ⟨o1, h1, h⟩ := R.bind_ok h
        cases o1 with
        | next e1 =>
          obtain ⟨e2, h2, h3⟩ := R.bind_ok h1
          rw [ih e1 o h, evSs_len b e2 e1 h3, bindT_len _ _ _ _ h2]
        | ret v => cases h
    cases o1 with
    | next e1 =>
      cases h
      rw [unhide_len, key ds _ _ h1, clr_len]
    | ret v => cases h
  | .ret _ x, e, o, h => by
    unfold evS at h
    obtain ⟨_, _, h⟩ := R.bind_ok h
    cases h
  | .retN, e, o, h => by unfold evS at h; cases h
  | .raise_ _, e, o, h => by unfold evS at h; cases h
  | .expr x, e, o, h => by
    unfold evS at h
    obtain ⟨_, _, h⟩ := R.bind_ok h
    cases h
    rfl
  | .pass, e, o, h => by unfold evS at h; cases h; rfl
  | .stop, e, o, h => by unfold evS at h; cases h
theorem evSs_len {Φ : Cfg} : ∀ (s : Ss) (e o : Env), evSs Φ s e = .ok (.next o) → o.length = e.length
  | .nil, e, o, h => by unfold evSs at h; cases h; rfl
  | .cons s ss, e, o, h => by
    unfold evSs at h
    obtain ⟨o1, h1, h⟩ := R.bind_ok h
    cases o1 with
    | next e1 => rw [evSs_len ss e1 o h, evS_len s e e1 h1]
    | ret v => cases h
end
def isL (sc : Scope) (x : Str) : Bool := decide (sc.names.lookup x = some .local)
mutual
def chkS (G : Gt) (N : List Str) (own : List Nat) (n : Nat) : S → Scope → Stmt → Bool
  | .asg m i ir mv, sc, s => (match yAsg s with
    | some (x, p, e) => decide (own.getD i 0 = m) && decide (N[i]? = some x) && isLoc sc x && (
      (match ir with
        | .var j => decide (m ≠ 0) && (match dName e with | some y => decide (N[j]? = some y) && isVis sc y && nameOk y && decide (own.getD j 0 = m) && decide (mv = [j]) && decide (i ≠ j) | none => false)
        | _ => false) ||
      ((notComp e || (decide (sc.names.lookup x = some .cell) && (dLc e).isSome)) && chkE G N own ir sc e && subL (escP own ir).1 mv && depE G m ir) ||
      (decide (m ≤ 1) && (match dLc e with
        | some (_, _, _, _, scope) => isL sc x && (p.line == e.pos.line) && !(scope.names.any fun (n, k) => n == x && (k == .local || k == .cell))
        | none => false) && chkE G N own ir sc e && subL (escP own ir).1 mv && (match ir with | .comp _ _ _ _ _ => true | _ => false)))
    | none => false)
  | .asgT ts ir mv, sc, s => (match yAsgT s with
    | some (es, e) => chkTs sc N ts es && own0 own (slotsTs ts) && notComp e && notTup e && chkE G N own ir sc e && decide ((escP own ir).1 = []) && decide (mv = [])
    | none => false)
  | .par i j a b mv, sc, s => (match yPar s with
    | some (x, px, y, py, ea, eb) => decide (N[i]? = some x) && decide (N[j]? = some y) && decide (i ≠ j) && isL sc x && isL sc y && decide (own.getD i 0 = 0) && decide (own.getD j 0 = 0) && (py.line == px.line) && decide (x ≠ y)
        && decide ([ea, eb].all (foldedForSure 8) = false) && decide ([ea, eb].all (constantsAlone 8) = false) && notStar ea && notStar eb && chkE G N own a sc ea && chkE G N own b sc eb && decide ((escP own a).1 = []) && decide ((escP own b).1 = []) && decide (mv = [])
    | none => false)
  | .app i ir mv, sc, s => (match yApp s with
    | some (x, e, l) => decide (N[i]? = some x) && isVis sc x && nameOk x && decide (own.getD i 0 = 1) && decide (i ∉ mv) && notStar e && l && chkE G N own ir sc e && subL (escP own ir).1 mv
    | none => false)
  | .appAt _ _ _ _, _, _ => false
  | .setIx i k ir mv, sc, s => (match ySet s with
    | some (x, ek, e) => plainIx ek && decide (N[i]? = some x) && isVis sc x && nameOk x && decide (own.getD i 0 = 1) && decide (i ∉ mv) && notComp e && chkE G N own ir sc e && chkE G N own k sc ek && subL (escP own ir).1 mv
    | none => false)
  | .setIx2 _ _ _ _ _, _, _ => false
  | .aug i o ir, sc, s => (match yAug s with
    | some (x, op, e) => decide (N[i]? = some x) && isLoc sc x && decide (own.getD i 0 = 0) && (match o with | .add => true | .sub => true | _ => false) && decide (op = opB o) && chkE G N own ir sc e
    | none => false)
  | .ite c a b, sc, s => (match yIf s with
    | some (ec, sa, sb) => chkE G N own c sc ec && chkSs G N own n a sc sa && chkSs G N own n b sc sb
    | none => false)
  | .whl c b, sc, s => (match yWhl s with
    | some (ec, sb) => chkE G N own c sc ec && chkSs G N own n b sc sb
    | none => false)
  | .for_ hd tg it b, sc, s => (match yFor s with
    | some (et, ei, sb) => decide (hd = (escI own it).1) && decide ((escI own it).2 = []) && chkI G N own it sc ei et && chkT sc N tg et && own0 own (slotsT tg) && plainIn ei && chkSs G N own n b sc sb && hd.all fun k => decide (k ∉ slotsT tg) && decide (k ∉ wrs b)
    | none => false)
  | .ret m ir, sc, s => (match yRet s with
    | some e => decide (m = n) && (
      (match ir with
        | .var j => decide (n ≠ 0) && (match dName e with | some y => decide (N[j]? = some y) && isVis sc y && nameOk y && decide (own.getD j 0 = n) | none => false)
        | _ => false) ||
      (chkE G N own ir sc e && depE G n ir))
    | none => false)
  | .retN, _, s => yRetN s
  | .raise_ _, _, _ => false
  | .expr ir, sc, s => (match yExpr s with
    | some e => notComp e && chkE G N own ir sc e
    | none => false)
  | .pass, _, s => yPass s
  | .stop, _, _ => true
def chkSs (G : Gt) (N : List Str) (own : List Nat) (n : Nat) : Ss → Scope → List Stmt → Bool
  | .nil, _, l => l.isEmpty
  | .cons s ss, sc, l => (match l with | x :: xs => chkS G N own n s sc x && chkSs G N own n ss sc xs | [] => false)
end
/-- a suite's context -/
structure FitS (X : Cx) (G : Gt) (N : List Str) (sc : Scope) (W : WX) (C : Nat → Value) (Φ : Cfg) (k : Nat) : Prop where
  fit : Fit X G N sc W C Φ k
  st : StOk X sc N
  pass : PassesOwn (model X.prog X.w) X.A X.env X.xe
  fun_ : X.env.scope.kind = .function
section
variable {X : Cx} {G : Gt} {N : List Str} {sc : Scope} {W : WX} {C : Nat → Value} {Φ : Cfg} {k : Nat} {own : List Nat} {n : Nat}
theorem pe_sub {e : Expr} {m : Nat} {L L' : List Nat} {f : Env → R PyData} (h : PE X e (tR X.K W C own (PN X.K m L) f)) (hs : ∀ i ∈ L, i ∈ L') : PE X e (tR X.K W C own (PN X.K m L') f) :=
  h.imp fun σ H Q ⟨A, env, fs, ok, r⟩ => ⟨A, env, fs, ok, r.imp fun H' v d s ⟨fp, h1, h2, h3⟩ => ⟨fp, h1, h2, h3.keep (hid_sub fun a z => z.elim (fun z => .inl (exL_sub hs a z)) .inr) fun a _ o q => q⟩⟩
theorem pe_PN0 {e : Expr} {L : List Nat} {f : Env → R PyData} (h : PE X e (tR X.K W C own (PV X.K L) f)) : PE X e (tR X.K W C own (PN X.K 0 L) f) :=
  h.imp fun σ H Q ⟨A, env, fs, ok, r⟩ => ⟨A, env, fs, ok, r.imp fun H' v d s p => PN.of_PV0 p⟩
theorem lookup_mem {β : Type} {x : Str} {b : β} : ∀ {l : List (Str × β)}, l.lookup x = some b → (x, b) ∈ l
  | [], h => by cases h
  | (y, c) :: l, h => by
    rw [List.lookup_cons] at h
    cases q : x == y with
    | true =>
      rw [q] at h
      have : x = y := eq_of_beq q
      subst this
      cases h
      exact List.mem_cons_self
    | false =>
      rw [q] at h
      exact List.mem_cons_of_mem _ (lookup_mem h)
/-- a value owned to its depth -/
theorem okD (F : Fit X G N sc W C Φ k) {m : Nat} {ir : E} {e : Expr} (c : chkE G N own ir sc e = true) (d : depE G m ir = true) : PE X e (tR X.K W C own (PN X.K m (escP own ir).1) (evE Φ ir)) := by
  match m, d with
  | 0, _ => exact pe_PN0 (okE ir F c).val
  | 1, d =>
    by_cases hf : freshE ir = true
    · exact pe_PF1 ((okE ir F c).fr hf)
    · cases ir with
      | call f es =>
        unfold chkE at c
        cases q : dCall e with
        | none => rw [q] at c; cases c
        | some y =>
          obtain ⟨fn, xs⟩ := y
          rw [q] at c
          obtain ⟨c, c6⟩ := and2 c
          obtain ⟨c, c5⟩ := and2 c
          obtain ⟨c, c4⟩ := and2 c
          obtain ⟨c, c3⟩ := and2 c
          obtain ⟨c1, c2⟩ := and2 c
          obtain ⟨p2, p, rfl⟩ := dCall_inv q
          cases q2 : G.fns.lookup fn with
          | none => rw [q2] at c1; cases c1
          | some y =>
            obtain ⟨g, np, rt⟩ := y
            rw [q2] at c1
            obtain ⟨d1, d2⟩ := and2 c1
            obtain rfl := of_decide_eq_true d1
            obtain ⟨fa, fd, ps, h1, h2, h3, h4⟩ := F.g.fn fn g np rt q2
            have hr : rt = 1 := by
              unfold depE at d
              rw [List.all_eq_true] at d
              have := d _ (lookup_mem q2)
              rw [Bool.or_eq_true, decide_eq_true_eq, decide_eq_true_eq] at this
              rcases this with z | z
              · exact absurd rfl z
              · exact z
            subst hr
            exact n_call h4 F.room (isGl_of F c2) h1 h2 h3 F.tk (of_decide_eq_true d2) (of_decide_eq_true c4) (okEs es F c6) c5 (nameOk_of c3).1 fun env ds h => evEs_len es c6 h
      | call0 f =>
        unfold chkE at c
        cases q : dCall e with
        | none => rw [q] at c; cases c
        | some y =>
          obtain ⟨fn, xs⟩ := y
          rw [q] at c
          match xs, q, c with
          | _ :: _, q, c => cases c
          | [], q, c =>
            obtain ⟨c, c3⟩ := and2 c
            obtain ⟨c1, c2⟩ := and2 c
            obtain ⟨p2, p, rfl⟩ := dCall_inv q
            cases q2 : G.fns.lookup fn with
            | none => rw [q2] at c1; cases c1
            | some y =>
              obtain ⟨g, np, rt⟩ := y
              rw [q2] at c1
              obtain ⟨d1, d2⟩ := and2 c1
              obtain rfl := of_decide_eq_true d1
              obtain rfl := of_decide_eq_true d2
              obtain ⟨fa, fd, ps, h1, h2, h3, h4⟩ := F.g.fn fn g 0 rt q2
              have hr : rt = 1 := by
                unfold depE at d
                rw [List.all_eq_true] at d
                have := d _ (lookup_mem q2)
                rw [Bool.or_eq_true, decide_eq_true_eq, decide_eq_true_eq] at this
                rcases this with z | z
                · exact absurd rfl z
                · exact z
              subst hr
              exact n_call0 (g := fun ds => noexc (Φ.call g ds)) (h4.imp fun vs H Q E h => spD_noexc h) F.room (isGl_of F c2) h1 h2 h3 (nameOk_of c3).1 (fun c => noexc_no _ c) passes_F
      | _ => exact absurd d hf
  | _ + 2, d => cases d
end
end Ev
set_option Elab.async false
set_option linter.all false
set_option maxRecDepth 100000
set_option maxHeartbeats 4000000
/-! statements -/
namespace Ev
open PySem PySem.Spec PyProof.Rows L2
theorem isLoc_of {sc : Scope} {x : Str} (h : isLoc sc x = true) : sc.names.lookup x = some .local ∨ sc.names.lookup x = some .cell := by
  unfold isLoc at h
  rw [Bool.or_eq_true, decide_eq_true_eq, decide_eq_true_eq] at h
  exact h
theorem or2 {a b : Bool} (h : (a || b) = true) : a = true ∨ b = true := by rw [Bool.or_eq_true] at h; exact h
theorem nil_of_sub {l : List Nat} (h : ∀ i ∈ l, i ∈ ([] : List Nat)) : l = [] := by cases l with | nil => rfl | cons a l => exact absurd (h a List.mem_cons_self) (by simp)
section
variable {X : Cx} {G : Gt} {N : List Str} {sc : Scope} {W : WX} {C : Nat → Value} {Φ : Cfg} {k : Nat} {own : List Nat} {n : Nat}
theorem pe_sub0 {e : Expr} {L L' : List Nat} {f : Env → R PyData} (h : PE X e (tR X.K W C own (PV X.K L) f)) (hs : ∀ i ∈ L, i ∈ L') : PE X e (tR X.K W C own (PV X.K L') f) :=
  h.imp fun σ H Q ⟨A, env, fs, ok, r⟩ => ⟨A, env, fs, ok, r.imp fun H' v d s p => Rp.mono (hid_sub fun a z => exL_sub hs a z) (p : Rp _ _ _ _)⟩
/-- x = [..], the name a local -/
theorem ok_setLc (F : FitS X G N sc W C Φ k) {m i : Nat} {mv vs : List Nat} {el : E} {tg : T} {it : I} {cond : OE} {x : Str} {p q p2 : Pos} {elt tgx itx : Expr} {ifs : List Expr} {scope : Scope} (hm1 : m ≤ 1) (hm : own.getD i 0 = m) (hi : N[i]? = some x) (hl : isL sc x = true)
    (hline : (p.line == p2.line) = true) (hno : (scope.names.any fun (n, k) => n == x && (k == .local || k == .cell)) = false) (c : chkE G N own (.comp vs el tg it cond) sc (.ListComp elt [⟨tgx, itx, ifs, 0⟩] scope p2) = true)
    (hs : ∀ i ∈ (escP own el).1, i ∈ mv) : PS X (.Assign [.Name x p] (.ListComp elt [⟨tgx, itx, ifs, 0⟩] scope p2) q) (tSt X.K W C own n [i] fun env => do let d ← evE Φ (.comp vs el tg it cond) env; pure (.next ((clr mv env).set i (some d)))) := by
  unfold chkE at c
  dsimp only [dLc] at c
  obtain ⟨c, c10⟩ := and2 c
  obtain ⟨c, c9⟩ := and2 c
  obtain ⟨c, c8⟩ := and2 c
  obtain ⟨c, c7⟩ := and2 c
  obtain ⟨c, c6⟩ := and2 c
  obtain ⟨c, c5⟩ := and2 c
  obtain ⟨c, c4⟩ := and2 c
  obtain ⟨c, c3⟩ := and2 c
  obtain ⟨c1, c2⟩ := and2 c
  have F0 := F.fit
  have I1 := okI it F0 c8
  rw [of_decide_eq_true c6] at I1
  have hb : BlkOk X.N X.env.scope scope (vs.map fun i => (N.getD i "", i)) := by rw [F0.n, F0.sc]; exact blkOk_by c1
  have hv : (vs.map fun i => (N.getD i "", i)).map (·.2) = vs := by rw [List.map_map]; exact List.map_id _
  have hg : ∀ (s : Shared) (H : Hp) (Ca : Addr) (cl : List (Str × Addr)) (fp : List Addr), PG (X.blk s H scope (compEnvC scope cl Ca X.env) fp) tgx (tG X.K own tg) := fun s H Ca cl fp => pg_T (F0.blkSt s H scope Ca cl fp) tg tgx c2 c5
  have ht : ∀ (s : Shared) (H : Hp) (Ca : Addr) (cl : List (Str × Addr)) (fp : List Addr), PTs (X.blk s H scope (compEnvC scope cl Ca X.env) fp) ifs (tRT X.K WF C own (evC Φ cond)) := fun s H Ca cl fp => okC cond (F0.blk s H scope Ca cl fp) c9
  have he : ∀ (s : Shared) (H : Hp) (Ca : Addr) (cl : List (Str × Addr)) (fp : List Addr), PE (X.blk s H scope (compEnvC scope cl Ca X.env) fp) elt (tR X.K WF C own (PV X.K (escP own el).1) (evE Φ el)) := fun s H Ca cl fp => (okE el (F0.blk s H scope Ca cl fp) c10).val
  have hx : X.env.scope.names.lookup x = some .local := by
    rw [F0.sc]
    unfold isL at hl
    exact of_decide_eq_true hl
  refine s_setLc F.st hm hi hx (sw_true F.fun_ hx hline hno) I1 hb hg ht he (folded_of c7) fun σ H Q h => ?_
  rw [hv]
  refine comp_core (L := (escP own el).1) c4 (subL_of c3) σ H Q ?_
  obtain ⟨A, env, fs, ok, r⟩ := h
  refine ⟨A, env, fs, ok, Rest.imp (P := fun H' v d => PN X.K m mv A fs H H' v d) r fun H' v d s pf => ?_⟩
  have p1 : PN X.K 1 (escP own el).1 A fs H H' v d := PN.of_PF pf
  have sub : ∀ fp : List Addr, ∀ a, (exL A fs mv a ∨ a ∈ fp) → (exL A fs (escP own el).1 a ∨ a ∈ fp) := fun fp a z => z.elim (fun z => .inl (exL_sub hs a z)) .inr
  match m, hm1 with
  | 0, _ => exact PN.of_PV0 (Rp.mono (hid_sub fun a z => exL_sub hs a z) (PV.of_PN ok p1 : Rp _ _ _ _))
  | 1, _ =>
    obtain ⟨fp, h1, h2, h3⟩ := p1
    exact ⟨fp, h1, h2, h3.keep (hid_sub fun a z => z.elim (fun z => .inl (exL_sub hs a z)) .inr) fun a _ o q => q⟩
theorem sw_cell {x : Str} {p p2 : Pos} {l : Nat} {elt : Expr} {gs : List Comprehension} {scope : Scope} {env : PySem.Env} (h : env.scope.names.lookup x = some .cell) : swapsWithSole [.Name x p] (.ListComp elt gs scope p2) l env = pure false := by
  have k : env.kindOf x = some .cell := h
  rw [swapsWithSole]
  unfold swapsWith
  simp only [k]
  rw [show (some NameKind.cell == some NameKind.local) = false from rfl, Bool.and_false]
  rfl
mutual
theorem okS (F : FitS X G N sc W C Φ k) : ∀ (ir : S) {s : Stmt}, chkS G N own n ir sc s = true → PS X s (tSt X.K W C own n (wr ir) (evS Φ ir))
  | .asg m i ir mv, s, c => by
    unfold chkS at c
    cases q : yAsg s with
    | none => rw [q] at c; cases c
    | some y =>
      obtain ⟨x, p, e⟩ := y
      rw [q] at c
      obtain ⟨c, c4⟩ := and2 c
      obtain ⟨c, c3⟩ := and2 c
      obtain ⟨c1, c2⟩ := and2 c
      obtain ⟨pq, rfl⟩ := yAsg_inv q
      have h1 := of_decide_eq_true c1
      have h2 := of_decide_eq_true c2
      have h3 := isLoc_of c3
      rcases or2 c4 with d | d
      · rcases or2 d with d | d
        · cases ir with
          | var j =>
            obtain ⟨d1, d⟩ := and2 d
            cases q2 : dName e with
            | none => rw [q2] at d; cases d
            | some y =>
              rw [q2] at d
              obtain ⟨d, d7⟩ := and2 d
              obtain ⟨d, d6⟩ := and2 d
              obtain ⟨d, d5⟩ := and2 d
              obtain ⟨d, d4⟩ := and2 d
              obtain ⟨d2, d3⟩ := and2 d
              obtain ⟨p3, rfl⟩ := dName_inv q2
              obtain rfl := of_decide_eq_true d6
              exact s_mov F.st (by rw [h1, of_decide_eq_true d5]) h2 h3 (of_decide_eq_true d2) (isVis_of F.fit d3) (nameOk_of d4).1 (nameOk_of d4).2 (of_decide_eq_true d7)
          | _ => cases d
        · obtain ⟨d, d4⟩ := and2 d
          obtain ⟨d, d3⟩ := and2 d
          obtain ⟨d1, d2⟩ := and2 d
          have hsw : swapsWithSole [.Name x p] e pq.line X.env = pure false := by
            rcases or2 d1 with d1 | d1
            · exact swapsSole_of d1
            · obtain ⟨d5, d6⟩ := and2 d1
              obtain ⟨⟨elt, tgx, itx, ifs, scope⟩, he⟩ := Option.isSome_iff_exists.mp d6
              obtain ⟨p2, rfl⟩ := dLc_inv he
              exact sw_cell (by rw [F.fit.sc]; exact of_decide_eq_true d5)
          exact s_asg F.st h1 h2 h3 hsw (pe_sub (okD F.fit d2 d4) (subL_of d3))
      · obtain ⟨d, d5⟩ := and2 d
        obtain ⟨d, d4⟩ := and2 d
        obtain ⟨d, d3⟩ := and2 d
        obtain ⟨d1, d2⟩ := and2 d
        cases ir with
        | comp vs el tg it cond =>
          cases q2 : dLc e with
          | none => rw [q2] at d2; cases d2
          | some y =>
            obtain ⟨elt, tgx, itx, ifs, scope⟩ := y
            rw [q2] at d2
            obtain ⟨d2, d8⟩ := and2 d2
            obtain ⟨d6, d7⟩ := and2 d2
            obtain ⟨p2, rfl⟩ := dLc_inv q2
            refine ok_setLc F (of_decide_eq_true d1) h1 h2 d6 d7 ?_ d3 (subL_of d4)
            exact Bool.eq_false_iff.mpr fun z => by
              have z2 : (scope.names.any fun (n, k) => n == x && (k == .local || k == .cell)) = true := z
              rw [z2] at d8
              cases d8
        | _ => cases d5
  | .asgT ts ir mv, s, c => by
    unfold chkS at c
    cases q : yAsgT s with
    | none => rw [q] at c; cases c
    | some y =>
      obtain ⟨es, e⟩ := y
      rw [q] at c
      obtain ⟨c, c7⟩ := and2 c
      obtain ⟨c, c6⟩ := and2 c
      obtain ⟨c, c5⟩ := and2 c
      obtain ⟨c, c4⟩ := and2 c
      obtain ⟨c, c3⟩ := and2 c
      obtain ⟨c1, c2⟩ := and2 c
      obtain ⟨kk, p, pq, rfl⟩ := yAsgT_inv q
      obtain rfl := of_decide_eq_true c7
      have v := (okE ir F.fit c5).val
      rw [of_decide_eq_true c6] at v
      exact s_asgT F.st c1 c2 c3 c4 v
  | .par i j a b mv, s, c => by
    unfold chkS at c
    cases q : yPar s with
    | none => rw [q] at c; cases c
    | some y =>
      obtain ⟨x, px, y, py, ea, eb⟩ := y
      rw [q] at c
      obtain ⟨c, e18⟩ := and2 c
      obtain ⟨c, e17⟩ := and2 c
      obtain ⟨c, e16⟩ := and2 c
      obtain ⟨c, e15⟩ := and2 c
      obtain ⟨c, e14⟩ := and2 c
      obtain ⟨c, e13⟩ := and2 c
      obtain ⟨c, e12⟩ := and2 c
      obtain ⟨c, e11⟩ := and2 c
      obtain ⟨c, e10⟩ := and2 c
      obtain ⟨c, e9⟩ := and2 c
      obtain ⟨c, e8⟩ := and2 c
      obtain ⟨c, e7⟩ := and2 c
      obtain ⟨c, e6⟩ := and2 c
      obtain ⟨c, e5⟩ := and2 c
      obtain ⟨c, e4⟩ := and2 c
      obtain ⟨c, e3⟩ := and2 c
      obtain ⟨e1, e2⟩ := and2 c
      obtain ⟨kk, p, k2, p2, pq, rfl⟩ := yPar_inv q
      obtain rfl := of_decide_eq_true e18
      have va := (okE a F.fit e14).val
      rw [of_decide_eq_true e16] at va
      have vb := (okE b F.fit e15).val
      rw [of_decide_eq_true e17] at vb
      have lx : X.env.scope.names.lookup x = some .local := by rw [F.fit.sc]; exact of_decide_eq_true e4
      have ly : X.env.scope.names.lookup y = some .local := by rw [F.fit.sc]; exact of_decide_eq_true e5
      exact s_par F.st F.fun_ (of_decide_eq_true e1) (of_decide_eq_true e2) (of_decide_eq_true e3) lx ly (of_decide_eq_true e6) (of_decide_eq_true e7) e8 (of_decide_eq_true e9) (of_decide_eq_true e10) (of_decide_eq_true e11) e12 e13 va vb
  | .app i ir mv, s, c => by
    unfold chkS at c
    cases q : yApp s with
    | none => rw [q] at c; cases c
    | some y =>
      obtain ⟨x, e, l⟩ := y
      rw [q] at c
      obtain ⟨c, c9⟩ := and2 c
      obtain ⟨c, c8⟩ := and2 c
      obtain ⟨c, c7⟩ := and2 c
      obtain ⟨c, c6⟩ := and2 c
      obtain ⟨c, c5⟩ := and2 c
      obtain ⟨c, c4⟩ := and2 c
      obtain ⟨c, c3⟩ := and2 c
      obtain ⟨c1, c2⟩ := and2 c
      obtain ⟨p, apos, cpos, pq, rfl, hl⟩ := yApp_inv q
      exact s_app (by rw [F.fit.n]; exact of_decide_eq_true c1) (isVis_of F.fit c2) (nameOk_of c3).1 (nameOk_of c3).2 (of_decide_eq_true c4) (of_decide_eq_true c5) c6 (by rw [← hl]; exact c7) (pe_sub0 (okE ir F.fit c8).val (subL_of c9))
  | .appAt _ _ _ _, s, c => by unfold chkS at c; cases c
  | .setIx i kx ir mv, s, c => by
    unfold chkS at c
    cases q : ySet s with
    | none => rw [q] at c; cases c
    | some y =>
      obtain ⟨x, ek, e⟩ := y
      rw [q] at c
      obtain ⟨c, c10⟩ := and2 c
      obtain ⟨c, c9⟩ := and2 c
      obtain ⟨c, c8⟩ := and2 c
      obtain ⟨c, c7⟩ := and2 c
      obtain ⟨c, c6⟩ := and2 c
      obtain ⟨c, c5⟩ := and2 c
      obtain ⟨c, c4⟩ := and2 c
      obtain ⟨c, c3⟩ := and2 c
      obtain ⟨c1, c2⟩ := and2 c
      obtain ⟨p, p2, pq, rfl⟩ := ySet_inv q
      exact s_setIx c1 (by rw [F.fit.n]; exact of_decide_eq_true c2) (isVis_of F.fit c3) (nameOk_of c4).1 (nameOk_of c4).2 (of_decide_eq_true c5) (of_decide_eq_true c6) c7 (pe_sub0 (okE ir F.fit c8).val (subL_of c10)) (okE kx F.fit c9).con
  | .setIx2 _ _ _ _ _, s, c => by unfold chkS at c; cases c
  | .aug i o ir, s, c => by
    unfold chkS at c
    cases q : yAug s with
    | none => rw [q] at c; cases c
    | some y =>
      obtain ⟨x, op, e⟩ := y
      rw [q] at c
      obtain ⟨c, c6⟩ := and2 c
      obtain ⟨c, c5⟩ := and2 c
      obtain ⟨c, c4⟩ := and2 c
      obtain ⟨c, c3⟩ := and2 c
      obtain ⟨c1, c2⟩ := and2 c
      obtain ⟨p, pq, rfl⟩ := yAug_inv q
      obtain rfl := of_decide_eq_true c5
      exact s_aug F.st (of_decide_eq_true c1) (isLoc_of c2) (of_decide_eq_true c3) (by cases o <;> first | exact .inl rfl | exact .inr rfl | cases c4) (okE ir F.fit c6).con
  | .ite cx a b, s, c => by
    unfold chkS at c
    cases q : yIf s with
    | none => rw [q] at c; cases c
    | some y =>
      obtain ⟨ec, sa, sb⟩ := y
      rw [q] at c
      obtain ⟨c, c3⟩ := and2 c
      obtain ⟨c1, c2⟩ := and2 c
      obtain ⟨pq, rfl⟩ := yIf_inv q
      exact s_ite (okE cx F.fit c1).tst (okSs F a c2) (okSs F b c3)
  | .whl cx b, s, c => by
    unfold chkS at c
    cases q : yWhl s with
    | none => rw [q] at c; cases c
    | some y =>
      obtain ⟨ec, sb⟩ := y
      rw [q] at c
      obtain ⟨c1, c2⟩ := and2 c
      obtain ⟨pq, rfl⟩ := yWhl_inv q
      exact s_whl F.pass (okE cx F.fit c1).tst (okSs F b c2)
  | .for_ hd tg it b, s, c => by
    unfold chkS at c
    cases q : yFor s with
    | none => rw [q] at c; cases c
    | some y =>
      obtain ⟨et, ei, sb⟩ := y
      rw [q] at c
      obtain ⟨c, c8⟩ := and2 c
      obtain ⟨c, c7⟩ := and2 c
      obtain ⟨c, c6⟩ := and2 c
      obtain ⟨c, c5⟩ := and2 c
      obtain ⟨c, c4⟩ := and2 c
      obtain ⟨c, c3⟩ := and2 c
      obtain ⟨c1, c2⟩ := and2 c
      obtain ⟨pq, rfl⟩ := yFor_inv q
      obtain rfl := of_decide_eq_true c1
      have I1 := okI it F.fit c3
      rw [of_decide_eq_true c2] at I1
      refine s_for F.pass F.fit.calm I1 (pg_T F.st tg et c4 c5) (okSs F b c7) (fun kk hk => ?_) (fun e o h => evSs_len b e o h) c6
      rw [List.all_eq_true] at c8
      have := and2 (c8 kk hk)
      exact ⟨of_decide_eq_true this.1, of_decide_eq_true this.2⟩
  | .ret m ir, s, c => by
    unfold chkS at c
    cases q : yRet s with
    | none => rw [q] at c; cases c
    | some e =>
      rw [q] at c
      obtain ⟨c1, c2⟩ := and2 c
      obtain ⟨pq, rfl⟩ := yRet_inv q
      rcases or2 c2 with d | d
      · cases ir with
        | var j =>
          obtain ⟨d1, d⟩ := and2 d
          cases q2 : dName e with
          | none => rw [q2] at d; cases d
          | some y =>
            rw [q2] at d
            obtain ⟨d, d5⟩ := and2 d
            obtain ⟨d, d4⟩ := and2 d
            obtain ⟨d2, d3⟩ := and2 d
            obtain ⟨p3, rfl⟩ := dName_inv q2
            exact s_retV (by rw [F.fit.n]; exact of_decide_eq_true d2) (isVis_of F.fit d3) (nameOk_of d4).1 (nameOk_of d4).2 (of_decide_eq_true d5)
        | _ => cases d
      · obtain ⟨d1, d2⟩ := and2 d
        exact s_ret (okD F.fit d1 d2)
  | .retN, s, c => by
    unfold chkS at c
    obtain ⟨pq, rfl⟩ := yRetN_inv c
    exact s_retN
  | .raise_ _, s, c => by unfold chkS at c; cases c
  | .expr ir, s, c => by
    unfold chkS at c
    cases q : yExpr s with
    | none => rw [q] at c; cases c
    | some e =>
      rw [q] at c
      obtain ⟨c1, c2⟩ := and2 c
      obtain ⟨pq, rfl⟩ := yExpr_inv q
      exact s_expr c1 (okE ir F.fit c2).val
  | .pass, s, c => by
    unfold chkS at c
    obtain ⟨pq, rfl⟩ := yPass_inv c
    exact s_pass
  | .stop, s, c => ⟨fun pins s σ H D I ⟨A, env, fs, ok, r⟩ => False.elim r⟩
theorem okSs (F : FitS X G N sc W C Φ k) : ∀ (ir : Ss) {l : List Stmt}, chkSs G N own n ir sc l = true → PSs X l (tSt X.K W C own n (wrs ir) (evSs Φ ir))
  | .nil, l, c => by
    unfold chkSs at c
    cases l with
    | nil => exact ss_nil
    | cons a l => cases c
  | .cons s ss, l, c => by
    unfold chkSs at c
    cases l with
    | nil => cases c
    | cons a l =>
      obtain ⟨c1, c2⟩ := and2 c
      exact ss_cons (okS F s c1) (okSs F ss c2)
end
end
end Ev
set_option Elab.async false
set_option linter.all false
set_option maxRecDepth 100000
set_option maxHeartbeats 4000000
/-! the defs, all levels -/
namespace Ev
open PySem PySem.Spec PyProof.Rows L2
/-- one def of the module: its text against its form in the language -/
structure FnAt (K : PySem.W.Frag) (mg : Str → Option Value) (G : Gt) (T : Tab) (x : Str) (f : Nat) (ps : List Str) (rt : Nat) (fa : Addr) (fd : FuncData) : Prop where
  ex : ∃ (x' qual : Str) (N : List Str) (st : Stmt) (fn : Fn), mg x = some (.ref fa) ∧ Fun K x' qual st fa fd ∧ (∀ us : List Value, us.length = ps.length → bindArgs fd ⟨us, []⟩ = pure (ps.zip us)) ∧ FnScope N ps (defScope st) ∧
    T.lookup f = some fn ∧ fn.np = ps.length ∧ fn.ret = rt ∧ fn.ns = N.length ∧ fn.own.length = N.length ∧ (∀ i, i < ps.length → fn.own.getD i 0 = 0) ∧ ps.length ≤ N.length ∧ chkSs G N fn.own fn.ret fn.body (defScope st) (defBody st) = true
def FnTxt (K : PySem.W.Frag) (mg : Str → Option Value) (G : Gt) (T : Tab) (x : Str) (f : Nat) (ps : List Str) (rt : Nat) : Prop := ∃ fa fd, FnAt K mg G T x f ps rt fa fd
/-- the module -/
structure MOk (K : PySem.W.Frag) (mg : Str → Option Value) (C : Nat → Value) (G : Gt) (T : Tab) : Prop where
  blt : ∀ x, x ∈ G.blts → mg x = none
  cst : ∀ x d, G.csts.lookup x = some d → ∃ v u, mg x = some u ∧ RelV v u ∧ ∀ H, Rp K H v d
  exc : ∀ x c, G.excs.lookup x = some c → ExcOk K mg x (C c)
  fn : ∀ x f np rt, G.fns.lookup x = some (f, np, rt) → ∃ ps, ps.length = np ∧ FnTxt K mg G T x f ps rt
def AllP {α : Type} (p : α → Prop) : List α → Prop
  | [] => True
  | a :: l => p a ∧ AllP p l
theorem AllP.mem {α : Type} {p : α → Prop} : ∀ {l : List α} {a : α}, AllP p l → a ∈ l → p a
  | [], _, _, h => nomatch h
  | b :: l, a, h, m => by
    rcases List.mem_cons.mp m with rfl | m
    · exact h.1
    · exact h.2.mem m
section
variable {P : Program} {w : World} {K : PySem.W.Frag} {mg : Str → Option Value} {base : Heap} {C : Nat → Value} {G : Gt} {T : Tab} {Fu : Nat}
theorem ok_start {A : Addr → Prop} {H : Hp} {vs : List V} {ds : List D} {N : List Str} {own : List Nat} {ns np : Nat} (hA : ∀ a, A a → H a ≠ none) (r : Rps K (hid A H) vs ds) (hn : ds.length = np) (hN : ns = N.length) (ho : own.length = N.length) (h0 : ∀ i, i < np → own.getD i 0 = 0) (hnp : np ≤ N.length) :
    Ok K A H (L2.start N vs) (ds.map some ++ List.replicate (ns - np) none) own (fun _ => []) := by
  have hl : vs.length = np := by rw [r.length, hn]
  have sl : ∀ i d, (ds.map some ++ List.replicate (ns - np) none)[i]? = some (some d) → ∃ v, (L2.start N vs)[i]? = some (some v) ∧ i < np ∧ Rp K (hid A H) v d := by
    intro i d h
    by_cases hi : i < np
    · rw [List.getElem?_append_left (by rw [List.length_map, hn]; exact hi), List.getElem?_map] at h
      cases q : ds[i]? with
      | none => rw [q] at h; cases h
      | some d' =>
        rw [q] at h
        cases h
        obtain ⟨v, e, rv⟩ := r.get q
        refine ⟨v, ?_, hi, rv⟩
        unfold L2.start
        rw [List.getElem?_append_left (by rw [List.length_map, hl]; exact hi), List.getElem?_map, e]
        rfl
    · rw [List.getElem?_append_right (by rw [List.length_map, hn]; omega)] at h
      rw [List.getElem?_replicate] at h
      split at h <;> cases h
  refine ⟨?_, ?_, fun i d h => ?_, fun _ _ => rfl, fun _ => .nil, fun _ _ _ z => (nomatch z), fun _ _ _ z => (nomatch z), hA⟩
  · unfold L2.start
    rw [List.length_append, List.length_append, List.length_map, List.length_map, List.length_replicate, List.length_replicate, hl, hn, hN]
  · rw [List.length_append, List.length_map, List.length_replicate, hn, hN, ho]
    omega
  · obtain ⟨v, h1, h2, h3⟩ := sl i d h
    refine ⟨v, h1, ?_⟩
    rw [h0 i h2]
    exact .stb (h3.mono (hid_sub fun a z => z.elim id fun ⟨_, z⟩ => nomatch z))
theorem keep_nil {H H' : Hp} (k : Keep (fun _ => []) H H') : Same H H' := fun a o e => k a o (fun _ z => nomatch z) e
theorem pss_F {X : Cx} {l : List Stmt} : PSs X l (fun _ _ _ => False) := ⟨fun _ _ _ _ _ _ z => z.elim⟩
theorem spD_bad {g : List D → R D} (hg : ∀ ds, g ds = .bad) {rt np : Nat} {vs : List V} {H : Hp} {Q : VK} {Ex : XK} : ¬ spD K C rt np g vs H Q Ex := fun ⟨_, _, ds, _, _, z⟩ => by
  rw [hg ds] at z
  exact z
/-- one level up -/
theorem fn_up1 {k f rt : Nat} {x : Str} {ps : List Str} {fa : Addr} {fd : FuncData} (ft : FnAt K mg G T x f ps rt fa fd) (ih : GOk P w K mg base C G ⟨run T Fu k, Fu⟩ k) :
    mg x = some (.ref fa) ∧ PySem.W.keepIn K (.ref fa) = true ∧ (∀ us : List Value, us.length = ps.length → bindArgs fd ⟨us, []⟩ = pure (ps.zip us)) ∧ FnOk P w K mg base (L2.CX P w) (k + 1) fa fd ps (spD K C rt ps.length (run T Fu (k + 1) f)) := by
  obtain ⟨x', qual, N, st, fn, h1, h2, h3, h5, h6, h7, rfl, h9, h10, h11, h12, h13⟩ := ft.ex
  refine ⟨h1, h2.kp, h3, h2.okX h5 (fun vs H Q E z => z.1) fun cdv A outer s H vs Q E hr hsp => ?_⟩
  obtain ⟨hl, A', ds, hA, hR, hD⟩ := hsp
  have F : FitS (cxOf (L2.CX P w) P w K mg base N qual (defScope st) fa cdv A outer s H E) G N (defScope st) (fun cls d _ H => E cls d H) C ⟨run T Fu k, Fu⟩ k := {
    fit := { sc := rfl, n := rfl, nd := h5.nd, calm := rfl, room := hr, tk := takes_of rfl rfl rfl rfl, g := ih }
    st := { n := rfl, nd := h5.nd, calm := rfl, st := fun x h => ⟨h, .inl rfl⟩ }
    pass := passes_of rfl
    fun_ := h5.kind }
  refine ⟨_, okSs F fn.body h13, A', _, _, ok_start hA hR (hR.length.symm.trans (hl.trans h7.symm)) h9 h10 (by rw [h7]; exact h11) (by rw [h7]; exact h12), ?_⟩
  have e : run T Fu (k + 1) f ds = evFn ⟨run T Fu k, Fu⟩ fn ds := by
    show (match T.lookup f with | some fn => evFn ⟨run T Fu k, Fu⟩ fn ds | none => .bad) = _
    rw [h6]
  rw [e] at hD
  unfold evFn at hD
  rw [if_pos (hR.length.symm.trans (hl.trans h7.symm))] at hD
  cases q : evSs ⟨run T Fu k, Fu⟩ fn.body (ds.map some ++ List.replicate (fn.ns - fn.np) none) with
  | ok o =>
    rw [q] at hD
    cases o with
    | next e' => exact fun σ' H' fs' s' ok' _ => hD .non H' [] (fun a o e => s'.keep a o (fun _ z => nomatch z) e) (fun _ z => nomatch z) .nil (.nm rfl .non)
    | ret d => exact fun v H' fp k' hf nd o => hD v H' fp (keep_nil k') (fun a ha => (hf a ha).elim (fun ⟨_, z⟩ => nomatch z) id) nd o
  | exc c => rw [q] at hD; exact fun σ' H' k' => hD H' (keep_nil k')
  | bad => rw [q] at hD; exact hD.elim
theorem fn_up {k f np rt : Nat} {x : Str} (M : MOk K mg C G T) (ih : GOk P w K mg base C G ⟨run T Fu k, Fu⟩ k) (h : G.fns.lookup x = some (f, np, rt)) :
    ∃ fa fd ps, mg x = some (.ref fa) ∧ PySem.W.keepIn K (.ref fa) = true ∧ Binds K fd ps [] ∧ FnOk P w K mg base (L2.CX P w) (k + 1) fa fd ps (spD K C rt np (run T Fu (k + 1) f)) := by
  obtain ⟨ps, rfl, fa, fd, ft⟩ := M.fn x f np rt h
  obtain ⟨h1, h2, h3, h4⟩ := fn_up1 ft ih
  exact ⟨fa, fd, ps, h1, h2, .all h3, h4⟩
/-- every level -/
theorem gok (M : MOk K mg C G T) : ∀ k, GOk P w K mg base C G ⟨run T Fu k, Fu⟩ k
  | 0 => {
    blt := M.blt
    cst := M.cst
    exc := M.exc
    fn := fun x f np rt h => by
      obtain ⟨ps, rfl, fa, fd, ft⟩ := M.fn x f np rt h
      obtain ⟨x', qual, N, st, fn, h1, h2, h3, h5, h6, h7, rfl, h9, h10, h11, h12, h13⟩ := ft.ex
      exact ⟨fa, fd, ps, h1, h2.kp, .all h3, ⟨fun vs H Q E z => absurd z (spD_bad fun _ => rfl), fun A outer s H args us vs Q E hr he hb hv z => absurd z (spD_bad fun _ => rfl)⟩⟩ }
  | k + 1 => {
    blt := M.blt
    cst := M.cst
    exc := M.exc
    fn := fun x f np rt h => fn_up M (gok M k) h }
theorem MOk.of (hb : AllP (fun x => mg x = none) G.blts) (hc : AllP (fun y => ∃ v u, mg y.1 = some u ∧ RelV v u ∧ ∀ H, Rp K H v y.2) G.csts) (he : AllP (fun y => ExcOk K mg y.1 (C y.2)) G.excs)
    (hf : AllP (fun y => ∃ ps, ps.length = y.2.2.1 ∧ FnTxt K mg G T y.1 y.2.1 ps y.2.2.2) G.fns) : MOk K mg C G T where
  blt := fun x h => hb.mem h
  cst := fun x d h => hc.mem (lookup_mem h)
  exc := fun x c h => he.mem (lookup_mem h)
  fn := fun x f np rt h => hf.mem (lookup_mem h)
/-! ### the law -/
def spLaw (n : Nat) (K : PySem.W.Frag) : Sp := fun vs H Q _ => ∃ (a : Addr) (ns : List Int), vs = [.ref a] ∧ SqL K H a (ns.map V.int) ∧ ns.length ≤ n ∧ ∀ v H', v = .bl true → Q v H'
theorem rps_ints {H : Hp} : ∀ ns : List Int, Rps K H (ns.map V.int) (ns.map PyData.int)
  | [] => .nil
  | _ :: ns => .cons (.int _) (rps_ints ns)
theorem law_F {n k fL : Nat} {lname x : Str} {fa : Addr} (hmg : mg lname = some (.ref fa)) (hM : ∃ C, MOk K mg C G T) (hL : FnTxt K mg G T lname fL [x] 0)
    (hrun : ∀ ns : List Int, ns.length ≤ n → run T Fu (k + 1) fL [.list (ns.map .int)] = .ok (.bool true)) :
    ∃ fd : FuncData, (∀ (s : Shared) (u : Value), BindsTo s fd ⟨[u], []⟩ [(x, u)]) ∧ ∀ base : Heap, K.In base → base.Ns mainGlobals mg → FnOk P w K mg base (L2.CX P w) (k + 1) fa fd [x] (spLaw n K) := by
  obtain ⟨C, M⟩ := hM
  obtain ⟨fa', fd, ft⟩ := hL
  obtain ⟨x', qual, N, st, fn, h1, h2, h3, h5⟩ := ft.ex
  refine ⟨fd, fun s u => .of_eq (h3 [u] rfl), fun base _ _ => ?_⟩
  obtain ⟨e1, e2, e3, e4⟩ := fn_up1 (P := P) (w := w) (base := base) (Fu := Fu) ft (gok M k)
  rw [hmg] at e1
  cases e1
  refine e4.imp fun vs H Q E ⟨a, ns, e, hS, hl, q⟩ => ?_
  subst e
  refine ⟨rfl, fun _ => False, [.list (ns.map .int)], fun _ z => z.elim, .cons (.lst (Same.seq (fun b o z => hid_some.mpr ⟨id, z⟩) hS) (rps_ints ns)) .nil, ?_⟩
  rw [hrun ns hl]
  exact fun v H' fp s h1 h2 o => q v H' ((o.zero.1 : Rp _ _ _ _).bl')
end
end Ev
set_option Elab.async false
set_option linter.all false
set_option maxRecDepth 100000
/-! the plain law: words for the evaluator -/
namespace Ev
open PySem
theorem sizeLine_ge : 1000000 ≤ sizeLine := by decide
theorem lt_size {n : Nat} (h : n ≤ 1000000) : n ≤ sizeLine := Nat.le_trans h sizeLine_ge
/-- one statement, then the others -/
def seqO (r : R Out) (k : Env → R Out) : R Out := r >>= fun o => match o with | .next e1 => k e1 | .ret v => pure (.ret v)
/-- what a def answers -/
def outR : R Out → R D
  | .ok (.ret d) => .ok d
  | .ok (.next _) => .ok .none
  | .exc c => .exc c
  | .bad => .bad
theorem asI_i : ∀ i : Int, asI (.int i) = .ok i := fun _ => rfl
theorem asB_b : ∀ b : Bool, asB (.bool b) = .ok b := fun _ => rfl
theorem asL_l : ∀ l : List D, asL (.list l) = .ok l := fun _ => rfl
theorem asL_t : ∀ l : List D, asL (.tuple l) = .ok l := fun _ => rfl
theorem asLst_l : ∀ l : List D, asLst (.list l) = .ok l := fun _ => rfl
theorem dIs_int_none : dIs .int PyData.none = false := rfl
theorem dIs_int_bool : ∀ x, dIs .int (PyData.bool x) = true := fun _ => rfl
theorem dIs_int_int : ∀ x, dIs .int (PyData.int x) = true := fun _ => rfl
theorem dIs_int_str : ∀ x, dIs .int (PyData.str x) = false := fun _ => rfl
theorem dIs_int_list : ∀ x, dIs .int (PyData.list x) = false := fun _ => rfl
theorem dIs_int_tuple : ∀ x, dIs .int (PyData.tuple x) = false := fun _ => rfl
theorem dIs_int_dict : ∀ x, dIs .int (PyData.dict x) = false := fun _ => rfl
theorem dIs_bool_none : dIs .bool PyData.none = false := rfl
theorem dIs_bool_bool : ∀ x, dIs .bool (PyData.bool x) = true := fun _ => rfl
theorem dIs_bool_int : ∀ x, dIs .bool (PyData.int x) = false := fun _ => rfl
theorem dIs_bool_str : ∀ x, dIs .bool (PyData.str x) = false := fun _ => rfl
theorem dIs_bool_list : ∀ x, dIs .bool (PyData.list x) = false := fun _ => rfl
theorem dIs_bool_tuple : ∀ x, dIs .bool (PyData.tuple x) = false := fun _ => rfl
theorem dIs_bool_dict : ∀ x, dIs .bool (PyData.dict x) = false := fun _ => rfl
theorem dIs_str_none : dIs .str PyData.none = false := rfl
theorem dIs_str_bool : ∀ x, dIs .str (PyData.bool x) = false := fun _ => rfl
theorem dIs_str_int : ∀ x, dIs .str (PyData.int x) = false := fun _ => rfl
theorem dIs_str_str : ∀ x, dIs .str (PyData.str x) = true := fun _ => rfl
theorem dIs_str_list : ∀ x, dIs .str (PyData.list x) = false := fun _ => rfl
theorem dIs_str_tuple : ∀ x, dIs .str (PyData.tuple x) = false := fun _ => rfl
theorem dIs_str_dict : ∀ x, dIs .str (PyData.dict x) = false := fun _ => rfl
theorem dIs_tuple_none : dIs .tuple PyData.none = false := rfl
theorem dIs_tuple_bool : ∀ x, dIs .tuple (PyData.bool x) = false := fun _ => rfl
theorem dIs_tuple_int : ∀ x, dIs .tuple (PyData.int x) = false := fun _ => rfl
theorem dIs_tuple_str : ∀ x, dIs .tuple (PyData.str x) = false := fun _ => rfl
theorem dIs_tuple_list : ∀ x, dIs .tuple (PyData.list x) = false := fun _ => rfl
theorem dIs_tuple_tuple : ∀ x, dIs .tuple (PyData.tuple x) = true := fun _ => rfl
theorem dIs_tuple_dict : ∀ x, dIs .tuple (PyData.dict x) = false := fun _ => rfl
theorem dIs_list_none : dIs .list PyData.none = false := rfl
theorem dIs_list_bool : ∀ x, dIs .list (PyData.bool x) = false := fun _ => rfl
theorem dIs_list_int : ∀ x, dIs .list (PyData.int x) = false := fun _ => rfl
theorem dIs_list_str : ∀ x, dIs .list (PyData.str x) = false := fun _ => rfl
theorem dIs_list_list : ∀ x, dIs .list (PyData.list x) = true := fun _ => rfl
theorem dIs_list_tuple : ∀ x, dIs .list (PyData.tuple x) = false := fun _ => rfl
theorem dIs_list_dict : ∀ x, dIs .list (PyData.dict x) = false := fun _ => rfl
theorem ad_i : ∀ a b : Int, dBin .add (.int a) (.int b) = .ok (.int (a + b)) := fun _ _ => rfl
theorem ad_l : ∀ a b : List D, dBin .add (.list a) (.list b) = if a.length + b.length ≤ sizeLine then .ok (.list (a ++ b)) else .bad := fun _ _ => rfl
theorem ad_t : ∀ a b : List D, dBin .add (.tuple a) (.tuple b) = if a.length + b.length ≤ sizeLine then .ok (.tuple (a ++ b)) else .bad := fun _ _ => rfl
theorem ad_s : ∀ a b : Str, dBin .add (.str a) (.str b) = if a.length + b.length ≤ sizeLine then .ok (.str (a ++ b)) else .bad := fun _ _ => rfl
theorem sb_i : ∀ a b : Int, dBin .sub (.int a) (.int b) = .ok (.int (a - b)) := fun _ _ => rfl
theorem mu_i : ∀ a b : Int, dBin .mul (.int a) (.int b) = if mulOk a b then .ok (.int (a * b)) else .bad := fun _ _ => rfl
theorem fd_i : ∀ a b : Int, dBin .fdiv (.int a) (.int b) = if 0 < b ∧ b.natAbs.log2 < 9000 then .ok (.int (a / b)) else .bad := fun _ _ => rfl
theorem md_i : ∀ a b : Int, dBin .mod (.int a) (.int b) = if 0 < b then .ok (.int (a % b)) else .bad := fun _ _ => rfl
theorem pw_i : ∀ a b : Int, dBin .pow (.int a) (.int b) = if 0 ≤ b ∧ b ≤ 1000000 ∧ a.natAbs < 2 ^ 64 then .ok (.int (a ^ b.toNat)) else .bad := fun _ _ => rfl
theorem c_lt : ∀ a b : Int, dCmp .lt (.int a) (.int b) = .ok (.bool (decide (a < b))) := fun _ _ => rfl
theorem c_le : ∀ a b : Int, dCmp .le (.int a) (.int b) = .ok (.bool (decide (a ≤ b))) := fun _ _ => rfl
theorem c_gt : ∀ a b : Int, dCmp .gt (.int a) (.int b) = .ok (.bool (decide (b < a))) := fun _ _ => rfl
theorem c_ge : ∀ a b : Int, dCmp .ge (.int a) (.int b) = .ok (.bool (decide (b ≤ a))) := fun _ _ => rfl
theorem c_eq : ∀ x y : D, dCmp .eq x y = if SeqAt.shaped x && SeqAt.shaped y then .ok (.bool (PyData.eqv x y)) else .bad := fun x y => by cases x <;> cases y <;> rfl
theorem c_ne : ∀ x y : D, dCmp .ne x y = if SeqAt.shaped x && SeqAt.shaped y then .ok (.bool (!PyData.eqv x y)) else .bad := fun x y => by cases x <;> cases y <;> rfl
theorem c_isN : ∀ x : D, dCmp .is_ x .none = .ok (.bool (isNone x)) := fun x => by cases x <;> rfl
theorem c_inN : ∀ x : D, dCmp .isnot x .none = .ok (.bool (!isNone x)) := fun x => by cases x <;> rfl
theorem c_isB : ∀ a b : Bool, dCmp .is_ (.bool a) (.bool b) = .ok (.bool (decide (a = b))) := fun _ _ => rfl
theorem c_inB : ∀ a b : Bool, dCmp .isnot (.bool a) (.bool b) = .ok (.bool (!decide (a = b))) := fun _ _ => rfl
theorem c_in : ∀ x y : D, dCmp .in_ x y = (dIn x y >>= fun b => R.ok (.bool b)) := fun x y => by cases x <;> cases y <;> rfl
theorem c_ni : ∀ x y : D, dCmp .notin x y = (dIn x y >>= fun b => R.ok (.bool (!b))) := fun x y => by cases x <;> cases y <;> rfl
theorem b_len_l : ∀ l : List D, dB1 .len (.list l) = .ok (.int l.length) := fun _ => rfl
theorem b_len_t : ∀ l : List D, dB1 .len (.tuple l) = .ok (.int l.length) := fun _ => rfl
theorem b_len_s : ∀ s : Str, dB1 .len (.str s) = if s.length ≤ sizeLine then .ok (.int s.length) else .bad := fun _ => rfl
theorem b_int_i : ∀ i : Int, dB1 .int (.int i) = .ok (.int i) := fun _ => rfl
theorem b_int_b : ∀ b : Bool, dB1 .int (.bool b) = .ok (.int (if b then 1 else 0)) := fun _ => rfl
theorem b_tup_l : ∀ l : List D, dB1 .tuple (.list l) = .ok (.tuple l) := fun _ => rfl
theorem b_tup_t : ∀ l : List D, dB1 .tuple (.tuple l) = .ok (.tuple l) := fun _ => rfl
theorem b_lst_l : ∀ l : List D, dB1 .list (.list l) = .ok (.list l) := fun _ => rfl
theorem b_lst_t : ∀ l : List D, dB1 .list (.tuple l) = .ok (.list l) := fun _ => rfl
theorem b_abs : ∀ i : Int, dB1 .abs (.int i) = .ok (.int (if i < 0 then -i else i)) := fun _ => rfl
theorem b2_max : ∀ a b : Int, dB2 .max (.int a) (.int b) = .ok (.int (if b > a then b else a)) := fun _ _ => rfl
theorem b2_min : ∀ a b : Int, dB2 .min (.int a) (.int b) = .ok (.int (if b < a then b else a)) := fun _ _ => rfl
theorem ix_l : ∀ (l : List D) (i : Int), dIx (.list l) (.int i) = ofO (L2.atI l i) := fun _ _ => rfl
theorem ix_t : ∀ (l : List D) (i : Int), dIx (.tuple l) (.int i) = ofO (L2.atI l i) := fun _ _ => rfl
theorem sl_l : ∀ (l : List D) (a b : Option Int), dSlice (.list l) a b = .ok (.list (cut l a b)) := fun _ _ _ => rfl
theorem sl_t : ∀ (l : List D) (a b : Option Int), dSlice (.tuple l) a b = .ok (.tuple (cut l a b)) := fun _ _ _ => rfl
theorem rv_l : ∀ l : List D, dRev (.list l) = .ok (.list l.reverse) := fun _ => rfl
theorem rv_t : ∀ l : List D, dRev (.tuple l) = .ok (.tuple l.reverse) := fun _ => rfl
theorem getS_z : ∀ (d : D) (e : Env), getS (some d :: e) 0 = .ok d := fun _ _ => rfl
theorem getS_s : ∀ (o : Option D) (e : Env) (i : Nat), getS (o :: e) (i + 1) = getS e i := fun _ _ _ => rfl
theorem ne_ok : ∀ (α : Type) (a : α), noexc (R.ok a) = .ok a := fun _ _ => rfl
theorem seq_n : ∀ (e : Env) (k : Env → R Out), seqO (.ok (.next e)) k = k e := fun _ _ => rfl
theorem seq_r : ∀ (d : D) (k : Env → R Out), seqO (.ok (.ret d)) k = .ok (.ret d) := fun _ _ => rfl
theorem evSs_n : ∀ (Φ : Cfg) (env : Env), evSs Φ .nil env = .ok (.next env) := fun _ _ => rfl
theorem evSs_c : ∀ (Φ : Cfg) (s : S) (ss : Ss) (env : Env), evSs Φ (.cons s ss) env = seqO (evS Φ s env) (evSs Φ ss) := fun _ _ _ _ => rfl
theorem outR_r : ∀ d : D, outR (.ok (.ret d)) = .ok d := fun _ => rfl
theorem outR_n : ∀ e : Env, outR (.ok (.next e)) = .ok .none := fun _ => rfl
theorem bT_n : ∀ (i : Nat) (d : D) (e : Env), bindT (.name i) d e = .ok (e.set i (some d)) := fun _ _ _ => rfl
theorem bT_t : ∀ (ts : Ts) (d : D) (e : Env), bindT (.tup ts) d e = (asL d >>= fun l => bindTs ts l e) := fun _ _ _ => rfl
theorem bTs_n : ∀ (e : Env), bindTs .nil [] e = .ok e := fun _ => rfl
theorem bTs_c : ∀ (t : T) (ts : Ts) (d : D) (ds : List D) (e : Env), bindTs (.cons t ts) (d :: ds) e = (bindT t d e >>= fun e1 => bindTs ts ds e1) := fun _ _ _ _ _ => rfl
theorem asS : ∀ (Φ : Cfg) (m i : Nat) (e : E) (mv : List Nat) (env : Env), evS Φ (.asg m i e mv) env = (evE Φ e env >>= fun d => R.ok (.next ((clr mv env).set i (some d)))) := fun _ _ _ _ _ _ => rfl
/-- a turn of a loop -/
def stepF (Φ : Cfg) (tg : T) (b : Ss) : D → Env → R Out := fun d e => bindT tg d e >>= evSs Φ b
/-- a turn of a comprehension -/
def turnC (Φ : Cfg) (own : List Nat) (el : E) (tg : T) (cond : OE) (env : Env) : D → R (Option D) := fun d => bindT tg d (clr own env) >>= fun e1 => evC Φ cond e1 >>= fun t => if t then evE Φ el e1 >>= fun y => R.ok (some y) else R.ok none
def testF (Φ : Cfg) (c : E) : Env → R Bool := fun e => evE Φ c e >>= asB
def afterF (hd : List Nat) (env : Env) (r : R Out) : R Out := r >>= fun o => match o with | .next e1 => R.ok (.next (unhide hd env e1)) | .ret v => R.ok (.ret v)
def mkTup (ds : List D) : R D := if ds.length ≤ sizeLine then .ok (.tuple ds) else .bad
def lmulK (ds : List D) (r : R D) : R D := if ds.length ≤ sizeLine then r >>= fun x => asI x >>= fun i => if small63 i = true ∧ ds.length * i.toNat ≤ sizeLine then R.ok (.list (repL i.toNat ds)) else .bad else .bad
def zipR (x y : D) : R (List D) := match x, y with
  | .list l, .list m => pure (zipD l m)
  | .tuple l, .tuple m => pure (zipD l m)
  | _, _ => .bad
theorem vE_var : ∀ (Φ : Cfg) (i : Nat) (env : Env), evE Φ (.var i) env = getS env i := fun _ _ _ => rfl
theorem vE_int : ∀ (Φ : Cfg) (i : Int) (env : Env), evE Φ (.int i) env = .ok (.int i) := fun _ _ _ => rfl
theorem vE_bl : ∀ (Φ : Cfg) (i : Bool) (env : Env), evE Φ (.bl i) env = .ok (.bool i) := fun _ _ _ => rfl
theorem vE_non : ∀ (Φ : Cfg) (env : Env), evE Φ .non env = .ok .none := fun _ _ => rfl
theorem vE_str : ∀ (Φ : Cfg) (i : Str) (env : Env), evE Φ (.str i) env = .ok (.str i) := fun _ _ _ => rfl
theorem vE_cst : ∀ (Φ : Cfg) (i : D) (env : Env), evE Φ (.cst i) env = .ok i := fun _ _ _ => rfl
theorem vE_bin : ∀ (Φ : Cfg) (o : BOp) (a b : E) (env : Env), evE Φ (.bin o a b) env = (evE Φ a env >>= fun x => evE Φ b env >>= fun y => dBin o x y) := fun _ _ _ _ _ => rfl
theorem vE_cmp : ∀ (Φ : Cfg) (o : COp) (a b : E) (env : Env), evE Φ (.cmp o a b) env = (evE Φ a env >>= fun x => evE Φ b env >>= fun y => dCmp o x y) := fun _ _ _ _ _ => rfl
theorem vE_chain : ∀ (Φ : Cfg) (o o2 : COp) (a b c : E) (env : Env), evE Φ (.chain o o2 a b c) env = (evE Φ a env >>= fun x => evE Φ b env >>= fun y => dCmp o x y >>= fun r => asB r >>= fun t => if t then evE Φ c env >>= fun z => dCmp o2 y z else R.ok (.bool false)) := fun _ _ _ _ _ _ _ => rfl
theorem vE_and : ∀ (Φ : Cfg) (a b : E) (env : Env), evE Φ (.and a b) env = (evE Φ a env >>= fun x => asB x >>= fun t => if t then evE Φ b env >>= fun y => asB y >>= fun u => R.ok (.bool u) else R.ok (.bool false)) := fun _ _ _ _ => rfl
theorem vE_or : ∀ (Φ : Cfg) (a b : E) (env : Env), evE Φ (.or a b) env = (evE Φ a env >>= fun x => asB x >>= fun t => if t then R.ok (.bool true) else evE Φ b env >>= fun y => asB y >>= fun u => R.ok (.bool u)) := fun _ _ _ _ => rfl
theorem vE_not : ∀ (Φ : Cfg) (a : E) (env : Env), evE Φ (.not a) env = (evE Φ a env >>= fun x => asB x >>= fun t => R.ok (.bool (!t))) := fun _ _ _ => rfl
theorem vE_neg : ∀ (Φ : Cfg) (a : E) (env : Env), evE Φ (.neg a) env = (evE Φ a env >>= fun x => asI x >>= fun t => R.ok (.int (-t))) := fun _ _ _ => rfl
theorem vE_ite : ∀ (Φ : Cfg) (c a b : E) (env : Env), evE Φ (.ite c a b) env = (evE Φ c env >>= fun x => asB x >>= fun t => if t then evE Φ a env else evE Φ b env) := fun _ _ _ _ _ => rfl
theorem vE_isi : ∀ (Φ : Cfg) (t : Ty) (a : E) (env : Env), evE Φ (.isi t a) env = (evE Φ a env >>= fun x => R.ok (.bool (dIs t x))) := fun _ _ _ _ => rfl
theorem vE_tup : ∀ (Φ : Cfg) (es : Es) (env : Env), evE Φ (.tup es) env = (evEs Φ es env >>= mkTup) := fun _ _ _ => rfl
theorem vE_lst : ∀ (Φ : Cfg) (es : Es) (env : Env), evE Φ (.lst es) env = (evEs Φ es env >>= sized) := fun _ _ _ => rfl
theorem vE_lmul : ∀ (Φ : Cfg) (es : Es) (a : E) (env : Env), evE Φ (.lmul es a) env = (evEs Φ es env >>= fun ds => lmulK ds (evE Φ a env)) := fun _ _ _ _ => rfl
theorem vE_ix : ∀ (Φ : Cfg) (a b : E) (env : Env), evE Φ (.ix a b) env = (evE Φ a env >>= fun x => evE Φ b env >>= fun y => dIx x y) := fun _ _ _ _ => rfl
theorem vE_slice : ∀ (Φ : Cfg) (a : E) (lo hi : OE) (env : Env), evE Φ (.slice a lo hi) env = (evE Φ a env >>= fun x => evO Φ lo env >>= fun l => evO Φ hi env >>= fun h => dSlice x l h) := fun _ _ _ _ _ => rfl
theorem vE_rev : ∀ (Φ : Cfg) (a : E) (env : Env), evE Φ (.rev a) env = (evE Φ a env >>= dRev) := fun _ _ _ => rfl
theorem vE_b1 : ∀ (Φ : Cfg) (f : B1) (a : E) (env : Env), evE Φ (.b1 f a) env = (evE Φ a env >>= dB1 f) := fun _ _ _ _ => rfl
theorem vE_b2 : ∀ (Φ : Cfg) (f : B2) (a b : E) (env : Env), evE Φ (.b2 f a b) env = (evE Φ a env >>= fun x => evE Φ b env >>= fun y => dB2 f x y) := fun _ _ _ _ _ => rfl
theorem vE_dm : ∀ (Φ : Cfg) (a b : E) (env : Env), evE Φ (.divmod a b) env = (evE Φ a env >>= fun x => evE Φ b env >>= fun y => asI x >>= fun i => asI y >>= fun j => if 0 < j ∧ small30 j = true then R.ok (.tuple [.int (i / j), .int (i % j)]) else .bad) := fun _ _ _ _ => rfl
theorem vE_call : ∀ (Φ : Cfg) (f : Nat) (es : Es) (env : Env), evE Φ (.call f es) env = (evEs Φ es env >>= Φ.call f) := fun _ _ _ _ => rfl
theorem vE_call0 : ∀ (Φ : Cfg) (f : Nat) (env : Env), evE Φ (.call0 f) env = noexc (Φ.call f []) := fun _ _ _ => rfl
theorem vE_comp : ∀ (Φ : Cfg) (own : List Nat) (el : E) (tg : T) (it : I) (cond : OE) (env : Env), evE Φ (.comp own el tg it cond) env = (evI Φ it env >>= fun ds => compL (turnC Φ own el tg cond env) ds >>= sized) := fun _ _ _ _ _ _ _ => rfl
theorem vEs_n : ∀ (Φ : Cfg) (env : Env), evEs Φ .nil env = .ok [] := fun _ _ => rfl
theorem vEs_c : ∀ (Φ : Cfg) (e : E) (es : Es) (env : Env), evEs Φ (.cons e es) env = (evE Φ e env >>= fun d => evEs Φ es env >>= fun ds => R.ok (d :: ds)) := fun _ _ _ _ => rfl
theorem vO_n : ∀ (Φ : Cfg) (env : Env), evO Φ .none env = .ok none := fun _ _ => rfl
theorem vO_s : ∀ (Φ : Cfg) (e : E) (env : Env), evO Φ (.some e) env = (evE Φ e env >>= fun d => asI d >>= fun i => R.ok (some i)) := fun _ _ _ => rfl
theorem vC_n : ∀ (Φ : Cfg) (env : Env), evC Φ .none env = .ok true := fun _ _ => rfl
theorem vC_s : ∀ (Φ : Cfg) (e : E) (env : Env), evC Φ (.some e) env = (evE Φ e env >>= asB) := fun _ _ _ => rfl
theorem vI_1 : ∀ (Φ : Cfg) (a : E) (env : Env), evI Φ (.rng1 a) env = (evE Φ a env >>= fun x => asI x >>= fun i => if small62 i then R.ok (rng 0 i.toNat 1) else .bad) := fun _ _ _ => rfl
theorem vI_2 : ∀ (Φ : Cfg) (a b : E) (env : Env), evI Φ (.rng2 a b) env = (evE Φ a env >>= fun x => evE Φ b env >>= fun y => asI x >>= fun i => asI y >>= fun j => if small62 i && small62 j then R.ok (rng i (j - i).toNat 1) else .bad) := fun _ _ _ _ => rfl
theorem vI_3 : ∀ (Φ : Cfg) (a b c : E) (env : Env), evI Φ (.rng3 a b c) env = (evE Φ a env >>= fun x => evE Φ b env >>= fun y => evE Φ c env >>= fun z => asI x >>= fun i => asI y >>= fun j => asI z >>= fun k => if stepOk k = true ∧ small62 i = true ∧ small62 j = true then R.ok (rng i (stepN i j k) k) else .bad) := fun _ _ _ _ _ => rfl
theorem vI_s : ∀ (Φ : Cfg) (a : E) (env : Env), evI Φ (.seq a) env = (evE Φ a env >>= asL) := fun _ _ _ => rfl
theorem vI_z : ∀ (Φ : Cfg) (a b : E) (env : Env), evI Φ (.zip a b) env = (evE Φ a env >>= fun x => evE Φ b env >>= fun y => zipR x y) := fun _ _ _ _ => rfl
theorem vI_e : ∀ (Φ : Cfg) (a : E) (env : Env), evI Φ (.enum a) env = (evE Φ a env >>= fun x => asLst x >>= fun l => R.ok (enumD 0 l)) := fun _ _ _ => rfl
theorem zR_l : ∀ (a b : List D), zipR (.list a) (.list b) = .ok (zipD a b) := fun _ _ => rfl
theorem zR_t : ∀ (a b : List D), zipR (.tuple a) (.tuple b) = .ok (zipD a b) := fun _ _ => rfl
theorem vS_asgT : ∀ (Φ : Cfg) (ts : Ts) (e : E) (mv : List Nat) (env : Env), evS Φ (.asgT ts e mv) env = (evE Φ e env >>= fun d => asL d >>= fun l => bindTs ts l (clr mv env) >>= fun e1 => R.ok (.next e1)) := fun _ _ _ _ _ => rfl
theorem vS_par : ∀ (Φ : Cfg) (i j : Nat) (a b : E) (mv : List Nat) (env : Env), evS Φ (.par i j a b mv) env = (evE Φ a env >>= fun x => evE Φ b env >>= fun y => R.ok (.next (((clr mv env).set i (some x)).set j (some y)))) := fun _ _ _ _ _ _ _ => rfl
theorem vS_app : ∀ (Φ : Cfg) (i : Nat) (e : E) (mv : List Nat) (env : Env), evS Φ (.app i e mv) env = (getS env i >>= fun x => asLst x >>= fun l => evE Φ e env >>= fun d => sizedApp l d >>= fun y => R.ok (.next ((clr mv env).set i (some y)))) := fun _ _ _ _ _ => rfl
theorem vS_setIx : ∀ (Φ : Cfg) (i : Nat) (k e : E) (mv : List Nat) (env : Env), evS Φ (.setIx i k e mv) env = (evE Φ e env >>= fun d => getS env i >>= fun x => asLst x >>= fun l => evE Φ k env >>= fun kk => asI kk >>= fun k0 => setAt l k0 d >>= fun l2 => R.ok (.next ((clr mv env).set i (some (.list l2))))) := fun _ _ _ _ _ _ => rfl
theorem vS_aug : ∀ (Φ : Cfg) (i : Nat) (o : BOp) (e : E) (env : Env), evS Φ (.aug i o e) env = (getS env i >>= fun x => evE Φ e env >>= fun y => asI x >>= fun a => asI y >>= fun b => augR o a b >>= fun z => R.ok (.next (env.set i (some (.int z))))) := fun _ _ _ _ _ => rfl
theorem vS_ite : ∀ (Φ : Cfg) (c : E) (a b : Ss) (env : Env), evS Φ (.ite c a b) env = (evE Φ c env >>= fun d => asB d >>= fun t => if t then evSs Φ a env else evSs Φ b env) := fun _ _ _ _ _ => rfl
theorem vS_whl : ∀ (Φ : Cfg) (c : E) (b : Ss) (env : Env), evS Φ (.whl c b) env = whlL (testF Φ c) (evSs Φ b) Φ.fuel env := fun _ _ _ _ => rfl
theorem vS_for : ∀ (Φ : Cfg) (hd : List Nat) (tg : T) (it : I) (b : Ss) (env : Env), evS Φ (.for_ hd tg it b) env = (evI Φ it env >>= fun ds => afterF hd env (forL (stepF Φ tg b) ds (clr hd env))) := fun _ _ _ _ _ _ => rfl
theorem vS_ret : ∀ (Φ : Cfg) (n : Nat) (e : E) (env : Env), evS Φ (.ret n e) env = (evE Φ e env >>= fun d => R.ok (.ret d)) := fun _ _ _ _ => rfl
theorem vS_retN : ∀ (Φ : Cfg) (env : Env), evS Φ .retN env = .ok (.ret .none) := fun _ _ => rfl
theorem vS_expr : ∀ (Φ : Cfg) (e : E) (env : Env), evS Φ (.expr e) env = (evE Φ e env >>= fun _ => R.ok (.next env)) := fun _ _ _ => rfl
theorem vS_pass : ∀ (Φ : Cfg) (env : Env), evS Φ .pass env = .ok (.next env) := fun _ _ => rfl
theorem aF_n : ∀ (hd : List Nat) (env e : Env), afterF hd env (.ok (.next e)) = .ok (.next (unhide hd env e)) := fun _ _ _ => rfl
theorem aF_r : ∀ (hd : List Nat) (env : Env) (d : D), afterF hd env (.ok (.ret d)) = .ok (.ret d) := fun _ _ _ => rfl
theorem uh_n : ∀ (old e : Env), unhide [] old e = e := fun _ _ => rfl
theorem uh_c : ∀ (i : Nat) (hd : List Nat) (old e : Env), unhide (i :: hd) old e = (unhide hd old e).set i (old.getD i none) := fun _ _ _ _ => rfl
theorem ag_a : ∀ a b : Int, augR .add a b = .ok (a + b) := fun _ _ => rfl
theorem ag_s : ∀ a b : Int, augR .sub a b = .ok (a - b) := fun _ _ => rfl
theorem cl_n : ∀ e : Env, clr [] e = e := fun _ => rfl
theorem cl_c : ∀ (i : Nat) (r : List Nat) (e : Env), clr (i :: r) e = (clr r e).set i none := fun _ _ _ => rfl
theorem stepF_eq (Φ : Cfg) (tg : T) (b : Ss) (d : D) (e : Env) : stepF Φ tg b d e = (bindT tg d e >>= evSs Φ b) := rfl
theorem turnC_eq (Φ : Cfg) (own : List Nat) (el : E) (tg : T) (cond : OE) (env : Env) (d : D) : turnC Φ own el tg cond env d = (bindT tg d (clr own env) >>= fun e1 => evC Φ cond e1 >>= fun t => if t then evE Φ el e1 >>= fun y => R.ok (some y) else R.ok none) := rfl
theorem testF_eq (Φ : Cfg) (c : E) (e : Env) : testF Φ c e = (evE Φ c e >>= asB) := rfl
theorem forL_nil (f : D → Env → R Out) (e : Env) : forL f [] e = .ok (.next e) := rfl
theorem forL_cons (f : D → Env → R Out) (d : D) (r : List D) (e : Env) : forL f (d :: r) e = seqO (f d e) (forL f r) := rfl
theorem mkTup_ok {l : List D} (h : l.length ≤ sizeLine) : mkTup l = .ok (.tuple l) := by unfold mkTup; rw [if_pos h]
theorem eqv_i (a b : Int) : PyData.eqv (.int a) (.int b) = decide (a = b) := by
  rw [show PyData.eqv (.int a) (.int b) = (a == b) from rfl]
  by_cases h : a = b
  · rw [decide_eq_true h, h]; simp
  · rw [decide_eq_false h]; simpa using h
theorem c_eq_i (a b : Int) : dCmp .eq (.int a) (.int b) = .ok (.bool (decide (a = b))) := by rw [c_eq, eqv_i]; rfl
theorem c_ne_i (a b : Int) : dCmp .ne (.int a) (.int b) = .ok (.bool (!decide (a = b))) := by rw [c_ne, eqv_i]; rfl
theorem c_eq_b (a b : Bool) : dCmp .eq (.bool a) (.bool b) = .ok (.bool (a == b)) := by cases a <;> cases b <;> rfl
theorem c_ne_b (a b : Bool) : dCmp .ne (.bool a) (.bool b) = .ok (.bool (!(a == b))) := by cases a <;> cases b <;> rfl
theorem pw_10_6 : dBin .pow (.int 10) (.int 6) = .ok (.int 1000000) := by rw [pw_i, if_pos (by decide)]; rfl
theorem pw_10_9 : dBin .pow (.int 10) (.int 9) = .ok (.int 1000000000) := by rw [pw_i, if_pos (by decide)]; rfl
theorem pw_10_12 : dBin .pow (.int 10) (.int 12) = .ok (.int 1000000000000) := by rw [pw_i, if_pos (by decide)]; rfl
theorem pw_10_18 : dBin .pow (.int 10) (.int 18) = .ok (.int 1000000000000000000) := by rw [pw_i, if_pos (by decide)]; rfl
theorem pw_10_59 : dBin .pow (.int 10) (.int 59) = .ok (.int 100000000000000000000000000000000000000000000000000000000000) := by rw [pw_i, if_pos (by decide)]; rfl
theorem pw_10_60 : dBin .pow (.int 10) (.int 60) = .ok (.int 1000000000000000000000000000000000000000000000000000000000000) := by rw [pw_i, if_pos (by decide)]; rfl
theorem run_eq {T : Tab} {N k f : Nat} {ds : List D} {fn : Fn} (h : T.lookup f = some fn) (hl : ds.length = fn.np) : run T N (k + 1) f ds = outR (evSs ⟨run T N k, N⟩ fn.body (ds.map some ++ List.replicate (fn.ns - fn.np) none)) := by
  show (match T.lookup f with | some fn => evFn ⟨run T N k, N⟩ fn ds | none => .bad) = _
  rw [h]
  show evFn _ fn ds = _
  unfold evFn
  rw [if_pos hl]
  cases evSs ⟨run T N k, N⟩ fn.body (ds.map some ++ List.replicate (fn.ns - fn.np) none) with
  | ok o => cases o <;> rfl
  | exc c => rfl
  | bad => rfl
/-- a comprehension by a function of its items -/
theorem compL_map {f : D → R (Option D)} {g : D → D} : ∀ {l : List D}, (∀ d ∈ l, f d = .ok (some (g d))) → compL f l = .ok (l.map g)
  | [], _ => rfl
  | d :: l, h => by
    unfold compL
    rw [h d List.mem_cons_self, compL_map fun x hx => h x (List.mem_cons_of_mem _ hx)]
    rfl
theorem compL_filterMap {f : D → R (Option D)} {g : D → Option D} : ∀ {l : List D}, (∀ d ∈ l, f d = .ok (g d)) → compL f l = .ok (l.filterMap g)
  | [], _ => rfl
  | d :: l, h => by
    unfold compL
    rw [h d List.mem_cons_self, compL_filterMap fun x hx => h x (List.mem_cons_of_mem _ hx), List.filterMap_cons]
    cases g d <;> rfl
theorem sized_ok {l : List D} (h : l.length ≤ sizeLine) : sized l = .ok (.list l) := by unfold sized; rw [if_pos h]
theorem mapR_map {α β : Type} {f : α → R β} {g : α → β} : ∀ {l : List α}, (∀ d ∈ l, f d = .ok (g d)) → mapR f l = .ok (l.map g)
  | [], _ => rfl
  | d :: l, h => by
    unfold mapR
    rw [h d List.mem_cons_self, mapR_map fun x hx => h x (List.mem_cons_of_mem _ hx)]
    rfl
/-- all([..]) of truths -/
theorem all_bools (l : List D) (p : D → Bool) : dB1 .all (.list (l.map fun d => PyData.bool (p d))) = .ok (.bool (l.all p)) := by
  show (mapR asB (l.map fun d => PyData.bool (p d)) >>= fun bs => R.ok (PyData.bool (bs.all id))) = _
  have e : mapR asB (l.map fun d => PyData.bool (p d)) = .ok (l.map p) := by
    induction l with
    | nil => rfl
    | cons a l ih =>
      show (R.ok (p a) >>= fun y => mapR asB (l.map fun d => PyData.bool (p d)) >>= fun ys => R.ok (y :: ys)) = _
      rw [ih]
      rfl
  rw [e]
  show R.ok (PyData.bool ((l.map p).all id)) = _
  rw [List.all_map]
  rfl
/-- a loop over a state: no way out but its end -/
theorem forL_fold {σ : Type} {f : D → Env → R Out} {mk : σ → Env} {g : σ → D → σ} : ∀ {l : List D} {s : σ}, (∀ d ∈ l, ∀ s, f d (mk s) = .ok (.next (mk (g s d)))) → forL f l (mk s) = .ok (.next (mk (l.foldl g s)))
  | [], s, _ => rfl
  | d :: l, s, h => by
    unfold forL
    rw [h d List.mem_cons_self s]
    exact forL_fold fun x hx => h x (List.mem_cons_of_mem _ hx)
/-- a loop by an invariant -/
theorem forL_inv {f : D → Env → R Out} {Inv : Nat → Env → Prop} {P : D → Prop} : ∀ {l : List D} {e : Env} {j : Nat},
    (∀ i d e, l[i]? = some d → Inv (j + i) e → (∃ e', f d e = .ok (.next e') ∧ Inv (j + i + 1) e') ∨ (∃ v, f d e = .ok (.ret v) ∧ P v)) → Inv j e →
      (∃ e', forL f l e = .ok (.next e') ∧ Inv (j + l.length) e') ∨ (∃ v, forL f l e = .ok (.ret v) ∧ P v)
  | [], e, j, _, h0 => .inl ⟨e, rfl, h0⟩
  | d :: l, e, j, h, h0 => by
    rw [forL_cons]
    rcases h 0 d e rfl h0 with ⟨e1, h1, h2⟩ | ⟨v, h1, h2⟩
    · rw [h1, seq_n]
      rcases forL_inv (l := l) (e := e1) (j := j + 1) (fun i d e hi hI => by
        have := h (i + 1) d e hi (by rw [show j + (i + 1) = j + 1 + i by omega]; exact hI)
        rw [show j + (i + 1) = j + 1 + i by omega] at this
        exact this) h2 with q | q
      · rw [show j + (d :: l).length = j + 1 + l.length by rw [List.length_cons]; omega]
        exact .inl q
      · exact .inr q
    · rw [h1, seq_r]
      exact .inr ⟨v, rfl, h2⟩
theorem rng_at {lo c : Int} {n i : Nat} {d : D} (h : (rng lo n c)[i]? = some d) : i < n ∧ d = .int (lo + (i : Int) * c) := by
  unfold rng at h
  rw [List.getElem?_map] at h
  cases q : (List.range n)[i]? with
  | none => rw [q] at h; cases h
  | some m =>
    rw [q] at h
    cases h
    obtain ⟨h1, h2⟩ := List.getElem?_eq_some_iff.mp q
    rw [List.length_range] at h1
    rw [List.getElem_range] at h2
    exact ⟨h1, by rw [h2]⟩
theorem rng_length (lo : Int) (n : Nat) (c : Int) : (rng lo n c).length = n := by unfold rng; rw [List.length_map, List.length_range]
/-- the same over a range, no way out -/
theorem forL_rng {f : D → Env → R Out} {Inv : Nat → Env → Prop} {lo c : Int} {n : Nat} {e : Env} (h : ∀ i e, i < n → Inv i e → ∃ e', f (.int (lo + (i : Int) * c)) e = .ok (.next e') ∧ Inv (i + 1) e') (h0 : Inv 0 e) : ∃ e', forL f (rng lo n c) e = .ok (.next e') ∧ Inv n e' := by
  rcases forL_inv (f := f) (Inv := Inv) (P := fun _ => False) (l := rng lo n c) (e := e) (j := 0) (fun i d e hi hI => by
    obtain ⟨h1, rfl⟩ := rng_at hi
    rw [Nat.zero_add] at hI ⊢
    exact .inl (h i e h1 hI)) h0 with q | ⟨v, _, q⟩
  · rw [Nat.zero_add, rng_length] at q
    exact q
  · exact q.elim
/-- over a list, no way out -/
theorem forL_lst {f : D → Env → R Out} {Inv : Nat → Env → Prop} {l : List D} {e : Env} (h : ∀ i d e, l[i]? = some d → Inv i e → ∃ e', f d e = .ok (.next e') ∧ Inv (i + 1) e') (h0 : Inv 0 e) : ∃ e', forL f l e = .ok (.next e') ∧ Inv l.length e' := by
  rcases forL_inv (f := f) (Inv := Inv) (P := fun _ => False) (l := l) (e := e) (j := 0) (fun i d e hi hI => by
    rw [Nat.zero_add] at hI ⊢
    exact .inl (h i d e hi hI)) h0 with q | ⟨v, _, q⟩
  · rw [Nat.zero_add] at q
    exact q
  · exact q.elim
theorem small62_of {i : Int} (h : -(2 ^ 62) ≤ i ∧ i < 2 ^ 62) : small62 i = true := by
  cases i with
  | ofNat n => exact Nat.ble_eq_true_of_le (by have e : Int.ofNat n = (n : Int) := rfl; rw [e] at h; omega)
  | negSucc n => exact Nat.ble_eq_true_of_le (by omega)
theorem small63_ok {i : Int} (h : -(2 ^ 63) ≤ i ∧ i < 2 ^ 63) : small63 i = true := by
  cases i with
  | ofNat n => exact Nat.ble_eq_true_of_le (by have e : Int.ofNat n = (n : Int) := rfl; rw [e] at h; omega)
  | negSucc n => exact Nat.ble_eq_true_of_le (by omega)
theorem small64_ok {i : Int} (h : -(2 ^ 64) < i ∧ i < 2 ^ 64) : small64 i = true := by
  cases i with
  | ofNat n => exact Nat.ble_eq_true_of_le (by have e : Int.ofNat n = (n : Int) := rfl; rw [e] at h; omega)
  | negSucc n => exact Nat.ble_eq_true_of_le (by omega)
theorem small30_ok {i : Int} (h : 0 ≤ i ∧ i < 1073741824) : small30 i = true := by
  cases i with
  | ofNat n => exact Nat.ble_eq_true_of_le (by have e : Int.ofNat n = (n : Int) := rfl; rw [e] at h; omega)
  | negSucc n => omega
theorem mulOk_l {a b : Int} (h : -(2 ^ 64) < a ∧ a < 2 ^ 64) : mulOk a b = true := by unfold mulOk; rw [small64_ok h]; rfl
theorem mulOk_r {a b : Int} (h : -(2 ^ 64) < b ∧ b < 2 ^ 64) : mulOk a b = true := by unfold mulOk; rw [small64_ok h, Bool.or_true]
theorem sizedApp_ok {l : List D} {d : D} (h : l.length < sizeLine) : sizedApp l d = .ok (.list (l ++ [d])) := by unfold sizedApp; rw [if_pos h]
theorem log_ok {w : Int} (h : 0 < w ∧ w < 2 ^ 64) : 0 < w ∧ w.natAbs.log2 < 9000 := by
  refine ⟨h.1, ?_⟩
  have : w.natAbs < 2 ^ 64 := by omega
  by_cases hz : w.natAbs = 0
  · rw [hz]; decide
  · exact Nat.lt_trans ((Nat.log2_lt hz).mpr this) (by decide)
theorem stepN_dn (i j : Int) : stepN i j (-1) = (i - j).toNat := by unfold stepN; rw [if_neg (by decide)]
end Ev
set_option Elab.async false
set_option linter.all false
set_option maxRecDepth 100000
namespace Ev
open PySem PySem.Spec PyProof.Rows L2
/- is_number: 0 thing -/
def f_is_number : Fn := ⟨1, 1, [0], 0,
  (.cons (.ret 0 (.and (.isi .int (.var 0)) (.not (.isi .bool (.var 0)))))
  .nil)⟩
def f_is_rising_b1 : Ss :=
  (.cons (.ite (.or (.cmp .le (.var 3) (.var 4)) (.cmp .ge (.var 3) (.var 2)))
    ((.cons (.ret 0 (.bl false))
    .nil))
    (.nil))
  (.cons (.asg 0 4 (.var 3) [])
  .nil))
/- is_rising: 0 row, 1 low, 2 high, 3 x, 4 last -/
def f_is_rising : Fn := ⟨3, 5, [0, 0, 0, 0, 0], 0,
  (.cons (.ite (.or (.not (.isi .tuple (.var 0))) (.not (.b1 .all (.comp [3] (.call 0 (.cons (.var 3) .nil)) (.name 3) (.seq (.var 0)) .none))))
    ((.cons (.ret 0 (.bl false))
    .nil))
    (.nil))
  (.cons (.asg 0 4 (.bin .sub (.var 1) (.int 1)) [])
  (.cons (.for_ [] (.name 3) (.seq (.var 0)) f_is_rising_b1)
  (.cons (.ret 0 (.bl true))
  .nil))))⟩
/- is_stair: 0 thing, 1 base, 2 step, 3 once, 4 again -/
def f_is_stair : Fn := ⟨1, 5, [0, 0, 0, 0, 0], 0,
  (.cons (.ite (.or (.not (.isi .tuple (.var 0))) (.cmp .ne (.b1 .len (.var 0)) (.int 4)))
    ((.cons (.ret 0 (.bl false))
    .nil))
    (.nil))
  (.cons (.asgT (.cons (.name 1) (.cons (.name 2) (.cons (.name 3) (.cons (.name 4) .nil)))) (.var 0) [])
  (.cons (.ite (.or (.not (.call 0 (.cons (.var 1) .nil))) (.or (.not (.call 0 (.cons (.var 2) .nil))) (.or (.cmp .lt (.var 1) (.int 0)) (.cmp .lt (.var 2) (.int 1)))))
    ((.cons (.ret 0 (.bl false))
    .nil))
    (.nil))
  (.cons (.ret 0 (.and (.call 1 (.cons (.var 3) (.cons (.int 0) (.cons (.var 1) .nil)))) (.call 1 (.cons (.var 4) (.cons (.var 1) (.cons (.bin .add (.var 1) (.var 2)) .nil))))))
  .nil))))⟩
/- _law_cell: 0 _law_script, 1 _law_k -/
def f_law_cell : Fn := ⟨2, 2, [0, 0], 0,
  (.cons (.ite (.cmp .eq (.b1 .len (.var 0)) (.int 0))
    ((.cons (.ret 0 (.bin .mul (.int 7919) (.bin .add (.var 1) (.int 1))))
    .nil))
    (.nil))
  (.cons (.ite (.cmp .lt (.var 1) (.b1 .len (.var 0)))
    ((.cons (.ret 0 (.ix (.var 0) (.var 1)))
    .nil))
    (.nil))
  (.cons (.ret 0 (.bin .add (.ix (.var 0) (.bin .mod (.var 1) (.b1 .len (.var 0)))) (.bin .mul (.int 104729) (.var 1))))
  .nil)))⟩
/- _law_mixed: 0 _law_cell_here, 1 _law_k, 2 _law_prime, 3 _law_far -/
def f_law_mixed : Fn := ⟨3, 4, [0, 0, 0, 0], 0,
  (.cons (.asg 0 3 (.bin .mod (.bin .mul (.bin .add (.bin .add (.bin .add (.var 0) (.bin .mul (.bin .mul (.int 7) (.var 1)) (.var 1))) (.bin .mul (.int 13) (.var 1))) (.int 5)) (.int 48271)) (.int 2147483647)) [])
  (.cons (.asg 0 3 (.bin .mod (.bin .mul (.var 3) (.var 3)) (.int 2147483629)) [])
  (.cons (.ret 0 (.bin .mod (.bin .mul (.var 3) (.int 39373)) (.var 2)))
  .nil)))⟩
def f_law_draws_b1 : Ss :=
  (.cons (.ite (.cmp .gt (.var 3) (.int 1))
    ((.cons (.app 4 (.bin .mod (.var 3) (.ix (.var 1) (.var 5))) [])
    (.cons (.asg 0 3 (.bin .fdiv (.var 3) (.ix (.var 1) (.var 5))) [])
    .nil)))
    ((.cons (.app 4 (.bin .mod (.call 4 (.cons (.var 0) (.cons (.var 5) (.cons (.var 2) .nil)))) (.ix (.var 1) (.var 5))) [])
    .nil)))
  .nil)
/- _law_draws: 0 _law_cell_here, 1 _law_widths, 2 _law_prime, 3 _law_left, 4 _law_found, 5 _law_k -/
def f_law_draws : Fn := ⟨3, 6, [0, 0, 0, 0, 1, 0], 0,
  (.cons (.asg 0 3 (.int 0) [])
  (.cons (.ite (.cmp .ge (.var 0) (.bin .pow (.int 10) (.int 18)))
    ((.cons (.asg 0 3 (.bin .sub (.var 0) (.bin .pow (.int 10) (.int 18))) [])
    .nil))
    (.nil))
  (.cons (.asg 1 4 (.lst .nil) [])
  (.cons (.for_ [] (.name 5) (.rng1 (.b1 .len (.var 1))) f_law_draws_b1)
  (.cons (.ret 0 (.var 4))
  .nil)))))⟩
/- _law_spare: 0 _law_cell_here, 1 _law_width -/
def f_law_spare : Fn := ⟨2, 2, [0, 0], 0,
  (.cons (.ite (.cmp .ge (.var 0) (.bin .pow (.int 10) (.int 18)))
    ((.cons (.ret 0 (.bin .add (.bin .fdiv (.bin .sub (.var 0) (.bin .pow (.int 10) (.int 18))) (.var 1)) (.bin .pow (.int 10) (.int 18))))
    .nil))
    (.nil))
  (.cons (.ret 0 (.bin .add (.var 0) (.int 104729)))
  .nil))⟩
/- _law_whole: 0 _law_found -/
def f_law_whole : Fn := ⟨1, 1, [0], 0,
  (.cons (.ret 0 (.and (.isi .int (.var 0)) (.not (.isi .bool (.var 0)))))
  .nil)⟩
/- _law_rises: 0 _law_row, 1 _law_low, 2 _law_high, 3 _law_part, 4 _law_one, 5 _law_two -/
def f_law_rises : Fn := ⟨3, 6, [0, 0, 0, 0, 0, 0], 0,
  (.cons (.ite (.or (.not (.isi .tuple (.var 0))) (.not (.b1 .all (.comp [3] (.call 7 (.cons (.var 3) .nil)) (.name 3) (.seq (.var 0)) .none))))
    ((.cons (.ret 0 (.bl false))
    .nil))
    (.nil))
  (.cons (.ret 0 (.and (.b1 .all (.comp [3] (.chain .le .lt (.var 1) (.var 3) (.var 2)) (.name 3) (.seq (.var 0)) .none)) (.b1 .all (.comp [4, 5] (.cmp .lt (.var 4) (.var 5)) (.tup (.cons (.name 4) (.cons (.name 5) .nil))) (.zip (.var 0) (.slice (.var 0) (.some (.int 1)) .none)) .none))))
  .nil))⟩
/- _law_is_stair: 0 _law_found -/
def f_law_is_stair : Fn := ⟨1, 1, [0], 0,
  (.cons (.ite (.or (.not (.isi .tuple (.var 0))) (.cmp .ne (.b1 .len (.var 0)) (.int 4)))
    ((.cons (.ret 0 (.bl false))
    .nil))
    (.nil))
  (.cons (.ite (.or (.not (.call 7 (.cons (.ix (.var 0) (.int 0)) .nil))) (.not (.call 7 (.cons (.ix (.var 0) (.int 1)) .nil))))
    ((.cons (.ret 0 (.bl false))
    .nil))
    (.nil))
  (.cons (.ite (.or (.cmp .lt (.ix (.var 0) (.int 0)) (.int 0)) (.or (.cmp .lt (.ix (.var 0) (.int 1)) (.int 1)) (.not (.call 8 (.cons (.ix (.var 0) (.int 2)) (.cons (.int 0) (.cons (.ix (.var 0) (.int 0)) .nil)))))))
    ((.cons (.ret 0 (.bl false))
    .nil))
    (.nil))
  (.cons (.ret 0 (.call 8 (.cons (.ix (.var 0) (.int 3)) (.cons (.ix (.var 0) (.int 0)) (.cons (.bin .add (.ix (.var 0) (.int 0)) (.ix (.var 0) (.int 1))) .nil)))))
  .nil))))⟩
/- _law_bits: 0 _law_cell_here, 1 _law_many, 2 _law_prime, 3 _law_bit, 4 _law_draws_here, 5 _law_x -/
def f_law_bits : Fn := ⟨3, 6, [0, 0, 0, 0, 0, 0], 1,
  (.cons (.ite (.cmp .lt (.var 1) (.int 73))
    ((.cons (.ret 1 (.comp [3] (.cmp .eq (.var 3) (.int 1)) (.name 3) (.seq (.call 5 (.cons (.var 0) (.cons (.lmul (.cons (.int 2) .nil) (.var 1)) (.cons (.var 2) .nil))))) .none))
    .nil))
    (.nil))
  (.cons (.asg 0 4 (.call 5 (.cons (.var 0) (.cons (.lst (.cons (.int 96) (.cons (.int 97) (.cons (.int 96) .nil)))) (.cons (.var 2) .nil)))) [])
  (.cons (.ret 1 (.comp [5] (.cmp .le (.bin .mod (.bin .add (.bin .mul (.var 5) (.bin .add (.int 1) (.ix (.var 4) (.int 0)))) (.ix (.var 4) (.int 1))) (.int 97)) (.ix (.var 4) (.int 2))) (.name 5) (.rng1 (.var 1)) .none))
  .nil)))⟩
/- _law_stair_of: 0 _law_bits_here, 1 _law_base, 2 _law_step, 3 _law_once, 4 _law_x -/
def f_law_stair_of : Fn := ⟨3, 5, [0, 0, 0, 0, 0], 0,
  (.cons (.asg 0 3 (.b1 .tuple (.comp [4] (.var 4) (.name 4) (.rng1 (.var 1)) (.some (.ix (.var 0) (.var 4))))) [])
  (.cons (.ret 0 (.tup (.cons (.var 1) (.cons (.var 2) (.cons (.var 3) (.cons (.b1 .tuple (.comp [4] (.var 4) (.name 4) (.rng2 (.var 1) (.bin .add (.var 1) (.var 2))) (.some (.ix (.var 0) (.var 4))))) .nil))))))
  .nil))⟩
def f_law_some_stair_b1 : Ss :=
  (.cons (.setIx 5 (.var 9) (.ix (.var 5) (.bin .add (.var 9) (.var 4))) [])
  .nil)
/- _law_some_stair: 0 _law_cell_here, 1 _law_prime, 2 _law_draws_here, 3 _law_base, 4 _law_step, 5 _law_bits_here, 6 _law_part, 7 _law_by, 8 _law_k, 9 _law_x -/
def f_law_some_stair : Fn := ⟨2, 10, [0, 0, 0, 0, 0, 1, 0, 0, 0, 0], 0,
  (.cons (.asg 0 2 (.call 5 (.cons (.var 0) (.cons (.lst (.cons (.int 8) (.cons (.int 13) (.cons (.int 61) (.cons (.int 3001) (.cons (.int 8) (.cons (.int 12) (.cons (.int 60) (.cons (.int 14) (.cons (.int 6) .nil)))))))))) (.cons (.var 1) .nil)))) [])
  (.cons (.asg 0 3 (.ix (.var 2) (.int 1)) [])
  (.cons (.ite (.cmp .gt (.ix (.var 2) (.int 0)) (.int 5))
    ((.cons (.asg 0 3 (.ix (.var 2) (.bin .add (.int 2) (.b1 .int (.cmp .eq (.ix (.var 2) (.int 0)) (.int 7))))) [])
    .nil))
    (.nil))
  (.cons (.asg 0 4 (.bin .add (.int 1) (.ix (.var 2) (.int 5))) [])
  (.cons (.ite (.cmp .eq (.ix (.var 2) (.int 4)) (.int 6))
    ((.cons (.asg 0 4 (.bin .add (.int 1) (.ix (.var 2) (.int 6))) [])
    .nil))
    (.nil))
  (.cons (.ite (.cmp .eq (.ix (.var 2) (.int 4)) (.int 7))
    ((.cons (.asg 0 4 (.ix (.lst (.cons (.int 840) (.cons (.int 420) (.cons (.int 280) (.cons (.int 210) (.cons (.int 168) (.cons (.int 140) (.cons (.int 120) (.cons (.int 105) (.cons (.int 84) (.cons (.int 70) (.cons (.int 60) (.cons (.int 56) (.cons (.int 42) (.cons (.int 30) .nil))))))))))))))) (.ix (.var 2) (.int 7))) [])
    .nil))
    (.nil))
  (.cons (.asg 1 5 (.call 10 (.cons (.call 6 (.cons (.var 0) (.cons (.int 9211512360960) .nil))) (.cons (.bin .add (.var 3) (.var 4)) (.cons (.var 1) .nil)))) [])
  (.cons (.ite (.cmp .eq (.ix (.var 2) (.int 8)) (.int 1))
    ((.cons (.asg 1 5 (.lmul (.cons (.bl false) .nil) (.bin .add (.var 3) (.var 4))) [])
    .nil))
    (.nil))
  (.cons (.ite (.cmp .eq (.ix (.var 2) (.int 8)) (.int 2))
    ((.cons (.asg 1 5 (.lmul (.cons (.bl true) .nil) (.bin .add (.var 3) (.var 4))) [])
    .nil))
    (.nil))
  (.cons (.ite (.cmp .eq (.ix (.var 2) (.int 8)) (.int 3))
    ((.cons (.asg 0 6 (.b1 .max (.bin .add (.lst (.cons (.int 1) .nil)) (.comp [7] (.var 7) (.name 7) (.rng2 (.int 1) (.var 4)) (.some (.cmp .eq (.bin .mod (.var 4) (.var 7)) (.int 0)))))) [])
    (.cons (.asg 1 5 (.bin .add (.slice (.var 5) .none (.some (.var 3))) (.comp [8] (.ix (.var 5) (.bin .add (.var 3) (.bin .mod (.var 8) (.var 6)))) (.name 8) (.rng1 (.var 4)) .none)) [])
    .nil)))
    (.nil))
  (.cons (.ite (.cmp .eq (.ix (.var 2) (.int 8)) (.int 4))
    ((.cons (.for_ [] (.name 9) (.rng3 (.bin .sub (.var 3) (.int 1)) (.bin .sub (.bin .fdiv (.var 3) (.int 2)) (.int 1)) (.neg (.int 1))) f_law_some_stair_b1)
    .nil))
    (.nil))
  (.cons (.ite (.cmp .eq (.ix (.var 2) (.int 8)) (.int 5))
    ((.cons (.asg 1 5 (.bin .add (.slice (.var 5) .none (.some (.var 3))) (.lmul (.cons (.bl false) .nil) (.var 4))) [])
    .nil))
    (.nil))
  (.cons (.ret 0 (.call 11 (.cons (.var 5) (.cons (.var 3) (.cons (.var 4) .nil)))))
  .nil)))))))))))))⟩
def f_law_rows_spoilt_b1 : Ss :=
  (.cons (.app 5 (.bin .add (.bin .add (.slice (.var 0) .none (.some (.var 4))) (.tup (.cons (.var 6) .nil))) (.slice (.var 0) (.some (.var 4)) .none)) [])
  .nil)
/- _law_rows_spoilt: 0 _law_row, 1 _law_low, 2 _law_high, 3 _law_cell_here, 4 _law_place, 5 _law_found, 6 _law_more, 7 _law_same, 8 _law_k -/
def f_law_rows_spoilt : Fn := ⟨4, 9, [0, 0, 0, 0, 0, 1, 0, 0, 0], 0,
  (.cons (.asg 0 4 (.bin .mod (.var 3) (.bin .add (.b1 .len (.var 0)) (.int 1))) [])
  (.cons (.asg 1 5 (.lst (.cons (.b1 .list (.var 0)) (.cons (.rev (.var 0)) (.cons (.bin .add (.var 0) (.slice (.var 0) .none (.some (.int 900)))) (.cons (.bin .add (.var 0) (.tup (.cons (.var 2) .nil))) (.cons (.bin .add (.var 0) (.tup (.cons (.bin .sub (.var 2) (.int 1)) .nil))) (.cons (.bin .add (.tup (.cons (.bin .sub (.var 1) (.int 1)) .nil)) (.var 0)) (.cons (.bin .add (.tup (.cons (.var 1) .nil)) (.var 0)) .nil)))))))) [])
  (.cons (.asg 1 5 (.bin .add (.var 5) (.lst (.cons (.bin .add (.var 0) (.tup (.cons (.bl true) .nil))) (.cons (.tup (.cons (.var 0) .nil)) (.cons .non (.cons (.int 7) (.cons (.slice (.var 0) (.some (.int 1)) .none) (.cons (.slice (.var 0) .none (.some (.neg (.int 1)))) (.cons (.bin .add (.slice (.var 0) .none (.some (.var 4))) (.slice (.var 0) (.some (.bin .add (.var 4) (.int 1))) .none)) .nil))))))))) [])
  (.cons (.for_ [] (.name 6) (.seq (.lst (.cons (.bl true) (.cons (.str "1") (.cons .non (.cons (.var 1) (.cons (.var 2) (.cons (.bin .sub (.var 1) (.int 1)) (.cons (.tup (.cons (.var 1) .nil)) (.cons (.bin .add (.var 1) (.bin .mod (.var 3) (.b2 .max (.int 1) (.bin .sub (.var 2) (.var 1))))) .nil)))))))))) f_law_rows_spoilt_b1)
  (.cons (.ite (.cmp .gt (.b1 .len (.var 0)) (.int 0))
    ((.cons (.asg 0 7 (.ix (.var 0) (.bin .mod (.var 3) (.b1 .len (.var 0)))) [])
    (.cons (.app 5 (.bin .add (.bin .add (.slice (.var 0) .none (.some (.var 4))) (.tup (.cons (.var 7) .nil))) (.slice (.var 0) (.some (.var 4)) .none)) [])
    .nil)))
    (.nil))
  (.cons (.ite (.cmp .gt (.b1 .len (.var 0)) (.int 400))
    ((.cons (.asg 1 5 (.comp [8] (.ix (.var 5) (.bin .mod (.bin .add (.var 3) (.bin .mul (.int 5) (.var 8))) (.b1 .len (.var 5)))) (.name 8) (.rng1 (.int 4)) .none) [])
    .nil))
    (.nil))
  (.cons (.ret 0 (.var 5))
  .nil)))))))⟩
def f_law_spoilt_b1 : Ss :=
  (.cons (.app 6 (.tup (.cons (.var 7) (.cons (.var 3) (.cons (.var 4) (.cons (.var 5) .nil))))) [])
  .nil)
def f_law_spoilt_b2 : Ss :=
  (.cons (.app 6 (.tup (.cons (.var 2) (.cons (.var 7) (.cons (.var 4) (.cons (.var 5) .nil))))) [])
  .nil)
def f_law_spoilt_b3 : Ss :=
  (.cons (.app 6 (.tup (.cons (.var 2) (.cons (.var 3) (.cons (.var 7) (.cons (.var 5) .nil))))) [])
  .nil)
def f_law_spoilt_b4 : Ss :=
  (.cons (.app 6 (.tup (.cons (.var 2) (.cons (.var 3) (.cons (.var 4) (.cons (.var 7) .nil))))) [])
  .nil)
/- _law_spoilt: 0 _law_stair, 1 _law_cell_here, 2 _law_base, 3 _law_step, 4 _law_once, 5 _law_again, 6 _law_found, 7 _law_part -/
def f_law_spoilt : Fn := ⟨2, 8, [0, 0, 0, 0, 0, 0, 1, 0], 0,
  (.cons (.asgT (.cons (.name 2) (.cons (.name 3) (.cons (.name 4) (.cons (.name 5) .nil)))) (.var 0) [])
  (.cons (.asg 1 6 (.lst (.cons (.b1 .list (.var 0)) (.cons (.slice (.var 0) .none (.some (.int 3))) (.cons (.bin .add (.var 0) (.tup (.cons (.int 0) .nil))) (.cons (.slice (.var 0) (.some (.int 1)) .none) (.cons (.tup (.cons (.var 0) .nil)) .nil)))))) [])
  (.cons (.asg 1 6 (.bin .add (.var 6) (.lst (.cons (.tup (.cons (.var 2) (.cons (.var 3) (.cons (.var 5) (.cons (.var 4) .nil))))) (.cons (.tup (.cons (.var 3) (.cons (.var 2) (.cons (.var 4) (.cons (.var 5) .nil))))) .nil)))) [])
  (.cons (.for_ [] (.name 7) (.seq (.lst (.cons (.neg (.int 1)) (.cons (.bin .add (.var 2) (.int 1)) (.cons (.bin .sub (.var 2) (.int 1)) (.cons (.bl true) (.cons (.str "0") (.cons .non (.cons (.bin .pow (.int 10) (.int 59)) (.cons (.tup (.cons (.var 2) .nil)) .nil)))))))))) f_law_spoilt_b1)
  (.cons (.for_ [] (.name 7) (.seq (.lst (.cons (.int 0) (.cons (.neg (.int 1)) (.cons (.bin .add (.var 3) (.int 1)) (.cons (.bin .sub (.var 3) (.int 1)) (.cons (.bl true) (.cons (.str "1") (.cons .non (.cons (.bin .pow (.int 10) (.int 59)) (.cons (.tup (.cons (.var 3) .nil)) .nil))))))))))) f_law_spoilt_b2)
  (.cons (.for_ [] (.name 7) (.seq (.call 13 (.cons (.var 4) (.cons (.int 0) (.cons (.var 2) (.cons (.var 1) .nil)))))) f_law_spoilt_b3)
  (.cons (.for_ [] (.name 7) (.seq (.call 13 (.cons (.var 5) (.cons (.var 2) (.cons (.bin .add (.var 2) (.var 3)) (.cons (.var 1) .nil)))))) f_law_spoilt_b4)
  (.cons (.ret 0 (.var 6))
  .nil))))))))⟩
def f_law_b1 : Ss :=
  (.cons (.asg 0 5 (.call 2 (.cons (.var 4) .nil)) [])
  (.cons (.ite (.or (.not (.isi .bool (.var 5))) (.cmp .ne (.var 5) (.call 9 (.cons (.var 4) .nil))))
    ((.cons (.ret 0 (.bl false))
    .nil))
    (.nil))
  .nil))
/- law: 0 _law_script, 1 _law_stair, 2 _law_written, 3 _law_cell_here, 4 _law_thing, 5 _law_found -/
def f_law : Fn := ⟨1, 6, [0, 0, 0, 0, 0, 0], 0,
  (.cons (.asg 0 1 (.call 12 (.cons (.call 3 (.cons (.var 0) (.cons (.int 0) .nil))) (.cons (.int 999999937) .nil))) [])
  (.cons (.ite (.cmp .isnot (.call 2 (.cons (.var 1) .nil)) (.bl true))
    ((.cons (.ret 0 (.bl false))
    .nil))
    (.nil))
  (.cons (.asg 0 2 (.lst (.cons (.tup .nil) (.cons .non (.cons (.int 0) (.cons (.str "0 1 : :") (.cons (.bl true) (.cons (.tup (.cons (.int 0) (.cons (.int 1) (.cons (.tup .nil) (.cons (.tup .nil) .nil))))) (.cons (.tup (.cons (.tup (.cons (.int 0) (.cons (.int 1) (.cons (.tup .nil) (.cons (.tup .nil) .nil))))) .nil)) .nil)))))))) [])
  (.cons (.asg 0 3 (.ix (.call 5 (.cons (.call 3 (.cons (.var 0) (.cons (.int 1) .nil))) (.cons (.lst (.cons (.bin .pow (.int 10) (.int 6)) .nil)) (.cons (.int 999999929) .nil)))) (.int 0)) [])
  (.cons (.for_ [] (.name 4) (.seq (.bin .add (.call 14 (.cons (.var 1) (.cons (.var 3) .nil))) (.var 2))) f_law_b1)
  (.cons (.ret 0 (.cmp .is_ (.call 2 (.cons (.var 1) .nil)) (.bl true)))
  .nil))))))⟩
/- check_stair: 0 stair -/
def f_check_stair : Fn := ⟨1, 1, [0], 0,
  (.cons (.ite (.not (.call 2 (.cons (.var 0) .nil)))
    ((.cons .stop
    .nil))
    (.nil))
  (.cons (.ite (.or (.cmp .gt (.ix (.var 0) (.int 0)) (.cst (.int 3000))) (.cmp .gt (.ix (.var 0) (.int 1)) (.cst (.int 840))))
    ((.cons .stop
    .nil))
    (.nil))
  .nil))⟩
def f_bits_of_b1 : Ss :=
  (.cons (.setIx 6 (.var 7) (.bl true) [])
  .nil)
def f_bits_of_b2 : Ss :=
  (.cons (.setIx 6 (.var 8) (.bl true) [])
  .nil)
def f_bits_of_b3 : Ss :=
  (.cons (.for_ [] (.name 8) (.rng3 (.var 7) (.var 1) (.var 3)) f_bits_of_b2)
  .nil)
/- bits_of: 0 stair, 1 many, 2 base, 3 step, 4 once, 5 again, 6 bits, 7 x, 8 far -/
def f_bits_of : Fn := ⟨2, 9, [0, 0, 0, 0, 0, 0, 1, 0, 0], 0,
  (.cons (.asgT (.cons (.name 2) (.cons (.name 3) (.cons (.name 4) (.cons (.name 5) .nil)))) (.var 0) [])
  (.cons (.asg 1 6 (.lmul (.cons (.bl false) .nil) (.var 1)) [])
  (.cons (.for_ [] (.name 7) (.seq (.var 4)) f_bits_of_b1)
  (.cons (.for_ [] (.name 7) (.seq (.var 5)) f_bits_of_b3)
  (.cons (.ret 0 (.var 6))
  .nil)))))⟩
def f_least_step_b1 : Ss :=
  (.cons (.ite (.and (.cmp .eq (.bin .mod (.var 2) (.var 3)) (.int 0)) (.cmp .eq (.slice (.var 0) (.some (.var 1)) (.some (.bin .sub (.bin .add (.var 1) (.var 2)) (.var 3)))) (.slice (.var 0) (.some (.bin .add (.var 1) (.var 3))) (.some (.bin .add (.var 1) (.var 2))))))
    ((.cons (.ret 0 (.var 3))
    .nil))
    (.nil))
  .nil)
/- least_step: 0 bits, 1 base, 2 step, 3 by -/
def f_least_step : Fn := ⟨3, 4, [0, 0, 0, 0], 0,
  (.cons (.for_ [] (.name 3) (.rng2 (.int 1) (.var 2)) f_least_step_b1)
  (.cons (.ret 0 (.var 2))
  .nil))⟩
def f_least_of_bits_b1 : Ss :=
  (.cons (.asg 0 1 (.bin .sub (.var 1) (.int 1)) [])
  .nil)
/- least_of_bits: 0 bits, 1 base, 2 step, 3 once, 4 x, 5 again -/
def f_least_of_bits : Fn := ⟨3, 6, [0, 0, 0, 0, 0, 0], 0,
  (.cons (.asg 0 2 (.call 28 (.cons (.var 0) (.cons (.var 1) (.cons (.var 2) .nil)))) [])
  (.cons (.whl (.and (.cmp .gt (.var 1) (.int 0)) (.cmp .eq (.ix (.var 0) (.bin .sub (.var 1) (.int 1))) (.ix (.var 0) (.bin .add (.bin .sub (.var 1) (.int 1)) (.var 2))))) f_least_of_bits_b1)
  (.cons (.asg 0 3 (.comp [4] (.var 4) (.name 4) (.rng1 (.var 1)) (.some (.ix (.var 0) (.var 4)))) [])
  (.cons (.asg 0 5 (.comp [4] (.var 4) (.name 4) (.rng2 (.var 1) (.bin .add (.var 1) (.var 2))) (.some (.ix (.var 0) (.var 4)))) [])
  (.cons (.ret 0 (.tup (.cons (.var 1) (.cons (.var 2) (.cons (.b1 .tuple (.var 3)) (.cons (.b1 .tuple (.var 5)) .nil))))))
  .nil)))))⟩
/- least_by: 0 stair -/
def f_least_by : Fn := ⟨1, 1, [0], 0,
  (.cons (.ret 0 (.call 29 (.cons (.call 27 (.cons (.var 0) (.cons (.bin .add (.ix (.var 0) (.int 0)) (.ix (.var 0) (.int 1))) .nil))) (.cons (.ix (.var 0) (.int 0)) (.cons (.ix (.var 0) (.int 1)) .nil)))))
  .nil)⟩
/- least: 0 stair -/
def f_least : Fn := ⟨1, 1, [0], 0,
  (.cons (.expr (.call 16 (.cons (.var 0) .nil)))
  (.cons (.ret 0 (.call 30 (.cons (.var 0) .nil)))
  .nil))⟩
def f_law_least_b1 : Ss :=
  (.cons (.ite (.cmp .eq (.bin .mod (.var 2) (.var 4)) (.int 0))
    ((.cons (.asg 0 5 (.comp [6] (.cmp .eq (.ix (.var 0) (.bin .add (.var 1) (.var 6))) (.ix (.var 0) (.bin .add (.var 1) (.bin .mod (.var 6) (.var 4))))) (.name 6) (.rng1 (.var 2)) .none) [])
    (.cons (.ite (.b1 .all (.var 5))
      ((.cons (.asg 0 3 (.var 4) [])
      .nil))
      (.nil))
    .nil)))
    (.nil))
  .nil)
def f_law_least_b2 : Ss :=
  (.cons (.asg 0 1 (.bin .sub (.var 1) (.int 1)) [])
  .nil)
/- _law_least: 0 _law_bits_here, 1 _law_base, 2 _law_step, 3 _law_best, 4 _law_s, 5 _law_alike, 6 _law_k, 7 _law_once, 8 _law_x -/
def f_law_least : Fn := ⟨3, 9, [0, 0, 0, 0, 0, 0, 0, 0, 0], 0,
  (.cons (.asg 0 3 (.var 2) [])
  (.cons (.for_ [] (.name 4) (.rng3 (.var 2) (.int 0) (.neg (.int 1))) f_law_least_b1)
  (.cons (.whl (.and (.cmp .gt (.var 1) (.int 0)) (.cmp .eq (.ix (.var 0) (.bin .sub (.var 1) (.int 1))) (.ix (.var 0) (.bin .add (.bin .sub (.var 1) (.int 1)) (.var 3))))) f_law_least_b2)
  (.cons (.asg 0 7 (.b1 .tuple (.comp [8] (.var 8) (.name 8) (.rng1 (.var 1)) (.some (.ix (.var 0) (.var 8))))) [])
  (.cons (.ret 0 (.tup (.cons (.var 1) (.cons (.var 3) (.cons (.var 7) (.cons (.b1 .tuple (.comp [8] (.var 8) (.name 8) (.rng2 (.var 1) (.bin .add (.var 1) (.var 3))) (.some (.ix (.var 0) (.var 8))))) .nil))))))
  .nil)))))⟩
def f_law_stair_bits_b1 : Ss :=
  (.cons (.ite (.cmp .lt (.var 3) (.var 1))
    ((.cons (.setIx 2 (.var 3) (.bl true) [])
    .nil))
    (.nil))
  .nil)
def f_law_stair_bits_b2 : Ss :=
  (.cons (.setIx 2 (.var 4) (.bl true) [])
  .nil)
def f_law_stair_bits_b3 : Ss :=
  (.cons (.for_ [] (.name 4) (.rng3 (.var 3) (.var 1) (.ix (.var 0) (.int 1))) f_law_stair_bits_b2)
  .nil)
/- _law_stair_bits: 0 _law_stair, 1 _law_many, 2 _law_bits_here, 3 _law_x, 4 _law_far -/
def f_law_stair_bits : Fn := ⟨2, 5, [0, 0, 1, 0, 0], 1,
  (.cons (.asg 1 2 (.lmul (.cons (.bl false) .nil) (.var 1)) [])
  (.cons (.for_ [] (.name 3) (.seq (.ix (.var 0) (.int 2))) f_law_stair_bits_b1)
  (.cons (.for_ [] (.name 3) (.seq (.ix (.var 0) (.int 3))) f_law_stair_bits_b3)
  (.cons (.ret 1 (.var 2))
  .nil))))⟩
/- _law_is_due: 0 _law_found, 1 _law_due -/
def f_law_is_due : Fn := ⟨2, 2, [0, 0], 0,
  (.cons (.ret 0 (.and (.call 9 (.cons (.var 0) .nil)) (.cmp .eq (.var 0) (.var 1))))
  .nil)⟩
/- law: 0 _law_script, 1 _law_stair, 2 _law_draws_here, 3 _law_base, 4 _law_step, 5 _law_far, 6 _law_wide, 7 _law_bits_here, 8 _law_other, 9 _law_due -/
def f_law_v2 : Fn := ⟨1, 10, [0, 0, 0, 0, 0, 0, 0, 0, 0, 0], 0,
  (.cons (.asg 0 1 (.call 12 (.cons (.call 3 (.cons (.var 0) (.cons (.int 0) .nil))) (.cons (.int 999999937) .nil))) [])
  (.cons (.asg 0 2 (.call 5 (.cons (.call 3 (.cons (.var 0) (.cons (.int 1) .nil))) (.cons (.lst (.cons (.int 4) (.cons (.int 61) .nil))) (.cons (.int 999999929) .nil)))) [])
  (.cons (.asgT (.cons (.name 3) (.cons (.name 4) .nil)) (.slice (.var 1) .none (.some (.int 2))) [])
  (.cons (.asg 0 5 (.bin .add (.var 3) (.ix (.var 2) (.int 1))) [])
  (.cons (.asg 0 6 (.bin .mul (.var 4) (.bin .add (.int 1) (.ix (.var 2) (.int 0)))) [])
  (.cons (.ite (.cmp .gt (.var 6) (.int 840))
    ((.cons (.asg 0 6 (.var 4) [])
    .nil))
    (.nil))
  (.cons (.ite (.cmp .gt (.var 5) (.int 3000))
    ((.cons (.asg 0 5 (.var 3) [])
    .nil))
    (.nil))
  (.cons (.asg 0 7 (.call 22 (.cons (.var 1) (.cons (.bin .add (.var 5) (.var 6)) .nil))) [])
  (.cons (.asg 0 8 (.call 11 (.cons (.var 7) (.cons (.var 5) (.cons (.var 6) .nil)))) [])
  (.cons (.asg 0 9 (.call 32 (.cons (.var 7) (.cons (.var 3) (.cons (.var 4) .nil)))) [])
  (.cons (.ite (.or (.not (.call 33 (.cons (.call 31 (.cons (.var 1) .nil)) (.cons (.var 9) .nil)))) (.not (.call 33 (.cons (.call 31 (.cons (.var 8) .nil)) (.cons (.var 9) .nil)))))
    ((.cons (.ret 0 (.bl false))
    .nil))
    (.nil))
  (.cons (.ret 0 (.call 33 (.cons (.call 31 (.cons (.var 9) .nil)) (.cons (.var 9) .nil))))
  .nil))))))))))))⟩
def f_shared_by_b1 : Ss :=
  (.cons (.par 0 1 (.var 1) (.bin .mod (.var 0) (.var 1)) [])
  .nil)
/- shared_by: 0 a, 1 b -/
def f_shared_by : Fn := ⟨2, 2, [0, 0], 0,
  (.cons (.whl (.cmp .gt (.var 1) (.int 0)) f_shared_by_b1)
  (.cons (.ret 0 (.var 0))
  .nil))⟩
/- levelled: 0 one, 1 other, 2 step, 3 base -/
def f_levelled : Fn := ⟨2, 4, [0, 0, 0, 0], 0,
  (.cons (.ite (.or (.not (.call 2 (.cons (.var 0) .nil))) (.not (.call 2 (.cons (.var 1) .nil))))
    ((.cons .stop
    .nil))
    (.nil))
  (.cons (.expr (.call 16 (.cons (.var 0) .nil)))
  (.cons (.expr (.call 16 (.cons (.var 1) .nil)))
  (.cons (.asg 0 2 (.bin .fdiv (.bin .mul (.ix (.var 0) (.int 1)) (.ix (.var 1) (.int 1))) (.call 35 (.cons (.ix (.var 0) (.int 1)) (.cons (.ix (.var 1) (.int 1)) .nil)))) [])
  (.cons (.ite (.cmp .gt (.var 2) (.cst (.int 840)))
    ((.cons .stop
    .nil))
    (.nil))
  (.cons (.asg 0 3 (.b2 .max (.ix (.var 0) (.int 0)) (.ix (.var 1) (.int 0))) [])
  (.cons (.ret 0 (.tup (.cons (.call 27 (.cons (.var 0) (.cons (.bin .add (.var 3) (.var 2)) .nil))) (.cons (.call 27 (.cons (.var 1) (.cons (.bin .add (.var 3) (.var 2)) .nil))) (.cons (.var 3) (.cons (.var 2) .nil))))))
  .nil)))))))⟩
def f_parting_b1 : Ss :=
  (.cons (.ite (.cmp .ne (.ix (.var 2) (.var 6)) (.ix (.var 3) (.var 6)))
    ((.cons (.ret 0 (.var 6))
    .nil))
    (.nil))
  .nil)
/- parting: 0 one, 1 other, 2 first, 3 second, 4 base, 5 step, 6 x -/
def f_parting : Fn := ⟨2, 7, [0, 0, 0, 0, 0, 0, 0], 0,
  (.cons (.asgT (.cons (.name 2) (.cons (.name 3) (.cons (.name 4) (.cons (.name 5) .nil)))) (.call 36 (.cons (.var 0) (.cons (.var 1) .nil))) [])
  (.cons (.for_ [] (.name 6) (.rng1 (.bin .add (.var 4) (.var 5))) f_parting_b1)
  (.cons (.ret 0 .non)
  .nil)))⟩
/- _law_is: 0 _law_found, 1 _law_due -/
def f_law_is : Fn := ⟨2, 2, [0, 0], 0,
  (.cons (.ret 0 (.and (.call 7 (.cons (.var 0) .nil)) (.cmp .eq (.var 0) (.var 1))))
  .nil)⟩
def f_law_shared_b1 : Ss :=
  (.cons (.par 0 1 (.var 1) (.bin .mod (.var 0) (.var 1)) [])
  .nil)
/- _law_shared: 0 _law_a, 1 _law_b -/
def f_law_shared : Fn := ⟨2, 2, [0, 0], 0,
  (.cons (.whl (.cmp .gt (.var 1) (.int 0)) f_law_shared_b1)
  (.cons (.ret 0 (.var 0))
  .nil))⟩
/- _law_stepped: 0 _law_stair, 1 _law_step -/
def f_law_stepped : Fn := ⟨2, 2, [0, 0], 0,
  (.cons (.ret 0 (.call 11 (.cons (.call 22 (.cons (.var 0) (.cons (.bin .add (.ix (.var 0) (.int 0)) (.var 1)) .nil))) (.cons (.ix (.var 0) (.int 0)) (.cons (.var 1) .nil)))))
  .nil)⟩
/- _law_pair: 0 _law_one, 1 _law_two, 2 _law_cell_here, 3 _law_prime, 4 _law_draws_here, 5 _law_d, 6 _law_a, 7 _law_e -/
def f_law_pair : Fn := ⟨4, 8, [0, 0, 0, 0, 0, 0, 0, 0], 0,
  (.cons (.asg 0 4 (.call 5 (.cons (.var 2) (.cons (.lst (.cons (.int 2) (.cons (.int 60) (.cons (.int 8) (.cons (.int 840) (.cons (.int 840) .nil)))))) (.cons (.var 3) .nil)))) [])
  (.cons (.ite (.and (.cmp .eq (.ix (.var 4) (.int 0)) (.int 0)) (.cmp .le (.bin .fdiv (.bin .mul (.ix (.var 0) (.int 1)) (.ix (.var 1) (.int 1))) (.call 38 (.cons (.ix (.var 0) (.int 1)) (.cons (.ix (.var 1) (.int 1)) .nil)))) (.int 840)))
    ((.cons (.ret 0 (.lst (.cons (.var 0) (.cons (.var 1) .nil))))
    .nil))
    (.nil))
  (.cons (.asg 0 5 (.bin .add (.int 1) (.ix (.var 4) (.int 1))) [])
  (.cons (.asg 0 6 (.bin .add (.int 1) (.bin .mod (.ix (.var 4) (.int 3)) (.b2 .min (.bin .fdiv (.int 840) (.var 5)) (.ix (.lst (.cons (.int 8) (.cons (.int 840) .nil))) (.b1 .int (.cmp .eq (.ix (.var 4) (.int 2)) (.int 7))))))) [])
  (.cons (.asg 0 7 (.bin .add (.int 1) (.bin .mod (.ix (.var 4) (.int 4)) (.bin .fdiv (.int 840) (.bin .mul (.var 5) (.var 6))))) [])
  (.cons (.ret 0 (.lst (.cons (.call 39 (.cons (.var 0) (.cons (.bin .mul (.var 6) (.var 5)) .nil))) (.cons (.call 39 (.cons (.var 1) (.cons (.bin .mul (.var 5) (.var 7)) .nil))) .nil))))
  .nil))))))⟩
/- _law_two_drawn: 0 _law_script, 1 _law_one, 2 _law_draws_here, 3 _law_other, 4 _law_base, 5 _law_step, 6 _law_far, 7 _law_bits_here, 8 _law_at -/
def f_law_two_drawn : Fn := ⟨1, 9, [0, 0, 0, 0, 0, 0, 0, 1, 0], 0,
  (.cons (.asg 0 1 (.call 12 (.cons (.call 3 (.cons (.var 0) (.cons (.int 0) .nil))) (.cons (.int 999999937) .nil))) [])
  (.cons (.asg 0 2 (.call 5 (.cons (.call 3 (.cons (.var 0) (.cons (.int 1) .nil))) (.cons (.lst (.cons (.int 3) (.cons (.int 2) (.cons (.int 31) (.cons (.bin .pow (.int 10) (.int 6)) (.cons (.int 2) (.cons (.int 840) .nil))))))) (.cons (.int 999999929) .nil)))) [])
  (.cons (.ite (.cmp .eq (.ix (.var 2) (.int 0)) (.int 0))
    ((.cons (.asg 0 3 (.call 12 (.cons (.call 3 (.cons (.var 0) (.cons (.int 2) .nil))) (.cons (.int 999999893) .nil))) [])
    (.cons (.ret 0 (.call 40 (.cons (.var 1) (.cons (.var 3) (.cons (.call 3 (.cons (.var 0) (.cons (.int 3) .nil))) (.cons (.int 999999883) .nil))))))
    .nil)))
    (.nil))
  (.cons (.ite (.cmp .eq (.ix (.var 2) (.int 4)) (.int 1))
    ((.cons (.asg 0 1 (.call 39 (.cons (.var 1) (.cons (.bin .add (.int 1) (.ix (.var 2) (.int 5))) .nil))) [])
    .nil))
    (.nil))
  (.cons (.asgT (.cons (.name 4) (.cons (.name 5) .nil)) (.slice (.var 1) .none (.some (.int 2))) [])
  (.cons (.asg 0 6 (.b2 .min (.int 3000) (.bin .add (.var 4) (.ix (.var 2) (.int 2)))) [])
  (.cons (.asg 1 7 (.call 22 (.cons (.var 1) (.cons (.bin .add (.var 6) (.var 5)) .nil))) [])
  (.cons (.ite (.and (.cmp .eq (.ix (.var 2) (.int 1)) (.int 1)) (.cmp .gt (.var 6) (.int 0)))
    ((.cons (.asg 0 8 (.bin .mod (.ix (.var 2) (.int 3)) (.var 6)) [])
    (.cons (.setIx 7 (.var 8) (.not (.ix (.var 7) (.var 8))) [])
    .nil)))
    (.nil))
  (.cons (.ret 0 (.lst (.cons (.var 1) (.cons (.call 11 (.cons (.var 7) (.cons (.var 6) (.cons (.var 5) .nil)))) .nil))))
  .nil)))))))))⟩
def f_law_v3_b1 : Ss :=
  (.cons (.ite (.and (.cmp .is_ (.var 6) .non) (.cmp .ne (.ix (.var 4) (.var 7)) (.ix (.var 5) (.var 7))))
    ((.cons (.asg 0 6 (.var 7) [])
    .nil))
    (.nil))
  .nil)
def f_law_v3_b2 : Ss :=
  (.cons (.asg 0 9 (.call 37 (.cons (.ix (.var 8) (.int 0)) (.cons (.ix (.var 8) (.int 1)) .nil))) [])
  (.cons (.ite (.or (.and (.cmp .is_ (.var 6) .non) (.cmp .isnot (.var 9) .non)) (.and (.cmp .isnot (.var 6) .non) (.not (.call 20 (.cons (.var 9) (.cons (.var 6) .nil))))))
    ((.cons (.ret 0 (.bl false))
    .nil))
    (.nil))
  .nil))
/- law: 0 _law_script, 1 _law_one, 2 _law_two, 3 _law_many, 4 _law_first, 5 _law_second, 6 _law_due, 7 _law_x, 8 _law_pair_here, 9 _law_found -/
def f_law_v3 : Fn := ⟨1, 10, [0, 0, 0, 0, 0, 0, 0, 0, 0, 0], 0,
  (.cons (.asgT (.cons (.name 1) (.cons (.name 2) .nil)) (.call 41 (.cons (.var 0) .nil)) [])
  (.cons (.asg 0 3 (.bin .add (.b2 .max (.ix (.var 1) (.int 0)) (.ix (.var 2) (.int 0))) (.int 840)) [])
  (.cons (.asg 0 4 (.call 22 (.cons (.var 1) (.cons (.var 3) .nil))) [])
  (.cons (.asg 0 5 (.call 22 (.cons (.var 2) (.cons (.var 3) .nil))) [])
  (.cons (.asg 0 6 .non [])
  (.cons (.for_ [] (.name 7) (.rng1 (.var 3)) f_law_v3_b1)
  (.cons (.for_ [] (.name 8) (.seq (.lst (.cons (.tup (.cons (.var 1) (.cons (.var 2) .nil))) (.cons (.tup (.cons (.var 2) (.cons (.var 1) .nil))) .nil)))) f_law_v3_b2)
  (.cons (.ite (.cmp .ne (.cmp .eq (.call 31 (.cons (.var 1) .nil)) (.call 31 (.cons (.var 2) .nil))) (.cmp .is_ (.var 6) .non))
    ((.cons (.ret 0 (.bl false))
    .nil))
    (.nil))
  (.cons (.ret 0 (.and (.cmp .is_ (.call 37 (.cons (.var 1) (.cons (.var 1) .nil))) .non) (.cmp .is_ (.call 37 (.cons (.var 2) (.cons (.var 2) .nil))) .non)))
  .nil)))))))))⟩
/- within: 0 one, 1 other, 2 first, 3 second, 4 base, 5 step, 6 a, 7 b -/
def f_within : Fn := ⟨2, 8, [0, 0, 0, 0, 0, 0, 0, 0], 0,
  (.cons (.asgT (.cons (.name 2) (.cons (.name 3) (.cons (.name 4) (.cons (.name 5) .nil)))) (.call 36 (.cons (.var 0) (.cons (.var 1) .nil))) [])
  (.cons (.ret 0 (.not (.b1 .any (.comp [6, 7] (.and (.var 6) (.not (.var 7))) (.tup (.cons (.name 6) (.cons (.name 7) .nil))) (.zip (.var 2) (.var 3)) .none))))
  .nil))⟩
/- both: 0 one, 1 other, 2 first, 3 second, 4 base, 5 step, 6 a, 7 b -/
def f_both : Fn := ⟨2, 8, [0, 0, 0, 0, 0, 0, 0, 0], 0,
  (.cons (.asgT (.cons (.name 2) (.cons (.name 3) (.cons (.name 4) (.cons (.name 5) .nil)))) (.call 36 (.cons (.var 0) (.cons (.var 1) .nil))) [])
  (.cons (.ret 0 (.call 29 (.cons (.comp [6, 7] (.and (.var 6) (.var 7)) (.tup (.cons (.name 6) (.cons (.name 7) .nil))) (.zip (.var 2) (.var 3)) .none) (.cons (.var 4) (.cons (.var 5) .nil)))))
  .nil))⟩
/- either: 0 one, 1 other, 2 first, 3 second, 4 base, 5 step, 6 a, 7 b -/
def f_either : Fn := ⟨2, 8, [0, 0, 0, 0, 0, 0, 0, 0], 0,
  (.cons (.asgT (.cons (.name 2) (.cons (.name 3) (.cons (.name 4) (.cons (.name 5) .nil)))) (.call 36 (.cons (.var 0) (.cons (.var 1) .nil))) [])
  (.cons (.ret 0 (.call 29 (.cons (.comp [6, 7] (.or (.var 6) (.var 7)) (.tup (.cons (.name 6) (.cons (.name 7) .nil))) (.zip (.var 2) (.var 3)) .none) (.cons (.var 4) (.cons (.var 5) .nil)))))
  .nil))⟩
/- less: 0 one, 1 other, 2 first, 3 second, 4 base, 5 step, 6 a, 7 b -/
def f_less : Fn := ⟨2, 8, [0, 0, 0, 0, 0, 0, 0, 0], 0,
  (.cons (.asgT (.cons (.name 2) (.cons (.name 3) (.cons (.name 4) (.cons (.name 5) .nil)))) (.call 36 (.cons (.var 0) (.cons (.var 1) .nil))) [])
  (.cons (.ret 0 (.call 29 (.cons (.comp [6, 7] (.and (.var 6) (.not (.var 7))) (.tup (.cons (.name 6) (.cons (.name 7) .nil))) (.zip (.var 2) (.var 3)) .none) (.cons (.var 4) (.cons (.var 5) .nil)))))
  .nil))⟩
/- _law_right: 0 _law_one, 1 _law_two, 2 _law_base, 3 _law_step, 4 _law_first, 5 _law_second, 6 _law_lies, 7 _law_a, 8 _law_b, 9 _law_due -/
def f_law_right_v1 : Fn := ⟨2, 10, [0, 0, 0, 0, 0, 0, 0, 0, 0, 0], 0,
  (.cons (.asg 0 2 (.b2 .max (.ix (.var 0) (.int 0)) (.ix (.var 1) (.int 0))) [])
  (.cons (.asg 0 3 (.bin .fdiv (.bin .mul (.ix (.var 0) (.int 1)) (.ix (.var 1) (.int 1))) (.call 38 (.cons (.ix (.var 0) (.int 1)) (.cons (.ix (.var 1) (.int 1)) .nil)))) [])
  (.cons (.asg 0 4 (.call 22 (.cons (.var 0) (.cons (.bin .add (.var 2) (.var 3)) .nil))) [])
  (.cons (.asg 0 5 (.call 22 (.cons (.var 1) (.cons (.bin .add (.var 2) (.var 3)) .nil))) [])
  (.cons (.asg 0 6 (.call 43 (.cons (.var 0) (.cons (.var 1) .nil))) [])
  (.cons (.ite (.or (.not (.isi .bool (.var 6))) (.cmp .ne (.var 6) (.b1 .all (.comp [7, 8] (.or (.var 8) (.not (.var 7))) (.tup (.cons (.name 7) (.cons (.name 8) .nil))) (.zip (.var 4) (.var 5)) .none))))
    ((.cons (.ret 0 (.bl false))
    .nil))
    (.nil))
  (.cons (.asg 0 9 (.call 32 (.cons (.comp [7, 8] (.and (.var 7) (.var 8)) (.tup (.cons (.name 7) (.cons (.name 8) .nil))) (.zip (.var 4) (.var 5)) .none) (.cons (.var 2) (.cons (.var 3) .nil)))) [])
  (.cons (.ite (.not (.call 33 (.cons (.call 44 (.cons (.var 0) (.cons (.var 1) .nil))) (.cons (.var 9) .nil))))
    ((.cons (.ret 0 (.bl false))
    .nil))
    (.nil))
  (.cons (.asg 0 9 (.call 32 (.cons (.comp [7, 8] (.or (.var 7) (.var 8)) (.tup (.cons (.name 7) (.cons (.name 8) .nil))) (.zip (.var 4) (.var 5)) .none) (.cons (.var 2) (.cons (.var 3) .nil)))) [])
  (.cons (.ite (.not (.call 33 (.cons (.call 45 (.cons (.var 0) (.cons (.var 1) .nil))) (.cons (.var 9) .nil))))
    ((.cons (.ret 0 (.bl false))
    .nil))
    (.nil))
  (.cons (.asg 0 9 (.call 32 (.cons (.comp [7, 8] (.and (.var 7) (.not (.var 8))) (.tup (.cons (.name 7) (.cons (.name 8) .nil))) (.zip (.var 4) (.var 5)) .none) (.cons (.var 2) (.cons (.var 3) .nil)))) [])
  (.cons (.ret 0 (.call 33 (.cons (.call 46 (.cons (.var 0) (.cons (.var 1) .nil))) (.cons (.var 9) .nil))))
  .nil))))))))))))⟩
def f_law_v4_b1 : Ss :=
  (.cons (.setIx 5 (.var 6) (.bl false) [])
  .nil)
/- law: 0 _law_script, 1 _law_one, 2 _law_two, 3 _law_draws_here, 4 _law_base, 5 _law_bits_here, 6 _law_x -/
def f_law_v4 : Fn := ⟨1, 7, [0, 0, 0, 0, 0, 1, 0], 0,
  (.cons (.asg 0 1 (.call 12 (.cons (.call 3 (.cons (.var 0) (.cons (.int 0) .nil))) (.cons (.int 999999937) .nil))) [])
  (.cons (.asg 0 2 (.call 12 (.cons (.call 3 (.cons (.var 0) (.cons (.int 1) .nil))) (.cons (.int 999999929) .nil))) [])
  (.cons (.asgT (.cons (.name 1) (.cons (.name 2) .nil)) (.call 40 (.cons (.var 1) (.cons (.var 2) (.cons (.call 3 (.cons (.var 0) (.cons (.int 3) .nil))) (.cons (.int 999999883) .nil))))) [])
  (.cons (.asg 0 3 (.call 5 (.cons (.call 3 (.cons (.var 0) (.cons (.int 2) .nil))) (.cons (.lst (.cons (.int 4) (.cons (.int 3001) .nil))) (.cons (.int 999999893) .nil)))) [])
  (.cons (.ite (.cmp .eq (.ix (.var 3) (.int 0)) (.int 0))
    ((.cons (.asg 0 4 (.b2 .max (.ix (.var 1) (.int 0)) (.b2 .min (.int 3000) (.bin .mod (.ix (.var 3) (.int 1)) (.bin .add (.ix (.var 1) (.int 0)) (.bin .mul (.int 2) (.ix (.var 1) (.int 1))))))) [])
    (.cons (.asg 1 5 (.call 22 (.cons (.var 1) (.cons (.bin .add (.var 4) (.ix (.var 1) (.int 1))) .nil))) [])
    (.cons (.for_ [] (.name 6) (.rng1 (.bin .mod (.ix (.var 3) (.int 1)) (.bin .add (.var 4) (.int 1)))) f_law_v4_b1)
    (.cons (.asg 0 2 (.call 11 (.cons (.var 5) (.cons (.var 4) (.cons (.ix (.var 1) (.int 1)) .nil)))) [5])
    .nil)))))
    (.nil))
  (.cons (.ret 0 (.and (.call 47 (.cons (.var 1) (.cons (.var 2) .nil))) (.call 47 (.cons (.var 2) (.cons (.var 1) .nil)))))
  .nil))))))⟩
/- how_many: 0 stair, 1 x, 2 base, 3 step, 4 once, 5 again, 6 y, 7 rounds, 8 left -/
def f_how_many : Fn := ⟨2, 9, [0, 0, 0, 0, 0, 0, 0, 0, 0], 0,
  (.cons (.expr (.call 16 (.cons (.var 0) .nil)))
  (.cons (.asgT (.cons (.name 2) (.cons (.name 3) (.cons (.name 4) (.cons (.name 5) .nil)))) (.var 0) [])
  (.cons (.ite (.cmp .le (.var 1) (.var 2))
    ((.cons (.ret 0 (.b1 .len (.comp [6] (.var 6) (.name 6) (.seq (.var 4)) (.some (.cmp .lt (.var 6) (.var 1))))))
    .nil))
    (.nil))
  (.cons (.asgT (.cons (.name 7) (.cons (.name 8) .nil)) (.divmod (.bin .sub (.var 1) (.var 2)) (.var 3)) [])
  (.cons (.ret 0 (.bin .add (.bin .add (.b1 .len (.var 4)) (.bin .mul (.var 7) (.b1 .len (.var 5)))) (.b1 .len (.comp [6] (.var 6) (.name 6) (.seq (.var 5)) (.some (.cmp .lt (.var 6) (.bin .add (.var 2) (.var 8))))))))
  .nil)))))⟩
/- rest_of: 0 stair, 1 base, 2 step, 3 bit -/
def f_rest_of : Fn := ⟨1, 4, [0, 0, 0, 0], 0,
  (.cons (.expr (.call 16 (.cons (.var 0) .nil)))
  (.cons (.asgT (.cons (.name 1) (.cons (.name 2) .nil)) (.slice (.var 0) .none (.some (.int 2))) [])
  (.cons (.ret 0 (.call 29 (.cons (.comp [3] (.not (.var 3)) (.name 3) (.seq (.call 27 (.cons (.var 0) (.cons (.bin .add (.var 1) (.var 2)) .nil)))) .none) (.cons (.var 1) (.cons (.var 2) .nil)))))
  .nil)))⟩
/- law: 0 _law_script, 1 _law_one, 2 _law_two, 3 _law_bits_here, 4 _law_bit, 5 _law_other, 6 _law_x -/
def f_law_v5 : Fn := ⟨1, 7, [0, 0, 0, 0, 0, 0, 0], 0,
  (.cons (.asg 0 1 (.call 12 (.cons (.call 3 (.cons (.var 0) (.cons (.int 0) .nil))) (.cons (.int 999999937) .nil))) [])
  (.cons (.asg 0 2 (.call 12 (.cons (.call 3 (.cons (.var 0) (.cons (.int 1) .nil))) (.cons (.int 999999929) .nil))) [])
  (.cons (.asgT (.cons (.name 1) (.cons (.name 2) .nil)) (.call 40 (.cons (.var 1) (.cons (.var 2) (.cons (.call 3 (.cons (.var 0) (.cons (.int 3) .nil))) (.cons (.int 999999883) .nil))))) [])
  (.cons (.asg 0 3 (.comp [4] (.not (.var 4)) (.name 4) (.seq (.call 22 (.cons (.var 1) (.cons (.bin .add (.ix (.var 1) (.int 0)) (.ix (.var 1) (.int 1))) .nil)))) .none) [])
  (.cons (.asg 0 5 (.call 49 (.cons (.var 1) .nil)) [])
  (.cons (.ite (.not (.call 33 (.cons (.var 5) (.cons (.call 32 (.cons (.var 3) (.cons (.ix (.var 1) (.int 0)) (.cons (.ix (.var 1) (.int 1)) .nil)))) .nil))))
    ((.cons (.ret 0 (.bl false))
    .nil))
    (.nil))
  (.cons (.ite (.or (.cmp .ne (.call 44 (.cons (.var 1) (.cons (.var 5) .nil))) (.tup (.cons (.int 0) (.cons (.int 1) (.cons (.tup .nil) (.cons (.tup .nil) .nil)))))) (.cmp .ne (.call 45 (.cons (.var 1) (.cons (.var 5) .nil))) (.tup (.cons (.int 0) (.cons (.int 1) (.cons (.tup .nil) (.cons (.tup (.cons (.int 0) .nil)) .nil)))))))
    ((.cons (.ret 0 (.bl false))
    .nil))
    (.nil))
  (.cons (.ite (.or (.cmp .ne (.call 46 (.cons (.var 2) (.cons (.var 1) .nil))) (.call 44 (.cons (.var 2) (.cons (.var 5) .nil)))) (.cmp .ne (.call 49 (.cons (.var 5) .nil)) (.call 31 (.cons (.var 1) .nil))))
    ((.cons (.ret 0 (.bl false))
    .nil))
    (.nil))
  (.cons (.ite (.cmp .ne (.call 43 (.cons (.var 2) (.cons (.var 1) .nil))) (.cmp .eq (.call 46 (.cons (.var 2) (.cons (.var 1) .nil))) (.tup (.cons (.int 0) (.cons (.int 1) (.cons (.tup .nil) (.cons (.tup .nil) .nil)))))))
    ((.cons (.ret 0 (.bl false))
    .nil))
    (.nil))
  (.cons (.asg 0 6 (.ix (.call 5 (.cons (.call 3 (.cons (.var 0) (.cons (.int 2) .nil))) (.cons (.lst (.cons (.bin .pow (.int 10) (.int 4)) .nil)) (.cons (.int 999999893) .nil)))) (.int 0)) [])
  (.cons (.ret 0 (.cmp .eq (.bin .add (.call 19 (.cons (.var 1) (.cons (.var 6) .nil))) (.call 19 (.cons (.var 2) (.cons (.var 6) .nil)))) (.bin .add (.call 19 (.cons (.call 44 (.cons (.var 1) (.cons (.var 2) .nil))) (.cons (.var 6) .nil))) (.call 19 (.cons (.call 45 (.cons (.var 1) (.cons (.var 2) .nil))) (.cons (.var 6) .nil))))))
  .nil)))))))))))⟩
def Tb : Tab := [(0, f_is_number),
  (1, f_is_rising),
  (2, f_is_stair),
  (3, f_law_cell),
  (4, f_law_mixed),
  (5, f_law_draws),
  (6, f_law_spare),
  (7, f_law_whole),
  (8, f_law_rises),
  (9, f_law_is_stair),
  (10, f_law_bits),
  (11, f_law_stair_of),
  (12, f_law_some_stair),
  (13, f_law_rows_spoilt),
  (14, f_law_spoilt),
  (15, f_law),
  (16, f_check_stair),
  (27, f_bits_of),
  (28, f_least_step),
  (29, f_least_of_bits),
  (30, f_least_by),
  (31, f_least),
  (32, f_law_least),
  (22, f_law_stair_bits),
  (33, f_law_is_due),
  (34, f_law_v2),
  (35, f_shared_by),
  (36, f_levelled),
  (37, f_parting),
  (20, f_law_is),
  (38, f_law_shared),
  (39, f_law_stepped),
  (40, f_law_pair),
  (41, f_law_two_drawn),
  (42, f_law_v3),
  (43, f_within),
  (44, f_both),
  (45, f_either),
  (46, f_less),
  (47, f_law_right_v1),
  (48, f_law_v4),
  (19, f_how_many),
  (49, f_rest_of),
  (50, f_law_v5)]
end Ev
set_option Elab.async false
set_option linter.all false
set_option maxRecDepth 100000
namespace Ev
open PySem PySem.Spec PyProof.Rows L2
/-! ### the text of law_k07_rules_of_stairs -/
def topS (i : Nat) : Stmt := PySem.Challenge.pw_stairrooms_k07_rules_of_stairs.main.body.getD i (.Pass ⟨0, 0, 0, 0⟩)
def Gl : Gt := ⟨[(("is_number" : Str), 0, 1, 0), (("is_rising" : Str), 1, 3, 0), (("is_stair" : Str), 2, 1, 0), (("check_stair" : Str), 16, 1, 0), (("bits_of" : Str), 27, 2, 0), (("least_step" : Str), 28, 3, 0), (("least_of_bits" : Str), 29, 3, 0), (("least_by" : Str), 30, 1, 0), (("least" : Str), 31, 1, 0), (("how_many" : Str), 19, 2, 0), (("rest_of" : Str), 49, 1, 0), (("shared_by" : Str), 35, 2, 0), (("levelled" : Str), 36, 2, 0), (("within" : Str), 43, 2, 0), (("both" : Str), 44, 2, 0), (("either" : Str), 45, 2, 0), (("less" : Str), 46, 2, 0), (("_law_cell" : Str), 3, 2, 0), (("_law_mixed" : Str), 4, 3, 0), (("_law_draws" : Str), 5, 3, 0), (("_law_spare" : Str), 6, 2, 0), (("_law_whole" : Str), 7, 1, 0), (("_law_rises" : Str), 8, 3, 0), (("_law_is_stair" : Str), 9, 1, 0), (("_law_least" : Str), 32, 3, 0), (("_law_bits" : Str), 10, 3, 1), (("_law_stair_of" : Str), 11, 3, 0), (("_law_some_stair" : Str), 12, 2, 0), (("_law_stair_bits" : Str), 22, 2, 1), (("_law_is_due" : Str), 33, 2, 0), (("_law_shared" : Str), 38, 2, 0), (("_law_stepped" : Str), 39, 2, 0), (("_law_pair" : Str), 40, 4, 0)],
  [("GREATEST_BASE", (.int 3000)), ("GREATEST_STEP", (.int 840))], [], ["isinstance", "int", "bool", "tuple", "all", "len", "range", "divmod", "max", "any", "zip", "min"]⟩
theorem sc_is_number : FnScope ["thing"] ["thing"] (defScope (topS 7)) := ⟨rfl, rfl, rfl, by decide +kernel, rfl, by decide +kernel, by decide +kernel⟩
set_option maxHeartbeats 0 in
theorem tx_is_number : chkSs Gl ["thing"] f_is_number.own f_is_number.ret f_is_number.body (defScope (topS 7)) (defBody (topS 7)) = true := by decide +kernel
theorem sc_is_rising : FnScope ["row", "low", "high", "x", "last"] ["row", "low", "high"] (defScope (topS 8)) := ⟨rfl, rfl, rfl, by decide +kernel, rfl, by decide +kernel, by decide +kernel⟩
set_option maxHeartbeats 0 in
theorem tx_is_rising : chkSs Gl ["row", "low", "high", "x", "last"] f_is_rising.own f_is_rising.ret f_is_rising.body (defScope (topS 8)) (defBody (topS 8)) = true := by decide +kernel
theorem sc_is_stair : FnScope ["thing", "base", "step", "once", "again"] ["thing"] (defScope (topS 9)) := ⟨rfl, rfl, rfl, by decide +kernel, rfl, by decide +kernel, by decide +kernel⟩
set_option maxHeartbeats 0 in
theorem tx_is_stair : chkSs Gl ["thing", "base", "step", "once", "again"] f_is_stair.own f_is_stair.ret f_is_stair.body (defScope (topS 9)) (defBody (topS 9)) = true := by decide +kernel
theorem sc_check_stair : FnScope ["stair"] ["stair"] (defScope (topS 10)) := ⟨rfl, rfl, rfl, by decide +kernel, rfl, by decide +kernel, by decide +kernel⟩
set_option maxHeartbeats 0 in
theorem tx_check_stair : chkSs Gl ["stair"] f_check_stair.own f_check_stair.ret f_check_stair.body (defScope (topS 10)) (defBody (topS 10)) = true := by decide +kernel
theorem sc_bits_of : FnScope ["stair", "many", "base", "step", "once", "again", "bits", "x", "far"] ["stair", "many"] (defScope (topS 11)) := ⟨rfl, rfl, rfl, by decide +kernel, rfl, by decide +kernel, by decide +kernel⟩
set_option maxHeartbeats 0 in
theorem tx_bits_of : chkSs Gl ["stair", "many", "base", "step", "once", "again", "bits", "x", "far"] f_bits_of.own f_bits_of.ret f_bits_of.body (defScope (topS 11)) (defBody (topS 11)) = true := by decide +kernel
theorem sc_least_step : FnScope ["bits", "base", "step", "by"] ["bits", "base", "step"] (defScope (topS 12)) := ⟨rfl, rfl, rfl, by decide +kernel, rfl, by decide +kernel, by decide +kernel⟩
set_option maxHeartbeats 0 in
theorem tx_least_step : chkSs Gl ["bits", "base", "step", "by"] f_least_step.own f_least_step.ret f_least_step.body (defScope (topS 12)) (defBody (topS 12)) = true := by decide +kernel
theorem sc_least_of_bits : FnScope ["bits", "base", "step", "once", "x", "again"] ["bits", "base", "step"] (defScope (topS 13)) := ⟨rfl, rfl, rfl, by decide +kernel, rfl, by decide +kernel, by decide +kernel⟩
set_option maxHeartbeats 0 in
theorem tx_least_of_bits : chkSs Gl ["bits", "base", "step", "once", "x", "again"] f_least_of_bits.own f_least_of_bits.ret f_least_of_bits.body (defScope (topS 13)) (defBody (topS 13)) = true := by decide +kernel
theorem sc_least_by : FnScope ["stair"] ["stair"] (defScope (topS 14)) := ⟨rfl, rfl, rfl, by decide +kernel, rfl, by decide +kernel, by decide +kernel⟩
set_option maxHeartbeats 0 in
theorem tx_least_by : chkSs Gl ["stair"] f_least_by.own f_least_by.ret f_least_by.body (defScope (topS 14)) (defBody (topS 14)) = true := by decide +kernel
theorem sc_least : FnScope ["stair"] ["stair"] (defScope (topS 15)) := ⟨rfl, rfl, rfl, by decide +kernel, rfl, by decide +kernel, by decide +kernel⟩
set_option maxHeartbeats 0 in
theorem tx_least : chkSs Gl ["stair"] f_least.own f_least.ret f_least.body (defScope (topS 15)) (defBody (topS 15)) = true := by decide +kernel
theorem sc_how_many : FnScope ["stair", "x", "base", "step", "once", "again", "y", "rounds", "left"] ["stair", "x"] (defScope (topS 16)) := ⟨rfl, rfl, rfl, by decide +kernel, rfl, by decide +kernel, by decide +kernel⟩
set_option maxHeartbeats 0 in
theorem tx_how_many : chkSs Gl ["stair", "x", "base", "step", "once", "again", "y", "rounds", "left"] f_how_many.own f_how_many.ret f_how_many.body (defScope (topS 16)) (defBody (topS 16)) = true := by decide +kernel
theorem sc_rest_of : FnScope ["stair", "base", "step", "bit"] ["stair"] (defScope (topS 17)) := ⟨rfl, rfl, rfl, by decide +kernel, rfl, by decide +kernel, by decide +kernel⟩
set_option maxHeartbeats 0 in
theorem tx_rest_of : chkSs Gl ["stair", "base", "step", "bit"] f_rest_of.own f_rest_of.ret f_rest_of.body (defScope (topS 17)) (defBody (topS 17)) = true := by decide +kernel
theorem sc_shared_by : FnScope ["a", "b"] ["a", "b"] (defScope (topS 19)) := ⟨rfl, rfl, rfl, by decide +kernel, rfl, by decide +kernel, by decide +kernel⟩
set_option maxHeartbeats 0 in
theorem tx_shared_by : chkSs Gl ["a", "b"] f_shared_by.own f_shared_by.ret f_shared_by.body (defScope (topS 19)) (defBody (topS 19)) = true := by decide +kernel
theorem sc_levelled : FnScope ["one", "other", "step", "base"] ["one", "other"] (defScope (topS 20)) := ⟨rfl, rfl, rfl, by decide +kernel, rfl, by decide +kernel, by decide +kernel⟩
set_option maxHeartbeats 0 in
theorem tx_levelled : chkSs Gl ["one", "other", "step", "base"] f_levelled.own f_levelled.ret f_levelled.body (defScope (topS 20)) (defBody (topS 20)) = true := by decide +kernel
theorem sc_within : FnScope ["one", "other", "first", "second", "base", "step", "a", "b"] ["one", "other"] (defScope (topS 21)) := ⟨rfl, rfl, rfl, by decide +kernel, rfl, by decide +kernel, by decide +kernel⟩
set_option maxHeartbeats 0 in
theorem tx_within : chkSs Gl ["one", "other", "first", "second", "base", "step", "a", "b"] f_within.own f_within.ret f_within.body (defScope (topS 21)) (defBody (topS 21)) = true := by decide +kernel
theorem sc_both : FnScope ["one", "other", "first", "second", "base", "step", "a", "b"] ["one", "other"] (defScope (topS 22)) := ⟨rfl, rfl, rfl, by decide +kernel, rfl, by decide +kernel, by decide +kernel⟩
set_option maxHeartbeats 0 in
theorem tx_both : chkSs Gl ["one", "other", "first", "second", "base", "step", "a", "b"] f_both.own f_both.ret f_both.body (defScope (topS 22)) (defBody (topS 22)) = true := by decide +kernel
theorem sc_either : FnScope ["one", "other", "first", "second", "base", "step", "a", "b"] ["one", "other"] (defScope (topS 23)) := ⟨rfl, rfl, rfl, by decide +kernel, rfl, by decide +kernel, by decide +kernel⟩
set_option maxHeartbeats 0 in
theorem tx_either : chkSs Gl ["one", "other", "first", "second", "base", "step", "a", "b"] f_either.own f_either.ret f_either.body (defScope (topS 23)) (defBody (topS 23)) = true := by decide +kernel
theorem sc_less : FnScope ["one", "other", "first", "second", "base", "step", "a", "b"] ["one", "other"] (defScope (topS 24)) := ⟨rfl, rfl, rfl, by decide +kernel, rfl, by decide +kernel, by decide +kernel⟩
set_option maxHeartbeats 0 in
theorem tx_less : chkSs Gl ["one", "other", "first", "second", "base", "step", "a", "b"] f_less.own f_less.ret f_less.body (defScope (topS 24)) (defBody (topS 24)) = true := by decide +kernel
theorem sc__law_cell : FnScope ["_law_script", "_law_k"] ["_law_script", "_law_k"] (defScope (topS 26)) := ⟨rfl, rfl, rfl, by decide +kernel, rfl, by decide +kernel, by decide +kernel⟩
set_option maxHeartbeats 0 in
theorem tx__law_cell : chkSs Gl ["_law_script", "_law_k"] f_law_cell.own f_law_cell.ret f_law_cell.body (defScope (topS 26)) (defBody (topS 26)) = true := by decide +kernel
theorem sc__law_mixed : FnScope ["_law_cell_here", "_law_k", "_law_prime", "_law_far"] ["_law_cell_here", "_law_k", "_law_prime"] (defScope (topS 27)) := ⟨rfl, rfl, rfl, by decide +kernel, rfl, by decide +kernel, by decide +kernel⟩
set_option maxHeartbeats 0 in
theorem tx__law_mixed : chkSs Gl ["_law_cell_here", "_law_k", "_law_prime", "_law_far"] f_law_mixed.own f_law_mixed.ret f_law_mixed.body (defScope (topS 27)) (defBody (topS 27)) = true := by decide +kernel
theorem sc__law_draws : FnScope ["_law_cell_here", "_law_widths", "_law_prime", "_law_left", "_law_found", "_law_k"] ["_law_cell_here", "_law_widths", "_law_prime"] (defScope (topS 28)) := ⟨rfl, rfl, rfl, by decide +kernel, rfl, by decide +kernel, by decide +kernel⟩
set_option maxHeartbeats 0 in
theorem tx__law_draws : chkSs Gl ["_law_cell_here", "_law_widths", "_law_prime", "_law_left", "_law_found", "_law_k"] f_law_draws.own f_law_draws.ret f_law_draws.body (defScope (topS 28)) (defBody (topS 28)) = true := by decide +kernel
theorem sc__law_spare : FnScope ["_law_cell_here", "_law_width"] ["_law_cell_here", "_law_width"] (defScope (topS 29)) := ⟨rfl, rfl, rfl, by decide +kernel, rfl, by decide +kernel, by decide +kernel⟩
set_option maxHeartbeats 0 in
theorem tx__law_spare : chkSs Gl ["_law_cell_here", "_law_width"] f_law_spare.own f_law_spare.ret f_law_spare.body (defScope (topS 29)) (defBody (topS 29)) = true := by decide +kernel
theorem sc__law_whole : FnScope ["_law_found"] ["_law_found"] (defScope (topS 30)) := ⟨rfl, rfl, rfl, by decide +kernel, rfl, by decide +kernel, by decide +kernel⟩
set_option maxHeartbeats 0 in
theorem tx__law_whole : chkSs Gl ["_law_found"] f_law_whole.own f_law_whole.ret f_law_whole.body (defScope (topS 30)) (defBody (topS 30)) = true := by decide +kernel
theorem sc__law_rises : FnScope ["_law_row", "_law_low", "_law_high", "_law_part", "_law_one", "_law_two"] ["_law_row", "_law_low", "_law_high"] (defScope (topS 31)) := ⟨rfl, rfl, rfl, by decide +kernel, rfl, by decide +kernel, by decide +kernel⟩
set_option maxHeartbeats 0 in
theorem tx__law_rises : chkSs Gl ["_law_row", "_law_low", "_law_high", "_law_part", "_law_one", "_law_two"] f_law_rises.own f_law_rises.ret f_law_rises.body (defScope (topS 31)) (defBody (topS 31)) = true := by decide +kernel
theorem sc__law_is_stair : FnScope ["_law_found"] ["_law_found"] (defScope (topS 32)) := ⟨rfl, rfl, rfl, by decide +kernel, rfl, by decide +kernel, by decide +kernel⟩
set_option maxHeartbeats 0 in
theorem tx__law_is_stair : chkSs Gl ["_law_found"] f_law_is_stair.own f_law_is_stair.ret f_law_is_stair.body (defScope (topS 32)) (defBody (topS 32)) = true := by decide +kernel
theorem sc__law_least : FnScope ["_law_bits_here", "_law_base", "_law_step", "_law_best", "_law_s", "_law_alike", "_law_k", "_law_once", "_law_x"] ["_law_bits_here", "_law_base", "_law_step"] (defScope (topS 33)) := ⟨rfl, rfl, rfl, by decide +kernel, rfl, by decide +kernel, by decide +kernel⟩
set_option maxHeartbeats 0 in
theorem tx__law_least : chkSs Gl ["_law_bits_here", "_law_base", "_law_step", "_law_best", "_law_s", "_law_alike", "_law_k", "_law_once", "_law_x"] f_law_least.own f_law_least.ret f_law_least.body (defScope (topS 33)) (defBody (topS 33)) = true := by decide +kernel
theorem sc__law_bits : FnScope ["_law_cell_here", "_law_many", "_law_prime", "_law_bit", "_law_draws_here", "_law_x"] ["_law_cell_here", "_law_many", "_law_prime"] (defScope (topS 34)) := ⟨rfl, rfl, rfl, by decide +kernel, rfl, by decide +kernel, by decide +kernel⟩
set_option maxHeartbeats 0 in
theorem tx__law_bits : chkSs Gl ["_law_cell_here", "_law_many", "_law_prime", "_law_bit", "_law_draws_here", "_law_x"] f_law_bits.own f_law_bits.ret f_law_bits.body (defScope (topS 34)) (defBody (topS 34)) = true := by decide +kernel
theorem sc__law_stair_of : FnScope ["_law_bits_here", "_law_base", "_law_step", "_law_once", "_law_x"] ["_law_bits_here", "_law_base", "_law_step"] (defScope (topS 35)) := ⟨rfl, rfl, rfl, by decide +kernel, rfl, by decide +kernel, by decide +kernel⟩
set_option maxHeartbeats 0 in
theorem tx__law_stair_of : chkSs Gl ["_law_bits_here", "_law_base", "_law_step", "_law_once", "_law_x"] f_law_stair_of.own f_law_stair_of.ret f_law_stair_of.body (defScope (topS 35)) (defBody (topS 35)) = true := by decide +kernel
theorem sc__law_some_stair : FnScope ["_law_cell_here", "_law_prime", "_law_draws_here", "_law_base", "_law_step", "_law_bits_here", "_law_part", "_law_by", "_law_k", "_law_x"] ["_law_cell_here", "_law_prime"] (defScope (topS 36)) := ⟨rfl, rfl, rfl, by decide +kernel, rfl, by decide +kernel, by decide +kernel⟩
set_option maxHeartbeats 0 in
theorem tx__law_some_stair : chkSs Gl ["_law_cell_here", "_law_prime", "_law_draws_here", "_law_base", "_law_step", "_law_bits_here", "_law_part", "_law_by", "_law_k", "_law_x"] f_law_some_stair.own f_law_some_stair.ret f_law_some_stair.body (defScope (topS 36)) (defBody (topS 36)) = true := by decide +kernel
theorem sc__law_stair_bits : FnScope ["_law_stair", "_law_many", "_law_bits_here", "_law_x", "_law_far"] ["_law_stair", "_law_many"] (defScope (topS 37)) := ⟨rfl, rfl, rfl, by decide +kernel, rfl, by decide +kernel, by decide +kernel⟩
set_option maxHeartbeats 0 in
theorem tx__law_stair_bits : chkSs Gl ["_law_stair", "_law_many", "_law_bits_here", "_law_x", "_law_far"] f_law_stair_bits.own f_law_stair_bits.ret f_law_stair_bits.body (defScope (topS 37)) (defBody (topS 37)) = true := by decide +kernel
theorem sc__law_is_due : FnScope ["_law_found", "_law_due"] ["_law_found", "_law_due"] (defScope (topS 38)) := ⟨rfl, rfl, rfl, by decide +kernel, rfl, by decide +kernel, by decide +kernel⟩
set_option maxHeartbeats 0 in
theorem tx__law_is_due : chkSs Gl ["_law_found", "_law_due"] f_law_is_due.own f_law_is_due.ret f_law_is_due.body (defScope (topS 38)) (defBody (topS 38)) = true := by decide +kernel
theorem sc__law_shared : FnScope ["_law_a", "_law_b"] ["_law_a", "_law_b"] (defScope (topS 39)) := ⟨rfl, rfl, rfl, by decide +kernel, rfl, by decide +kernel, by decide +kernel⟩
set_option maxHeartbeats 0 in
theorem tx__law_shared : chkSs Gl ["_law_a", "_law_b"] f_law_shared.own f_law_shared.ret f_law_shared.body (defScope (topS 39)) (defBody (topS 39)) = true := by decide +kernel
theorem sc__law_stepped : FnScope ["_law_stair", "_law_step"] ["_law_stair", "_law_step"] (defScope (topS 40)) := ⟨rfl, rfl, rfl, by decide +kernel, rfl, by decide +kernel, by decide +kernel⟩
set_option maxHeartbeats 0 in
theorem tx__law_stepped : chkSs Gl ["_law_stair", "_law_step"] f_law_stepped.own f_law_stepped.ret f_law_stepped.body (defScope (topS 40)) (defBody (topS 40)) = true := by decide +kernel
theorem sc__law_pair : FnScope ["_law_one", "_law_two", "_law_cell_here", "_law_prime", "_law_draws_here", "_law_d", "_law_a", "_law_e"] ["_law_one", "_law_two", "_law_cell_here", "_law_prime"] (defScope (topS 41)) := ⟨rfl, rfl, rfl, by decide +kernel, rfl, by decide +kernel, by decide +kernel⟩
set_option maxHeartbeats 0 in
theorem tx__law_pair : chkSs Gl ["_law_one", "_law_two", "_law_cell_here", "_law_prime", "_law_draws_here", "_law_d", "_law_a", "_law_e"] f_law_pair.own f_law_pair.ret f_law_pair.body (defScope (topS 41)) (defBody (topS 41)) = true := by decide +kernel
theorem sc_law : FnScope ["_law_script", "_law_one", "_law_two", "_law_bits_here", "_law_bit", "_law_other", "_law_x"] ["_law_script"] (defScope (topS 42)) := ⟨rfl, rfl, rfl, by decide +kernel, rfl, by decide +kernel, by decide +kernel⟩
set_option maxHeartbeats 0 in
theorem tx_law : chkSs Gl ["_law_script", "_law_one", "_law_two", "_law_bits_here", "_law_bit", "_law_other", "_law_x"] f_law_v5.own f_law_v5.ret f_law_v5.body (defScope (topS 42)) (defBody (topS 42)) = true := by decide +kernel
section
theorem head {K : PySem.W.Frag} {h : Heap} {mg : Str → Option Value} (X : K.In h) (Gn : h.Ns mainGlobals mg)
    {f0 : Addr} {od0 an0 : Option Addr} {sl0 : Array (Option Value)} {oc0 kV0 dc0 pm0 cd0 ct0 : Value}
    (a0 : PySem.W.nsIn K mainGlobals "is_number" = some (some (.ref f0))) (l0 : K.lookup f0 = some ⟨oc0, od0, .func (PySem.W.fnOf "is_number" "is_number" (defArgs (topS 7)) (defBody (topS 7)) (defScope (topS 7)) .none kV0 dc0 pm0 an0 cd0 ct0), sl0⟩) (c0 : PySem.W.codeIn K cd0 "is_number" = true) (k0 : PySem.W.keepIn K (.ref f0) = true)
    {f1 : Addr} {od1 an1 : Option Addr} {sl1 : Array (Option Value)} {oc1 kV1 dc1 pm1 cd1 ct1 : Value}
    (a1 : PySem.W.nsIn K mainGlobals "is_rising" = some (some (.ref f1))) (l1 : K.lookup f1 = some ⟨oc1, od1, .func (PySem.W.fnOf "is_rising" "is_rising" (defArgs (topS 8)) (defBody (topS 8)) (defScope (topS 8)) .none kV1 dc1 pm1 an1 cd1 ct1), sl1⟩) (c1 : PySem.W.codeIn K cd1 "is_rising" = true) (k1 : PySem.W.keepIn K (.ref f1) = true)
    {f2 : Addr} {od2 an2 : Option Addr} {sl2 : Array (Option Value)} {oc2 kV2 dc2 pm2 cd2 ct2 : Value}
    (a2 : PySem.W.nsIn K mainGlobals "is_stair" = some (some (.ref f2))) (l2 : K.lookup f2 = some ⟨oc2, od2, .func (PySem.W.fnOf "is_stair" "is_stair" (defArgs (topS 9)) (defBody (topS 9)) (defScope (topS 9)) .none kV2 dc2 pm2 an2 cd2 ct2), sl2⟩) (c2 : PySem.W.codeIn K cd2 "is_stair" = true) (k2 : PySem.W.keepIn K (.ref f2) = true)
    {f3 : Addr} {od3 an3 : Option Addr} {sl3 : Array (Option Value)} {oc3 kV3 dc3 pm3 cd3 ct3 : Value}
    (a3 : PySem.W.nsIn K mainGlobals "check_stair" = some (some (.ref f3))) (l3 : K.lookup f3 = some ⟨oc3, od3, .func (PySem.W.fnOf "check_stair" "check_stair" (defArgs (topS 10)) (defBody (topS 10)) (defScope (topS 10)) .none kV3 dc3 pm3 an3 cd3 ct3), sl3⟩) (c3 : PySem.W.codeIn K cd3 "check_stair" = true) (k3 : PySem.W.keepIn K (.ref f3) = true)
    {f4 : Addr} {od4 an4 : Option Addr} {sl4 : Array (Option Value)} {oc4 kV4 dc4 pm4 cd4 ct4 : Value}
    (a4 : PySem.W.nsIn K mainGlobals "bits_of" = some (some (.ref f4))) (l4 : K.lookup f4 = some ⟨oc4, od4, .func (PySem.W.fnOf "bits_of" "bits_of" (defArgs (topS 11)) (defBody (topS 11)) (defScope (topS 11)) .none kV4 dc4 pm4 an4 cd4 ct4), sl4⟩) (c4 : PySem.W.codeIn K cd4 "bits_of" = true) (k4 : PySem.W.keepIn K (.ref f4) = true)
    {f5 : Addr} {od5 an5 : Option Addr} {sl5 : Array (Option Value)} {oc5 kV5 dc5 pm5 cd5 ct5 : Value}
    (a5 : PySem.W.nsIn K mainGlobals "least_step" = some (some (.ref f5))) (l5 : K.lookup f5 = some ⟨oc5, od5, .func (PySem.W.fnOf "least_step" "least_step" (defArgs (topS 12)) (defBody (topS 12)) (defScope (topS 12)) .none kV5 dc5 pm5 an5 cd5 ct5), sl5⟩) (c5 : PySem.W.codeIn K cd5 "least_step" = true) (k5 : PySem.W.keepIn K (.ref f5) = true)
    {f6 : Addr} {od6 an6 : Option Addr} {sl6 : Array (Option Value)} {oc6 kV6 dc6 pm6 cd6 ct6 : Value}
    (a6 : PySem.W.nsIn K mainGlobals "least_of_bits" = some (some (.ref f6))) (l6 : K.lookup f6 = some ⟨oc6, od6, .func (PySem.W.fnOf "least_of_bits" "least_of_bits" (defArgs (topS 13)) (defBody (topS 13)) (defScope (topS 13)) .none kV6 dc6 pm6 an6 cd6 ct6), sl6⟩) (c6 : PySem.W.codeIn K cd6 "least_of_bits" = true) (k6 : PySem.W.keepIn K (.ref f6) = true)
    {f7 : Addr} {od7 an7 : Option Addr} {sl7 : Array (Option Value)} {oc7 kV7 dc7 pm7 cd7 ct7 : Value}
    (a7 : PySem.W.nsIn K mainGlobals "least_by" = some (some (.ref f7))) (l7 : K.lookup f7 = some ⟨oc7, od7, .func (PySem.W.fnOf "least_by" "least_by" (defArgs (topS 14)) (defBody (topS 14)) (defScope (topS 14)) .none kV7 dc7 pm7 an7 cd7 ct7), sl7⟩) (c7 : PySem.W.codeIn K cd7 "least_by" = true) (k7 : PySem.W.keepIn K (.ref f7) = true)
    {f8 : Addr} {od8 an8 : Option Addr} {sl8 : Array (Option Value)} {oc8 kV8 dc8 pm8 cd8 ct8 : Value}
    (a8 : PySem.W.nsIn K mainGlobals "least" = some (some (.ref f8))) (l8 : K.lookup f8 = some ⟨oc8, od8, .func (PySem.W.fnOf "least" "least" (defArgs (topS 15)) (defBody (topS 15)) (defScope (topS 15)) .none kV8 dc8 pm8 an8 cd8 ct8), sl8⟩) (c8 : PySem.W.codeIn K cd8 "least" = true) (k8 : PySem.W.keepIn K (.ref f8) = true)
    {f9 : Addr} {od9 an9 : Option Addr} {sl9 : Array (Option Value)} {oc9 kV9 dc9 pm9 cd9 ct9 : Value}
    (a9 : PySem.W.nsIn K mainGlobals "how_many" = some (some (.ref f9))) (l9 : K.lookup f9 = some ⟨oc9, od9, .func (PySem.W.fnOf "how_many" "how_many" (defArgs (topS 16)) (defBody (topS 16)) (defScope (topS 16)) .none kV9 dc9 pm9 an9 cd9 ct9), sl9⟩) (c9 : PySem.W.codeIn K cd9 "how_many" = true) (k9 : PySem.W.keepIn K (.ref f9) = true)
    {f10 : Addr} {od10 an10 : Option Addr} {sl10 : Array (Option Value)} {oc10 kV10 dc10 pm10 cd10 ct10 : Value}
    (a10 : PySem.W.nsIn K mainGlobals "rest_of" = some (some (.ref f10))) (l10 : K.lookup f10 = some ⟨oc10, od10, .func (PySem.W.fnOf "rest_of" "rest_of" (defArgs (topS 17)) (defBody (topS 17)) (defScope (topS 17)) .none kV10 dc10 pm10 an10 cd10 ct10), sl10⟩) (c10 : PySem.W.codeIn K cd10 "rest_of" = true) (k10 : PySem.W.keepIn K (.ref f10) = true)
    {f11 : Addr} {od11 an11 : Option Addr} {sl11 : Array (Option Value)} {oc11 kV11 dc11 pm11 cd11 ct11 : Value}
    (a11 : PySem.W.nsIn K mainGlobals "shared_by" = some (some (.ref f11))) (l11 : K.lookup f11 = some ⟨oc11, od11, .func (PySem.W.fnOf "shared_by" "shared_by" (defArgs (topS 19)) (defBody (topS 19)) (defScope (topS 19)) .none kV11 dc11 pm11 an11 cd11 ct11), sl11⟩) (c11 : PySem.W.codeIn K cd11 "shared_by" = true) (k11 : PySem.W.keepIn K (.ref f11) = true)
    {f12 : Addr} {od12 an12 : Option Addr} {sl12 : Array (Option Value)} {oc12 kV12 dc12 pm12 cd12 ct12 : Value}
    (a12 : PySem.W.nsIn K mainGlobals "levelled" = some (some (.ref f12))) (l12 : K.lookup f12 = some ⟨oc12, od12, .func (PySem.W.fnOf "levelled" "levelled" (defArgs (topS 20)) (defBody (topS 20)) (defScope (topS 20)) .none kV12 dc12 pm12 an12 cd12 ct12), sl12⟩) (c12 : PySem.W.codeIn K cd12 "levelled" = true) (k12 : PySem.W.keepIn K (.ref f12) = true)
    {f13 : Addr} {od13 an13 : Option Addr} {sl13 : Array (Option Value)} {oc13 kV13 dc13 pm13 cd13 ct13 : Value}
    (a13 : PySem.W.nsIn K mainGlobals "within" = some (some (.ref f13))) (l13 : K.lookup f13 = some ⟨oc13, od13, .func (PySem.W.fnOf "within" "within" (defArgs (topS 21)) (defBody (topS 21)) (defScope (topS 21)) .none kV13 dc13 pm13 an13 cd13 ct13), sl13⟩) (c13 : PySem.W.codeIn K cd13 "within" = true) (k13 : PySem.W.keepIn K (.ref f13) = true)
    {f14 : Addr} {od14 an14 : Option Addr} {sl14 : Array (Option Value)} {oc14 kV14 dc14 pm14 cd14 ct14 : Value}
    (a14 : PySem.W.nsIn K mainGlobals "both" = some (some (.ref f14))) (l14 : K.lookup f14 = some ⟨oc14, od14, .func (PySem.W.fnOf "both" "both" (defArgs (topS 22)) (defBody (topS 22)) (defScope (topS 22)) .none kV14 dc14 pm14 an14 cd14 ct14), sl14⟩) (c14 : PySem.W.codeIn K cd14 "both" = true) (k14 : PySem.W.keepIn K (.ref f14) = true)
    {f15 : Addr} {od15 an15 : Option Addr} {sl15 : Array (Option Value)} {oc15 kV15 dc15 pm15 cd15 ct15 : Value}
    (a15 : PySem.W.nsIn K mainGlobals "either" = some (some (.ref f15))) (l15 : K.lookup f15 = some ⟨oc15, od15, .func (PySem.W.fnOf "either" "either" (defArgs (topS 23)) (defBody (topS 23)) (defScope (topS 23)) .none kV15 dc15 pm15 an15 cd15 ct15), sl15⟩) (c15 : PySem.W.codeIn K cd15 "either" = true) (k15 : PySem.W.keepIn K (.ref f15) = true)
    {f16 : Addr} {od16 an16 : Option Addr} {sl16 : Array (Option Value)} {oc16 kV16 dc16 pm16 cd16 ct16 : Value}
    (a16 : PySem.W.nsIn K mainGlobals "less" = some (some (.ref f16))) (l16 : K.lookup f16 = some ⟨oc16, od16, .func (PySem.W.fnOf "less" "less" (defArgs (topS 24)) (defBody (topS 24)) (defScope (topS 24)) .none kV16 dc16 pm16 an16 cd16 ct16), sl16⟩) (c16 : PySem.W.codeIn K cd16 "less" = true) (k16 : PySem.W.keepIn K (.ref f16) = true)
    {f17 : Addr} {od17 an17 : Option Addr} {sl17 : Array (Option Value)} {oc17 kV17 dc17 pm17 cd17 ct17 : Value}
    (a17 : PySem.W.nsIn K mainGlobals "_law_cell" = some (some (.ref f17))) (l17 : K.lookup f17 = some ⟨oc17, od17, .func (PySem.W.fnOf "_law_cell" "_law_cell" (defArgs (topS 26)) (defBody (topS 26)) (defScope (topS 26)) .none kV17 dc17 pm17 an17 cd17 ct17), sl17⟩) (c17 : PySem.W.codeIn K cd17 "_law_cell" = true) (k17 : PySem.W.keepIn K (.ref f17) = true)
    {f18 : Addr} {od18 an18 : Option Addr} {sl18 : Array (Option Value)} {oc18 kV18 dc18 pm18 cd18 ct18 : Value}
    (a18 : PySem.W.nsIn K mainGlobals "_law_mixed" = some (some (.ref f18))) (l18 : K.lookup f18 = some ⟨oc18, od18, .func (PySem.W.fnOf "_law_mixed" "_law_mixed" (defArgs (topS 27)) (defBody (topS 27)) (defScope (topS 27)) .none kV18 dc18 pm18 an18 cd18 ct18), sl18⟩) (c18 : PySem.W.codeIn K cd18 "_law_mixed" = true) (k18 : PySem.W.keepIn K (.ref f18) = true)
    {f19 : Addr} {od19 an19 : Option Addr} {sl19 : Array (Option Value)} {oc19 kV19 dc19 pm19 cd19 ct19 : Value}
    (a19 : PySem.W.nsIn K mainGlobals "_law_draws" = some (some (.ref f19))) (l19 : K.lookup f19 = some ⟨oc19, od19, .func (PySem.W.fnOf "_law_draws" "_law_draws" (defArgs (topS 28)) (defBody (topS 28)) (defScope (topS 28)) .none kV19 dc19 pm19 an19 cd19 ct19), sl19⟩) (c19 : PySem.W.codeIn K cd19 "_law_draws" = true) (k19 : PySem.W.keepIn K (.ref f19) = true)
    {f20 : Addr} {od20 an20 : Option Addr} {sl20 : Array (Option Value)} {oc20 kV20 dc20 pm20 cd20 ct20 : Value}
    (a20 : PySem.W.nsIn K mainGlobals "_law_spare" = some (some (.ref f20))) (l20 : K.lookup f20 = some ⟨oc20, od20, .func (PySem.W.fnOf "_law_spare" "_law_spare" (defArgs (topS 29)) (defBody (topS 29)) (defScope (topS 29)) .none kV20 dc20 pm20 an20 cd20 ct20), sl20⟩) (c20 : PySem.W.codeIn K cd20 "_law_spare" = true) (k20 : PySem.W.keepIn K (.ref f20) = true)
    {f21 : Addr} {od21 an21 : Option Addr} {sl21 : Array (Option Value)} {oc21 kV21 dc21 pm21 cd21 ct21 : Value}
    (a21 : PySem.W.nsIn K mainGlobals "_law_whole" = some (some (.ref f21))) (l21 : K.lookup f21 = some ⟨oc21, od21, .func (PySem.W.fnOf "_law_whole" "_law_whole" (defArgs (topS 30)) (defBody (topS 30)) (defScope (topS 30)) .none kV21 dc21 pm21 an21 cd21 ct21), sl21⟩) (c21 : PySem.W.codeIn K cd21 "_law_whole" = true) (k21 : PySem.W.keepIn K (.ref f21) = true)
    {f22 : Addr} {od22 an22 : Option Addr} {sl22 : Array (Option Value)} {oc22 kV22 dc22 pm22 cd22 ct22 : Value}
    (a22 : PySem.W.nsIn K mainGlobals "_law_rises" = some (some (.ref f22))) (l22 : K.lookup f22 = some ⟨oc22, od22, .func (PySem.W.fnOf "_law_rises" "_law_rises" (defArgs (topS 31)) (defBody (topS 31)) (defScope (topS 31)) .none kV22 dc22 pm22 an22 cd22 ct22), sl22⟩) (c22 : PySem.W.codeIn K cd22 "_law_rises" = true) (k22 : PySem.W.keepIn K (.ref f22) = true)
    {f23 : Addr} {od23 an23 : Option Addr} {sl23 : Array (Option Value)} {oc23 kV23 dc23 pm23 cd23 ct23 : Value}
    (a23 : PySem.W.nsIn K mainGlobals "_law_is_stair" = some (some (.ref f23))) (l23 : K.lookup f23 = some ⟨oc23, od23, .func (PySem.W.fnOf "_law_is_stair" "_law_is_stair" (defArgs (topS 32)) (defBody (topS 32)) (defScope (topS 32)) .none kV23 dc23 pm23 an23 cd23 ct23), sl23⟩) (c23 : PySem.W.codeIn K cd23 "_law_is_stair" = true) (k23 : PySem.W.keepIn K (.ref f23) = true)
    {f24 : Addr} {od24 an24 : Option Addr} {sl24 : Array (Option Value)} {oc24 kV24 dc24 pm24 cd24 ct24 : Value}
    (a24 : PySem.W.nsIn K mainGlobals "_law_least" = some (some (.ref f24))) (l24 : K.lookup f24 = some ⟨oc24, od24, .func (PySem.W.fnOf "_law_least" "_law_least" (defArgs (topS 33)) (defBody (topS 33)) (defScope (topS 33)) .none kV24 dc24 pm24 an24 cd24 ct24), sl24⟩) (c24 : PySem.W.codeIn K cd24 "_law_least" = true) (k24 : PySem.W.keepIn K (.ref f24) = true)
    {f25 : Addr} {od25 an25 : Option Addr} {sl25 : Array (Option Value)} {oc25 kV25 dc25 pm25 cd25 ct25 : Value}
    (a25 : PySem.W.nsIn K mainGlobals "_law_bits" = some (some (.ref f25))) (l25 : K.lookup f25 = some ⟨oc25, od25, .func (PySem.W.fnOf "_law_bits" "_law_bits" (defArgs (topS 34)) (defBody (topS 34)) (defScope (topS 34)) .none kV25 dc25 pm25 an25 cd25 ct25), sl25⟩) (c25 : PySem.W.codeIn K cd25 "_law_bits" = true) (k25 : PySem.W.keepIn K (.ref f25) = true)
    {f26 : Addr} {od26 an26 : Option Addr} {sl26 : Array (Option Value)} {oc26 kV26 dc26 pm26 cd26 ct26 : Value}
    (a26 : PySem.W.nsIn K mainGlobals "_law_stair_of" = some (some (.ref f26))) (l26 : K.lookup f26 = some ⟨oc26, od26, .func (PySem.W.fnOf "_law_stair_of" "_law_stair_of" (defArgs (topS 35)) (defBody (topS 35)) (defScope (topS 35)) .none kV26 dc26 pm26 an26 cd26 ct26), sl26⟩) (c26 : PySem.W.codeIn K cd26 "_law_stair_of" = true) (k26 : PySem.W.keepIn K (.ref f26) = true)
    {f27 : Addr} {od27 an27 : Option Addr} {sl27 : Array (Option Value)} {oc27 kV27 dc27 pm27 cd27 ct27 : Value}
    (a27 : PySem.W.nsIn K mainGlobals "_law_some_stair" = some (some (.ref f27))) (l27 : K.lookup f27 = some ⟨oc27, od27, .func (PySem.W.fnOf "_law_some_stair" "_law_some_stair" (defArgs (topS 36)) (defBody (topS 36)) (defScope (topS 36)) .none kV27 dc27 pm27 an27 cd27 ct27), sl27⟩) (c27 : PySem.W.codeIn K cd27 "_law_some_stair" = true) (k27 : PySem.W.keepIn K (.ref f27) = true)
    {f28 : Addr} {od28 an28 : Option Addr} {sl28 : Array (Option Value)} {oc28 kV28 dc28 pm28 cd28 ct28 : Value}
    (a28 : PySem.W.nsIn K mainGlobals "_law_stair_bits" = some (some (.ref f28))) (l28 : K.lookup f28 = some ⟨oc28, od28, .func (PySem.W.fnOf "_law_stair_bits" "_law_stair_bits" (defArgs (topS 37)) (defBody (topS 37)) (defScope (topS 37)) .none kV28 dc28 pm28 an28 cd28 ct28), sl28⟩) (c28 : PySem.W.codeIn K cd28 "_law_stair_bits" = true) (k28 : PySem.W.keepIn K (.ref f28) = true)
    {f29 : Addr} {od29 an29 : Option Addr} {sl29 : Array (Option Value)} {oc29 kV29 dc29 pm29 cd29 ct29 : Value}
    (a29 : PySem.W.nsIn K mainGlobals "_law_is_due" = some (some (.ref f29))) (l29 : K.lookup f29 = some ⟨oc29, od29, .func (PySem.W.fnOf "_law_is_due" "_law_is_due" (defArgs (topS 38)) (defBody (topS 38)) (defScope (topS 38)) .none kV29 dc29 pm29 an29 cd29 ct29), sl29⟩) (c29 : PySem.W.codeIn K cd29 "_law_is_due" = true) (k29 : PySem.W.keepIn K (.ref f29) = true)
    {f30 : Addr} {od30 an30 : Option Addr} {sl30 : Array (Option Value)} {oc30 kV30 dc30 pm30 cd30 ct30 : Value}
    (a30 : PySem.W.nsIn K mainGlobals "_law_shared" = some (some (.ref f30))) (l30 : K.lookup f30 = some ⟨oc30, od30, .func (PySem.W.fnOf "_law_shared" "_law_shared" (defArgs (topS 39)) (defBody (topS 39)) (defScope (topS 39)) .none kV30 dc30 pm30 an30 cd30 ct30), sl30⟩) (c30 : PySem.W.codeIn K cd30 "_law_shared" = true) (k30 : PySem.W.keepIn K (.ref f30) = true)
    {f31 : Addr} {od31 an31 : Option Addr} {sl31 : Array (Option Value)} {oc31 kV31 dc31 pm31 cd31 ct31 : Value}
    (a31 : PySem.W.nsIn K mainGlobals "_law_stepped" = some (some (.ref f31))) (l31 : K.lookup f31 = some ⟨oc31, od31, .func (PySem.W.fnOf "_law_stepped" "_law_stepped" (defArgs (topS 40)) (defBody (topS 40)) (defScope (topS 40)) .none kV31 dc31 pm31 an31 cd31 ct31), sl31⟩) (c31 : PySem.W.codeIn K cd31 "_law_stepped" = true) (k31 : PySem.W.keepIn K (.ref f31) = true)
    {f32 : Addr} {od32 an32 : Option Addr} {sl32 : Array (Option Value)} {oc32 kV32 dc32 pm32 cd32 ct32 : Value}
    (a32 : PySem.W.nsIn K mainGlobals "_law_pair" = some (some (.ref f32))) (l32 : K.lookup f32 = some ⟨oc32, od32, .func (PySem.W.fnOf "_law_pair" "_law_pair" (defArgs (topS 41)) (defBody (topS 41)) (defScope (topS 41)) .none kV32 dc32 pm32 an32 cd32 ct32), sl32⟩) (c32 : PySem.W.codeIn K cd32 "_law_pair" = true) (k32 : PySem.W.keepIn K (.ref f32) = true)
    {f33 : Addr} {od33 an33 : Option Addr} {sl33 : Array (Option Value)} {oc33 kV33 dc33 pm33 cd33 ct33 : Value}
    (a33 : PySem.W.nsIn K mainGlobals "law" = some (some (.ref f33))) (l33 : K.lookup f33 = some ⟨oc33, od33, .func (PySem.W.fnOf "law" "law" (defArgs (topS 42)) (defBody (topS 42)) (defScope (topS 42)) .none kV33 dc33 pm33 an33 cd33 ct33), sl33⟩) (c33 : PySem.W.codeIn K cd33 "law" = true) (k33 : PySem.W.keepIn K (.ref f33) = true)
    (z0 : PySem.W.nsIn K mainGlobals "isinstance" = some none)
    (z1 : PySem.W.nsIn K mainGlobals "int" = some none)
    (z2 : PySem.W.nsIn K mainGlobals "bool" = some none)
    (z3 : PySem.W.nsIn K mainGlobals "tuple" = some none)
    (z4 : PySem.W.nsIn K mainGlobals "all" = some none)
    (z5 : PySem.W.nsIn K mainGlobals "len" = some none)
    (z6 : PySem.W.nsIn K mainGlobals "range" = some none)
    (z7 : PySem.W.nsIn K mainGlobals "divmod" = some none)
    (z8 : PySem.W.nsIn K mainGlobals "max" = some none)
    (z9 : PySem.W.nsIn K mainGlobals "any" = some none)
    (z10 : PySem.W.nsIn K mainGlobals "zip" = some none)
    (z11 : PySem.W.nsIn K mainGlobals "min" = some none)
    {t0 : Tok} (q0 : PySem.W.nsIn K mainGlobals "GREATEST_BASE" = some (some (.int 3000 t0)))
    {t1 : Tok} (q1 : PySem.W.nsIn K mainGlobals "GREATEST_STEP" = some (some (.int 840 t1)))
    : (∃ C, MOk K mg C Gl Tb) ∧ FnTxt K mg Gl Tb "law" 50 ["_law_script"] 0 := by
  have F0 := fun_mk (x := "is_number") (qual := "is_number") (st := topS 7) l0 c0 k0
  have T0 : FnTxt K mg Gl Tb "is_number" 0 ["thing"] 0 := ⟨f0, _, ⟨"is_number", "is_number", ["thing"], topS 7, f_is_number, PySem.W.mg_of X Gn a0, F0, fun us hl => (match us, hl with | [_], _ => rfl), sc_is_number, rfl, rfl, rfl, rfl, rfl, by decide, by decide, tx_is_number⟩⟩
  have F1 := fun_mk (x := "is_rising") (qual := "is_rising") (st := topS 8) l1 c1 k1
  have T1 : FnTxt K mg Gl Tb "is_rising" 1 ["row", "low", "high"] 0 := ⟨f1, _, ⟨"is_rising", "is_rising", ["row", "low", "high", "x", "last"], topS 8, f_is_rising, PySem.W.mg_of X Gn a1, F1, fun us hl => (match us, hl with | [_, _, _], _ => rfl), sc_is_rising, rfl, rfl, rfl, rfl, rfl, by decide, by decide, tx_is_rising⟩⟩
  have F2 := fun_mk (x := "is_stair") (qual := "is_stair") (st := topS 9) l2 c2 k2
  have T2 : FnTxt K mg Gl Tb "is_stair" 2 ["thing"] 0 := ⟨f2, _, ⟨"is_stair", "is_stair", ["thing", "base", "step", "once", "again"], topS 9, f_is_stair, PySem.W.mg_of X Gn a2, F2, fun us hl => (match us, hl with | [_], _ => rfl), sc_is_stair, rfl, rfl, rfl, rfl, rfl, by decide, by decide, tx_is_stair⟩⟩
  have F3 := fun_mk (x := "check_stair") (qual := "check_stair") (st := topS 10) l3 c3 k3
  have T3 : FnTxt K mg Gl Tb "check_stair" 16 ["stair"] 0 := ⟨f3, _, ⟨"check_stair", "check_stair", ["stair"], topS 10, f_check_stair, PySem.W.mg_of X Gn a3, F3, fun us hl => (match us, hl with | [_], _ => rfl), sc_check_stair, rfl, rfl, rfl, rfl, rfl, by decide, by decide, tx_check_stair⟩⟩
  have F4 := fun_mk (x := "bits_of") (qual := "bits_of") (st := topS 11) l4 c4 k4
  have T4 : FnTxt K mg Gl Tb "bits_of" 27 ["stair", "many"] 0 := ⟨f4, _, ⟨"bits_of", "bits_of", ["stair", "many", "base", "step", "once", "again", "bits", "x", "far"], topS 11, f_bits_of, PySem.W.mg_of X Gn a4, F4, fun us hl => (match us, hl with | [_, _], _ => rfl), sc_bits_of, rfl, rfl, rfl, rfl, rfl, by decide, by decide, tx_bits_of⟩⟩
  have F5 := fun_mk (x := "least_step") (qual := "least_step") (st := topS 12) l5 c5 k5
  have T5 : FnTxt K mg Gl Tb "least_step" 28 ["bits", "base", "step"] 0 := ⟨f5, _, ⟨"least_step", "least_step", ["bits", "base", "step", "by"], topS 12, f_least_step, PySem.W.mg_of X Gn a5, F5, fun us hl => (match us, hl with | [_, _, _], _ => rfl), sc_least_step, rfl, rfl, rfl, rfl, rfl, by decide, by decide, tx_least_step⟩⟩
  have F6 := fun_mk (x := "least_of_bits") (qual := "least_of_bits") (st := topS 13) l6 c6 k6
  have T6 : FnTxt K mg Gl Tb "least_of_bits" 29 ["bits", "base", "step"] 0 := ⟨f6, _, ⟨"least_of_bits", "least_of_bits", ["bits", "base", "step", "once", "x", "again"], topS 13, f_least_of_bits, PySem.W.mg_of X Gn a6, F6, fun us hl => (match us, hl with | [_, _, _], _ => rfl), sc_least_of_bits, rfl, rfl, rfl, rfl, rfl, by decide, by decide, tx_least_of_bits⟩⟩
  have F7 := fun_mk (x := "least_by") (qual := "least_by") (st := topS 14) l7 c7 k7
  have T7 : FnTxt K mg Gl Tb "least_by" 30 ["stair"] 0 := ⟨f7, _, ⟨"least_by", "least_by", ["stair"], topS 14, f_least_by, PySem.W.mg_of X Gn a7, F7, fun us hl => (match us, hl with | [_], _ => rfl), sc_least_by, rfl, rfl, rfl, rfl, rfl, by decide, by decide, tx_least_by⟩⟩
  have F8 := fun_mk (x := "least") (qual := "least") (st := topS 15) l8 c8 k8
  have T8 : FnTxt K mg Gl Tb "least" 31 ["stair"] 0 := ⟨f8, _, ⟨"least", "least", ["stair"], topS 15, f_least, PySem.W.mg_of X Gn a8, F8, fun us hl => (match us, hl with | [_], _ => rfl), sc_least, rfl, rfl, rfl, rfl, rfl, by decide, by decide, tx_least⟩⟩
  have F9 := fun_mk (x := "how_many") (qual := "how_many") (st := topS 16) l9 c9 k9
  have T9 : FnTxt K mg Gl Tb "how_many" 19 ["stair", "x"] 0 := ⟨f9, _, ⟨"how_many", "how_many", ["stair", "x", "base", "step", "once", "again", "y", "rounds", "left"], topS 16, f_how_many, PySem.W.mg_of X Gn a9, F9, fun us hl => (match us, hl with | [_, _], _ => rfl), sc_how_many, rfl, rfl, rfl, rfl, rfl, by decide, by decide, tx_how_many⟩⟩
  have F10 := fun_mk (x := "rest_of") (qual := "rest_of") (st := topS 17) l10 c10 k10
  have T10 : FnTxt K mg Gl Tb "rest_of" 49 ["stair"] 0 := ⟨f10, _, ⟨"rest_of", "rest_of", ["stair", "base", "step", "bit"], topS 17, f_rest_of, PySem.W.mg_of X Gn a10, F10, fun us hl => (match us, hl with | [_], _ => rfl), sc_rest_of, rfl, rfl, rfl, rfl, rfl, by decide, by decide, tx_rest_of⟩⟩
  have F11 := fun_mk (x := "shared_by") (qual := "shared_by") (st := topS 19) l11 c11 k11
  have T11 : FnTxt K mg Gl Tb "shared_by" 35 ["a", "b"] 0 := ⟨f11, _, ⟨"shared_by", "shared_by", ["a", "b"], topS 19, f_shared_by, PySem.W.mg_of X Gn a11, F11, fun us hl => (match us, hl with | [_, _], _ => rfl), sc_shared_by, rfl, rfl, rfl, rfl, rfl, by decide, by decide, tx_shared_by⟩⟩
  have F12 := fun_mk (x := "levelled") (qual := "levelled") (st := topS 20) l12 c12 k12
  have T12 : FnTxt K mg Gl Tb "levelled" 36 ["one", "other"] 0 := ⟨f12, _, ⟨"levelled", "levelled", ["one", "other", "step", "base"], topS 20, f_levelled, PySem.W.mg_of X Gn a12, F12, fun us hl => (match us, hl with | [_, _], _ => rfl), sc_levelled, rfl, rfl, rfl, rfl, rfl, by decide, by decide, tx_levelled⟩⟩
  have F13 := fun_mk (x := "within") (qual := "within") (st := topS 21) l13 c13 k13
  have T13 : FnTxt K mg Gl Tb "within" 43 ["one", "other"] 0 := ⟨f13, _, ⟨"within", "within", ["one", "other", "first", "second", "base", "step", "a", "b"], topS 21, f_within, PySem.W.mg_of X Gn a13, F13, fun us hl => (match us, hl with | [_, _], _ => rfl), sc_within, rfl, rfl, rfl, rfl, rfl, by decide, by decide, tx_within⟩⟩
  have F14 := fun_mk (x := "both") (qual := "both") (st := topS 22) l14 c14 k14
  have T14 : FnTxt K mg Gl Tb "both" 44 ["one", "other"] 0 := ⟨f14, _, ⟨"both", "both", ["one", "other", "first", "second", "base", "step", "a", "b"], topS 22, f_both, PySem.W.mg_of X Gn a14, F14, fun us hl => (match us, hl with | [_, _], _ => rfl), sc_both, rfl, rfl, rfl, rfl, rfl, by decide, by decide, tx_both⟩⟩
  have F15 := fun_mk (x := "either") (qual := "either") (st := topS 23) l15 c15 k15
  have T15 : FnTxt K mg Gl Tb "either" 45 ["one", "other"] 0 := ⟨f15, _, ⟨"either", "either", ["one", "other", "first", "second", "base", "step", "a", "b"], topS 23, f_either, PySem.W.mg_of X Gn a15, F15, fun us hl => (match us, hl with | [_, _], _ => rfl), sc_either, rfl, rfl, rfl, rfl, rfl, by decide, by decide, tx_either⟩⟩
  have F16 := fun_mk (x := "less") (qual := "less") (st := topS 24) l16 c16 k16
  have T16 : FnTxt K mg Gl Tb "less" 46 ["one", "other"] 0 := ⟨f16, _, ⟨"less", "less", ["one", "other", "first", "second", "base", "step", "a", "b"], topS 24, f_less, PySem.W.mg_of X Gn a16, F16, fun us hl => (match us, hl with | [_, _], _ => rfl), sc_less, rfl, rfl, rfl, rfl, rfl, by decide, by decide, tx_less⟩⟩
  have F17 := fun_mk (x := "_law_cell") (qual := "_law_cell") (st := topS 26) l17 c17 k17
  have T17 : FnTxt K mg Gl Tb "_law_cell" 3 ["_law_script", "_law_k"] 0 := ⟨f17, _, ⟨"_law_cell", "_law_cell", ["_law_script", "_law_k"], topS 26, f_law_cell, PySem.W.mg_of X Gn a17, F17, fun us hl => (match us, hl with | [_, _], _ => rfl), sc__law_cell, rfl, rfl, rfl, rfl, rfl, by decide, by decide, tx__law_cell⟩⟩
  have F18 := fun_mk (x := "_law_mixed") (qual := "_law_mixed") (st := topS 27) l18 c18 k18
  have T18 : FnTxt K mg Gl Tb "_law_mixed" 4 ["_law_cell_here", "_law_k", "_law_prime"] 0 := ⟨f18, _, ⟨"_law_mixed", "_law_mixed", ["_law_cell_here", "_law_k", "_law_prime", "_law_far"], topS 27, f_law_mixed, PySem.W.mg_of X Gn a18, F18, fun us hl => (match us, hl with | [_, _, _], _ => rfl), sc__law_mixed, rfl, rfl, rfl, rfl, rfl, by decide, by decide, tx__law_mixed⟩⟩
  have F19 := fun_mk (x := "_law_draws") (qual := "_law_draws") (st := topS 28) l19 c19 k19
  have T19 : FnTxt K mg Gl Tb "_law_draws" 5 ["_law_cell_here", "_law_widths", "_law_prime"] 0 := ⟨f19, _, ⟨"_law_draws", "_law_draws", ["_law_cell_here", "_law_widths", "_law_prime", "_law_left", "_law_found", "_law_k"], topS 28, f_law_draws, PySem.W.mg_of X Gn a19, F19, fun us hl => (match us, hl with | [_, _, _], _ => rfl), sc__law_draws, rfl, rfl, rfl, rfl, rfl, by decide, by decide, tx__law_draws⟩⟩
  have F20 := fun_mk (x := "_law_spare") (qual := "_law_spare") (st := topS 29) l20 c20 k20
  have T20 : FnTxt K mg Gl Tb "_law_spare" 6 ["_law_cell_here", "_law_width"] 0 := ⟨f20, _, ⟨"_law_spare", "_law_spare", ["_law_cell_here", "_law_width"], topS 29, f_law_spare, PySem.W.mg_of X Gn a20, F20, fun us hl => (match us, hl with | [_, _], _ => rfl), sc__law_spare, rfl, rfl, rfl, rfl, rfl, by decide, by decide, tx__law_spare⟩⟩
  have F21 := fun_mk (x := "_law_whole") (qual := "_law_whole") (st := topS 30) l21 c21 k21
  have T21 : FnTxt K mg Gl Tb "_law_whole" 7 ["_law_found"] 0 := ⟨f21, _, ⟨"_law_whole", "_law_whole", ["_law_found"], topS 30, f_law_whole, PySem.W.mg_of X Gn a21, F21, fun us hl => (match us, hl with | [_], _ => rfl), sc__law_whole, rfl, rfl, rfl, rfl, rfl, by decide, by decide, tx__law_whole⟩⟩
  have F22 := fun_mk (x := "_law_rises") (qual := "_law_rises") (st := topS 31) l22 c22 k22
  have T22 : FnTxt K mg Gl Tb "_law_rises" 8 ["_law_row", "_law_low", "_law_high"] 0 := ⟨f22, _, ⟨"_law_rises", "_law_rises", ["_law_row", "_law_low", "_law_high", "_law_part", "_law_one", "_law_two"], topS 31, f_law_rises, PySem.W.mg_of X Gn a22, F22, fun us hl => (match us, hl with | [_, _, _], _ => rfl), sc__law_rises, rfl, rfl, rfl, rfl, rfl, by decide, by decide, tx__law_rises⟩⟩
  have F23 := fun_mk (x := "_law_is_stair") (qual := "_law_is_stair") (st := topS 32) l23 c23 k23
  have T23 : FnTxt K mg Gl Tb "_law_is_stair" 9 ["_law_found"] 0 := ⟨f23, _, ⟨"_law_is_stair", "_law_is_stair", ["_law_found"], topS 32, f_law_is_stair, PySem.W.mg_of X Gn a23, F23, fun us hl => (match us, hl with | [_], _ => rfl), sc__law_is_stair, rfl, rfl, rfl, rfl, rfl, by decide, by decide, tx__law_is_stair⟩⟩
  have F24 := fun_mk (x := "_law_least") (qual := "_law_least") (st := topS 33) l24 c24 k24
  have T24 : FnTxt K mg Gl Tb "_law_least" 32 ["_law_bits_here", "_law_base", "_law_step"] 0 := ⟨f24, _, ⟨"_law_least", "_law_least", ["_law_bits_here", "_law_base", "_law_step", "_law_best", "_law_s", "_law_alike", "_law_k", "_law_once", "_law_x"], topS 33, f_law_least, PySem.W.mg_of X Gn a24, F24, fun us hl => (match us, hl with | [_, _, _], _ => rfl), sc__law_least, rfl, rfl, rfl, rfl, rfl, by decide, by decide, tx__law_least⟩⟩
  have F25 := fun_mk (x := "_law_bits") (qual := "_law_bits") (st := topS 34) l25 c25 k25
  have T25 : FnTxt K mg Gl Tb "_law_bits" 10 ["_law_cell_here", "_law_many", "_law_prime"] 1 := ⟨f25, _, ⟨"_law_bits", "_law_bits", ["_law_cell_here", "_law_many", "_law_prime", "_law_bit", "_law_draws_here", "_law_x"], topS 34, f_law_bits, PySem.W.mg_of X Gn a25, F25, fun us hl => (match us, hl with | [_, _, _], _ => rfl), sc__law_bits, rfl, rfl, rfl, rfl, rfl, by decide, by decide, tx__law_bits⟩⟩
  have F26 := fun_mk (x := "_law_stair_of") (qual := "_law_stair_of") (st := topS 35) l26 c26 k26
  have T26 : FnTxt K mg Gl Tb "_law_stair_of" 11 ["_law_bits_here", "_law_base", "_law_step"] 0 := ⟨f26, _, ⟨"_law_stair_of", "_law_stair_of", ["_law_bits_here", "_law_base", "_law_step", "_law_once", "_law_x"], topS 35, f_law_stair_of, PySem.W.mg_of X Gn a26, F26, fun us hl => (match us, hl with | [_, _, _], _ => rfl), sc__law_stair_of, rfl, rfl, rfl, rfl, rfl, by decide, by decide, tx__law_stair_of⟩⟩
  have F27 := fun_mk (x := "_law_some_stair") (qual := "_law_some_stair") (st := topS 36) l27 c27 k27
  have T27 : FnTxt K mg Gl Tb "_law_some_stair" 12 ["_law_cell_here", "_law_prime"] 0 := ⟨f27, _, ⟨"_law_some_stair", "_law_some_stair", ["_law_cell_here", "_law_prime", "_law_draws_here", "_law_base", "_law_step", "_law_bits_here", "_law_part", "_law_by", "_law_k", "_law_x"], topS 36, f_law_some_stair, PySem.W.mg_of X Gn a27, F27, fun us hl => (match us, hl with | [_, _], _ => rfl), sc__law_some_stair, rfl, rfl, rfl, rfl, rfl, by decide, by decide, tx__law_some_stair⟩⟩
  have F28 := fun_mk (x := "_law_stair_bits") (qual := "_law_stair_bits") (st := topS 37) l28 c28 k28
  have T28 : FnTxt K mg Gl Tb "_law_stair_bits" 22 ["_law_stair", "_law_many"] 1 := ⟨f28, _, ⟨"_law_stair_bits", "_law_stair_bits", ["_law_stair", "_law_many", "_law_bits_here", "_law_x", "_law_far"], topS 37, f_law_stair_bits, PySem.W.mg_of X Gn a28, F28, fun us hl => (match us, hl with | [_, _], _ => rfl), sc__law_stair_bits, rfl, rfl, rfl, rfl, rfl, by decide, by decide, tx__law_stair_bits⟩⟩
  have F29 := fun_mk (x := "_law_is_due") (qual := "_law_is_due") (st := topS 38) l29 c29 k29
  have T29 : FnTxt K mg Gl Tb "_law_is_due" 33 ["_law_found", "_law_due"] 0 := ⟨f29, _, ⟨"_law_is_due", "_law_is_due", ["_law_found", "_law_due"], topS 38, f_law_is_due, PySem.W.mg_of X Gn a29, F29, fun us hl => (match us, hl with | [_, _], _ => rfl), sc__law_is_due, rfl, rfl, rfl, rfl, rfl, by decide, by decide, tx__law_is_due⟩⟩
  have F30 := fun_mk (x := "_law_shared") (qual := "_law_shared") (st := topS 39) l30 c30 k30
  have T30 : FnTxt K mg Gl Tb "_law_shared" 38 ["_law_a", "_law_b"] 0 := ⟨f30, _, ⟨"_law_shared", "_law_shared", ["_law_a", "_law_b"], topS 39, f_law_shared, PySem.W.mg_of X Gn a30, F30, fun us hl => (match us, hl with | [_, _], _ => rfl), sc__law_shared, rfl, rfl, rfl, rfl, rfl, by decide, by decide, tx__law_shared⟩⟩
  have F31 := fun_mk (x := "_law_stepped") (qual := "_law_stepped") (st := topS 40) l31 c31 k31
  have T31 : FnTxt K mg Gl Tb "_law_stepped" 39 ["_law_stair", "_law_step"] 0 := ⟨f31, _, ⟨"_law_stepped", "_law_stepped", ["_law_stair", "_law_step"], topS 40, f_law_stepped, PySem.W.mg_of X Gn a31, F31, fun us hl => (match us, hl with | [_, _], _ => rfl), sc__law_stepped, rfl, rfl, rfl, rfl, rfl, by decide, by decide, tx__law_stepped⟩⟩
  have F32 := fun_mk (x := "_law_pair") (qual := "_law_pair") (st := topS 41) l32 c32 k32
  have T32 : FnTxt K mg Gl Tb "_law_pair" 40 ["_law_one", "_law_two", "_law_cell_here", "_law_prime"] 0 := ⟨f32, _, ⟨"_law_pair", "_law_pair", ["_law_one", "_law_two", "_law_cell_here", "_law_prime", "_law_draws_here", "_law_d", "_law_a", "_law_e"], topS 41, f_law_pair, PySem.W.mg_of X Gn a32, F32, fun us hl => (match us, hl with | [_, _, _, _], _ => rfl), sc__law_pair, rfl, rfl, rfl, rfl, rfl, by decide, by decide, tx__law_pair⟩⟩
  have F33 := fun_mk (x := "law") (qual := "law") (st := topS 42) l33 c33 k33
  have T33 : FnTxt K mg Gl Tb "law" 50 ["_law_script"] 0 := ⟨f33, _, ⟨"law", "law", ["_law_script", "_law_one", "_law_two", "_law_bits_here", "_law_bit", "_law_other", "_law_x"], topS 42, f_law_v5, PySem.W.mg_of X Gn a33, F33, fun us hl => (match us, hl with | [_], _ => rfl), sc_law, rfl, rfl, rfl, rfl, rfl, by decide, by decide, tx_law⟩⟩
  exact ⟨⟨fun _ => .none, MOk.of ⟨PySem.W.mg_none_of X Gn z0, PySem.W.mg_none_of X Gn z1, PySem.W.mg_none_of X Gn z2, PySem.W.mg_none_of X Gn z3, PySem.W.mg_none_of X Gn z4, PySem.W.mg_none_of X Gn z5, PySem.W.mg_none_of X Gn z6, PySem.W.mg_none_of X Gn z7, PySem.W.mg_none_of X Gn z8, PySem.W.mg_none_of X Gn z9, PySem.W.mg_none_of X Gn z10, PySem.W.mg_none_of X Gn z11, trivial⟩ ⟨⟨.int _, _, PySem.W.mg_of X Gn q0, ⟨_, rfl⟩, fun _ => .int _⟩, ⟨.int _, _, PySem.W.mg_of X Gn q1, ⟨_, rfl⟩, fun _ => .int _⟩, trivial⟩ trivial ⟨⟨_, rfl, T0⟩, ⟨_, rfl, T1⟩, ⟨_, rfl, T2⟩, ⟨_, rfl, T3⟩, ⟨_, rfl, T4⟩, ⟨_, rfl, T5⟩, ⟨_, rfl, T6⟩, ⟨_, rfl, T7⟩, ⟨_, rfl, T8⟩, ⟨_, rfl, T9⟩, ⟨_, rfl, T10⟩, ⟨_, rfl, T11⟩, ⟨_, rfl, T12⟩, ⟨_, rfl, T13⟩, ⟨_, rfl, T14⟩, ⟨_, rfl, T15⟩, ⟨_, rfl, T16⟩, ⟨_, rfl, T17⟩, ⟨_, rfl, T18⟩, ⟨_, rfl, T19⟩, ⟨_, rfl, T20⟩, ⟨_, rfl, T21⟩, ⟨_, rfl, T22⟩, ⟨_, rfl, T23⟩, ⟨_, rfl, T24⟩, ⟨_, rfl, T25⟩, ⟨_, rfl, T26⟩, ⟨_, rfl, T27⟩, ⟨_, rfl, T28⟩, ⟨_, rfl, T29⟩, ⟨_, rfl, T30⟩, ⟨_, rfl, T31⟩, ⟨_, rfl, T32⟩, trivial⟩⟩, T33⟩
end
end Ev
set_option Elab.async false
set_option linter.all false
set_option maxRecDepth 100000
namespace Ev
open PySem
local macro_rules | `(tactic| bv_omega) => `(tactic| try simp only [vE_var, vE_int, vE_bl, vE_non, vE_str, vE_cst, vE_bin, vE_cmp, vE_chain, vE_and, vE_or, vE_not, vE_neg, vE_ite, vE_isi, vE_tup, vE_lst, vE_lmul, vE_ix, vE_slice, vE_rev, vE_b1, vE_b2, vE_dm, vE_call, vE_call0, vE_comp, vEs_n, vEs_c, vO_n, vO_s, vC_n, vC_s, vI_1, vI_2, vI_3, vI_s, vI_z, vI_e, zR_l, zR_t, vS_asgT, vS_par, vS_app, vS_setIx, vS_aug, vS_ite, vS_whl, vS_for, vS_ret, vS_retN, vS_expr, vS_pass, aF_n, aF_r, uh_n, uh_c, ag_a, ag_s, cl_n, cl_c, List.getD_cons_zero, List.getD_cons_succ, R.ok_bind, R.exc_bind, R.bad_bind, R.pure_eq, List.length_cons, List.length_nil, List.map_cons, List.map_nil, List.cons_append, List.nil_append, List.replicate_succ, List.replicate_zero, List.set_cons_zero, List.set_cons_succ, Nat.reduceAdd, Nat.reduceSub, Nat.reduceEqDiff, Int.cast_ofNat_Int, Int.reduceEq, Int.reduceLT, Int.reduceLE, Int.reduceAdd, Int.reduceSub, Int.reduceMul, Int.reduceNeg, decide_true, decide_false, Bool.false_and, Bool.true_and, Bool.and_true, Bool.and_false, Bool.or_true, Bool.or_false, Bool.true_or, Bool.false_or, if_true, ite_true, ite_false, Bool.false_eq_true, reduceIte, Bool.not_true, Bool.not_false, asI_i, asB_b, asL_l, asL_t, asLst_l, dIs_int_none, dIs_int_bool, dIs_int_int, dIs_int_str, dIs_int_list, dIs_int_tuple, dIs_int_dict, dIs_bool_none, dIs_bool_bool, dIs_bool_int, dIs_bool_str, dIs_bool_list, dIs_bool_tuple, dIs_bool_dict, dIs_str_none, dIs_str_bool, dIs_str_int, dIs_str_str, dIs_str_list, dIs_str_tuple, dIs_str_dict, dIs_tuple_none, dIs_tuple_bool, dIs_tuple_int, dIs_tuple_str, dIs_tuple_list, dIs_tuple_tuple, dIs_tuple_dict, dIs_list_none, dIs_list_bool, dIs_list_int, dIs_list_str, dIs_list_list, dIs_list_tuple, dIs_list_dict, ad_i, ad_l, ad_t, ad_s, sb_i, mu_i, fd_i, md_i, pw_10_6, pw_10_9, pw_10_12, pw_10_18, pw_10_59, pw_10_60, c_lt, c_le, c_gt, c_ge, c_eq_i, c_ne_i, c_eq_b, c_ne_b, c_isN, c_inN, c_isB, c_inB, c_in, c_ni, b_len_l, b_len_t, b_len_s, b_int_i, b_int_b, b_tup_l, b_tup_t, b_lst_l, b_lst_t, b_abs, b2_max, b2_min, ix_l, ix_t, sl_l, sl_t, rv_l, rv_t, getS_z, getS_s, ne_ok, seq_n, seq_r, evSs_n, evSs_c, outR_r, outR_n, bT_n, bT_t, bTs_n, bTs_c, asS])
variable {N k : Nat}
def isNum : D → Bool
  | .int _ => true
  | _ => false
theorem is_number_ok (d : D) : run Tb N (k + 1) 0 [d] = .ok (.bool (isNum d)) := by
  rw [run_eq (fn := f_is_number) rfl rfl]
  cases d <;> rfl
theorem whole_ok (d : D) : run Tb N (k + 1) 7 [d] = .ok (.bool (isNum d)) := by
  rw [run_eq (fn := f_law_whole) rfl rfl]
  cases d <;> rfl
/-- rising above last, below high -/
def risesI : Int → Int → List Int → Bool
  | _, _, [] => true
  | last, hi, x :: r => decide (last < x) && decide (x < hi) && risesI x hi r
def numsOf : List D → Option (List Int)
  | [] => some []
  | .int i :: r => (numsOf r).map (i :: ·)
  | _ :: _ => none
def rising : D → Int → Int → Bool
  | .tuple l, lo, hi => match numsOf l with
    | some ns => risesI (lo - 1) hi ns
    | none => false
  | _, _, _ => false
theorem numsOf_some : ∀ {l : List D} {ns : List Int}, numsOf l = some ns → l = ns.map .int ∧ l.all isNum = true
  | [], ns, h => by cases h; exact ⟨rfl, rfl⟩
  | .int i :: r, ns, h => by
    unfold numsOf at h
    cases q : numsOf r with
    | none => rw [q] at h; cases h
    | some ms =>
      rw [q] at h
      cases h
      obtain ⟨e1, e2⟩ := numsOf_some q
      exact ⟨by rw [e1]; rfl, e2⟩
theorem numsOf_none : ∀ {l : List D}, numsOf l = none → l.all isNum = false
  | [], h => by cases h
  | .int i :: r, h => by
    unfold numsOf at h
    cases q : numsOf r with
    | none => rw [List.all_cons, numsOf_none q, Bool.and_false]
    | some ms => rw [q] at h; cases h
  | .none :: _, _ => rfl
  | .bool _ :: _, _ => rfl
  | .str _ :: _, _ => rfl
  | .list _ :: _, _ => rfl
  | .tuple _ :: _, _ => rfl
  | .dict _ :: _, _ => rfl
/-- the loop of is_rising -/
theorem rising_loop (Φ : Cfg) (row : D) (lo hi : Int) : ∀ (ns : List Int) (y : Option D) (last : Int),
    (forL (stepF Φ (.name 3) f_is_rising_b1) (ns.map .int) [some row, some (.int lo), some (.int hi), y, some (.int last)] = .ok (.ret (.bool false)) ∧ risesI last hi ns = false) ∨
    (∃ y' l', forL (stepF Φ (.name 3) f_is_rising_b1) (ns.map .int) [some row, some (.int lo), some (.int hi), y, some (.int last)] = .ok (.next [some row, some (.int lo), some (.int hi), y', some (.int l')]) ∧ risesI last hi ns = true)
  | [], y, last => .inr ⟨y, last, rfl, rfl⟩
  | x :: ns, y, last => by
    rw [List.map_cons, forL_cons, stepF_eq]
    unfold f_is_rising_b1
    bv_omega
    by_cases h1 : x ≤ last
    · left
      simp only [h1, decide_true, if_true, decide_false]
      bv_omega
      refine ⟨trivial, ?_⟩
      unfold risesI
      rw [decide_eq_false (by omega)]
      rfl
    · by_cases h2 : hi ≤ x
      · left
        simp only [h1, h2, decide_true, if_true, decide_false]
        bv_omega
        refine ⟨trivial, ?_⟩
        unfold risesI
        rw [decide_eq_false (p := x < hi) (by omega), Bool.and_false]
        rfl
      · simp only [h1, h2, decide_true, if_true, decide_false]
        bv_omega
        have e : risesI last hi (x :: ns) = risesI x hi ns := by
          rw [risesI, decide_eq_true (by omega), decide_eq_true (by omega)]
          rfl
        rw [e]
        exact rising_loop Φ row lo hi ns _ x
theorem is_rising_ok (d : D) (lo hi : Int) (hs : ∀ l, d = .tuple l → l.length ≤ sizeLine) : run Tb N (k + 2) 1 [d, .int lo, .int hi] = .ok (.bool (rising d lo hi)) := by
  rw [run_eq (fn := f_is_rising) rfl rfl]
  cases d with
  | tuple l =>
    have hl := hs l rfl
    unfold f_is_rising
    bv_omega
    rw [compL_map (g := fun d => .bool (isNum d))]
    · bv_omega
      rw [sized_ok (by rw [List.length_map]; exact hl)]
      bv_omega
      rw [all_bools]
      bv_omega
      cases q : numsOf l with
      | none =>
        have er : rising (.tuple l) lo hi = false := by simp only [rising, q]
        rw [numsOf_none q, er]
        bv_omega
      | some ns =>
        obtain ⟨e1, e2⟩ := numsOf_some q
        have er : rising (.tuple l) lo hi = risesI (lo - 1) hi ns := by simp only [rising, q]
        rw [e2, er]
        bv_omega
        rcases rising_loop ⟨run Tb N (k + 1), N⟩ (.tuple l) lo hi ns none (lo - 1) with ⟨h1, h2⟩ | ⟨y', l', h1, h2⟩
        · rw [e1] at h1 ⊢
          rw [h1, h2]
          bv_omega
        · rw [e1] at h1 ⊢
          rw [h1, h2]
          bv_omega
    · intro d _
      rw [turnC_eq]
      try simp only [vE_var, vE_int, vE_bl, vE_non, vE_str, vE_cst, vE_bin, vE_cmp, vE_chain, vE_and, vE_or, vE_not, vE_neg, vE_ite, vE_isi, vE_tup, vE_lst, vE_lmul, vE_ix, vE_slice, vE_rev, vE_b1, vE_b2, vE_dm, vE_call, vE_call0, vE_comp, vEs_n, vEs_c, vO_n, vO_s, vC_n, vC_s, vI_1, vI_2, vI_3, vI_s, vI_z, vI_e, zR_l, zR_t, vS_asgT, vS_par, vS_app, vS_setIx, vS_aug, vS_ite, vS_whl, vS_for, vS_ret, vS_retN, vS_expr, vS_pass, aF_n, aF_r, uh_n, uh_c, ag_a, ag_s, cl_n, cl_c, List.getD_cons_zero, List.getD_cons_succ, R.ok_bind, R.exc_bind, R.bad_bind, R.pure_eq, List.length_cons, List.length_nil, List.map_cons, List.map_nil, List.cons_append, List.nil_append, List.replicate_succ, List.replicate_zero, List.set_cons_zero, List.set_cons_succ, Nat.reduceAdd, Nat.reduceSub, Nat.reduceEqDiff, Int.cast_ofNat_Int, Int.reduceEq, Int.reduceLT, Int.reduceLE, Int.reduceAdd, Int.reduceSub, Int.reduceMul, Int.reduceNeg, decide_true, decide_false, Bool.false_and, Bool.true_and, Bool.and_true, Bool.and_false, Bool.or_true, Bool.or_false, Bool.true_or, Bool.false_or, if_true, ite_true, ite_false, Bool.false_eq_true, reduceIte, Bool.not_true, Bool.not_false, asI_i, asB_b, asL_l, asL_t, asLst_l, dIs_int_none, dIs_int_bool, dIs_int_int, dIs_int_str, dIs_int_list, dIs_int_tuple, dIs_int_dict, dIs_bool_none, dIs_bool_bool, dIs_bool_int, dIs_bool_str, dIs_bool_list, dIs_bool_tuple, dIs_bool_dict, dIs_str_none, dIs_str_bool, dIs_str_int, dIs_str_str, dIs_str_list, dIs_str_tuple, dIs_str_dict, dIs_tuple_none, dIs_tuple_bool, dIs_tuple_int, dIs_tuple_str, dIs_tuple_list, dIs_tuple_tuple, dIs_tuple_dict, dIs_list_none, dIs_list_bool, dIs_list_int, dIs_list_str, dIs_list_list, dIs_list_tuple, dIs_list_dict, ad_i, ad_l, ad_t, ad_s, sb_i, mu_i, fd_i, md_i, pw_10_6, pw_10_9, pw_10_12, pw_10_18, pw_10_59, pw_10_60, c_lt, c_le, c_gt, c_ge, c_eq_i, c_ne_i, c_eq_b, c_ne_b, c_isN, c_inN, c_isB, c_inB, c_in, c_ni, b_len_l, b_len_t, b_len_s, b_int_i, b_int_b, b_tup_l, b_tup_t, b_lst_l, b_lst_t, b_abs, b2_max, b2_min, ix_l, ix_t, sl_l, sl_t, rv_l, rv_t, getS_z, getS_s, ne_ok, seq_n, seq_r, evSs_n, evSs_c, outR_r, outR_n, bT_n, bT_t, bTs_n, bTs_c, asS, is_number_ok]
  | _ => rfl
/-- a row within sizes -/
def szRow (d : D) : Prop := ∀ l, d = .tuple l → l.length ≤ sizeLine
def szSt (d : D) : Prop := ∀ l, d = .tuple l → ∀ x ∈ l, szRow x
def isSt4 (o a : D) : D → D → Bool
  | .int b, .int s => !decide (b < 0) && !decide (s < 1) && rising o 0 b && rising a b (b + s)
  | _, _ => false
def isStair : D → Bool
  | .tuple [x, y, o, a] => isSt4 o a x y
  | _ => false
theorem is_stair_ok (d : D) (hs : szSt d) : run Tb N (k + 3) 2 [d] = .ok (.bool (isStair d)) := by
  rw [run_eq (fn := f_is_stair) rfl rfl]
  cases d with
  | tuple l =>
    have h := hs l rfl
    unfold f_is_stair
    match l, h with
    | [x, y, o, a], h =>
      have ho := h o (by simp)
      have ha := h a (by simp)
      try simp only [vE_var, vE_int, vE_bl, vE_non, vE_str, vE_cst, vE_bin, vE_cmp, vE_chain, vE_and, vE_or, vE_not, vE_neg, vE_ite, vE_isi, vE_tup, vE_lst, vE_lmul, vE_ix, vE_slice, vE_rev, vE_b1, vE_b2, vE_dm, vE_call, vE_call0, vE_comp, vEs_n, vEs_c, vO_n, vO_s, vC_n, vC_s, vI_1, vI_2, vI_3, vI_s, vI_z, vI_e, zR_l, zR_t, vS_asgT, vS_par, vS_app, vS_setIx, vS_aug, vS_ite, vS_whl, vS_for, vS_ret, vS_retN, vS_expr, vS_pass, aF_n, aF_r, uh_n, uh_c, ag_a, ag_s, cl_n, cl_c, List.getD_cons_zero, List.getD_cons_succ, R.ok_bind, R.exc_bind, R.bad_bind, R.pure_eq, List.length_cons, List.length_nil, List.map_cons, List.map_nil, List.cons_append, List.nil_append, List.replicate_succ, List.replicate_zero, List.set_cons_zero, List.set_cons_succ, Nat.reduceAdd, Nat.reduceSub, Nat.reduceEqDiff, Int.cast_ofNat_Int, Int.reduceEq, Int.reduceLT, Int.reduceLE, Int.reduceAdd, Int.reduceSub, Int.reduceMul, Int.reduceNeg, decide_true, decide_false, Bool.false_and, Bool.true_and, Bool.and_true, Bool.and_false, Bool.or_true, Bool.or_false, Bool.true_or, Bool.false_or, if_true, ite_true, ite_false, Bool.false_eq_true, reduceIte, Bool.not_true, Bool.not_false, asI_i, asB_b, asL_l, asL_t, asLst_l, dIs_int_none, dIs_int_bool, dIs_int_int, dIs_int_str, dIs_int_list, dIs_int_tuple, dIs_int_dict, dIs_bool_none, dIs_bool_bool, dIs_bool_int, dIs_bool_str, dIs_bool_list, dIs_bool_tuple, dIs_bool_dict, dIs_str_none, dIs_str_bool, dIs_str_int, dIs_str_str, dIs_str_list, dIs_str_tuple, dIs_str_dict, dIs_tuple_none, dIs_tuple_bool, dIs_tuple_int, dIs_tuple_str, dIs_tuple_list, dIs_tuple_tuple, dIs_tuple_dict, dIs_list_none, dIs_list_bool, dIs_list_int, dIs_list_str, dIs_list_list, dIs_list_tuple, dIs_list_dict, ad_i, ad_l, ad_t, ad_s, sb_i, mu_i, fd_i, md_i, pw_10_6, pw_10_9, pw_10_12, pw_10_18, pw_10_59, pw_10_60, c_lt, c_le, c_gt, c_ge, c_eq_i, c_ne_i, c_eq_b, c_ne_b, c_isN, c_inN, c_isB, c_inB, c_in, c_ni, b_len_l, b_len_t, b_len_s, b_int_i, b_int_b, b_tup_l, b_tup_t, b_lst_l, b_lst_t, b_abs, b2_max, b2_min, ix_l, ix_t, sl_l, sl_t, rv_l, rv_t, getS_z, getS_s, ne_ok, seq_n, seq_r, evSs_n, evSs_c, outR_r, outR_n, bT_n, bT_t, bTs_n, bTs_c, asS, is_number_ok]
      cases x with
      | int b =>
        cases y with
        | int s =>
          try simp only [vE_var, vE_int, vE_bl, vE_non, vE_str, vE_cst, vE_bin, vE_cmp, vE_chain, vE_and, vE_or, vE_not, vE_neg, vE_ite, vE_isi, vE_tup, vE_lst, vE_lmul, vE_ix, vE_slice, vE_rev, vE_b1, vE_b2, vE_dm, vE_call, vE_call0, vE_comp, vEs_n, vEs_c, vO_n, vO_s, vC_n, vC_s, vI_1, vI_2, vI_3, vI_s, vI_z, vI_e, zR_l, zR_t, vS_asgT, vS_par, vS_app, vS_setIx, vS_aug, vS_ite, vS_whl, vS_for, vS_ret, vS_retN, vS_expr, vS_pass, aF_n, aF_r, uh_n, uh_c, ag_a, ag_s, cl_n, cl_c, List.getD_cons_zero, List.getD_cons_succ, R.ok_bind, R.exc_bind, R.bad_bind, R.pure_eq, List.length_cons, List.length_nil, List.map_cons, List.map_nil, List.cons_append, List.nil_append, List.replicate_succ, List.replicate_zero, List.set_cons_zero, List.set_cons_succ, Nat.reduceAdd, Nat.reduceSub, Nat.reduceEqDiff, Int.cast_ofNat_Int, Int.reduceEq, Int.reduceLT, Int.reduceLE, Int.reduceAdd, Int.reduceSub, Int.reduceMul, Int.reduceNeg, decide_true, decide_false, Bool.false_and, Bool.true_and, Bool.and_true, Bool.and_false, Bool.or_true, Bool.or_false, Bool.true_or, Bool.false_or, if_true, ite_true, ite_false, Bool.false_eq_true, reduceIte, Bool.not_true, Bool.not_false, asI_i, asB_b, asL_l, asL_t, asLst_l, dIs_int_none, dIs_int_bool, dIs_int_int, dIs_int_str, dIs_int_list, dIs_int_tuple, dIs_int_dict, dIs_bool_none, dIs_bool_bool, dIs_bool_int, dIs_bool_str, dIs_bool_list, dIs_bool_tuple, dIs_bool_dict, dIs_str_none, dIs_str_bool, dIs_str_int, dIs_str_str, dIs_str_list, dIs_str_tuple, dIs_str_dict, dIs_tuple_none, dIs_tuple_bool, dIs_tuple_int, dIs_tuple_str, dIs_tuple_list, dIs_tuple_tuple, dIs_tuple_dict, dIs_list_none, dIs_list_bool, dIs_list_int, dIs_list_str, dIs_list_list, dIs_list_tuple, dIs_list_dict, ad_i, ad_l, ad_t, ad_s, sb_i, mu_i, fd_i, md_i, pw_10_6, pw_10_9, pw_10_12, pw_10_18, pw_10_59, pw_10_60, c_lt, c_le, c_gt, c_ge, c_eq_i, c_ne_i, c_eq_b, c_ne_b, c_isN, c_inN, c_isB, c_inB, c_in, c_ni, b_len_l, b_len_t, b_len_s, b_int_i, b_int_b, b_tup_l, b_tup_t, b_lst_l, b_lst_t, b_abs, b2_max, b2_min, ix_l, ix_t, sl_l, sl_t, rv_l, rv_t, getS_z, getS_s, ne_ok, seq_n, seq_r, evSs_n, evSs_c, outR_r, outR_n, bT_n, bT_t, bTs_n, bTs_c, asS, isNum]
          by_cases h1 : b < 0
          · simp only [h1, decide_true, if_true]
            bv_omega
            simp only [isStair, isSt4, h1, decide_true, Bool.not_true, Bool.false_and]
          · by_cases h2 : s < 1
            · simp only [h1, h2, decide_true, decide_false, if_true]
              bv_omega
              simp only [isStair, isSt4, h1, h2, decide_true, Bool.not_true, Bool.false_and, Bool.and_false]
            · simp only [h1, h2, decide_true, decide_false, if_true]
              bv_omega
              rw [is_rising_ok o 0 b ho, is_rising_ok a b (b + s) ha]
              bv_omega
              simp only [isStair, isSt4, h1, h2, decide_false, Bool.not_false, Bool.true_and]
              cases rising o 0 b <;> rfl
        | _ => first | rfl | (try simp only [vE_var, vE_int, vE_bl, vE_non, vE_str, vE_cst, vE_bin, vE_cmp, vE_chain, vE_and, vE_or, vE_not, vE_neg, vE_ite, vE_isi, vE_tup, vE_lst, vE_lmul, vE_ix, vE_slice, vE_rev, vE_b1, vE_b2, vE_dm, vE_call, vE_call0, vE_comp, vEs_n, vEs_c, vO_n, vO_s, vC_n, vC_s, vI_1, vI_2, vI_3, vI_s, vI_z, vI_e, zR_l, zR_t, vS_asgT, vS_par, vS_app, vS_setIx, vS_aug, vS_ite, vS_whl, vS_for, vS_ret, vS_retN, vS_expr, vS_pass, aF_n, aF_r, uh_n, uh_c, ag_a, ag_s, cl_n, cl_c, List.getD_cons_zero, List.getD_cons_succ, R.ok_bind, R.exc_bind, R.bad_bind, R.pure_eq, List.length_cons, List.length_nil, List.map_cons, List.map_nil, List.cons_append, List.nil_append, List.replicate_succ, List.replicate_zero, List.set_cons_zero, List.set_cons_succ, Nat.reduceAdd, Nat.reduceSub, Nat.reduceEqDiff, Int.cast_ofNat_Int, Int.reduceEq, Int.reduceLT, Int.reduceLE, Int.reduceAdd, Int.reduceSub, Int.reduceMul, Int.reduceNeg, decide_true, decide_false, Bool.false_and, Bool.true_and, Bool.and_true, Bool.and_false, Bool.or_true, Bool.or_false, Bool.true_or, Bool.false_or, if_true, ite_true, ite_false, Bool.false_eq_true, reduceIte, Bool.not_true, Bool.not_false, asI_i, asB_b, asL_l, asL_t, asLst_l, dIs_int_none, dIs_int_bool, dIs_int_int, dIs_int_str, dIs_int_list, dIs_int_tuple, dIs_int_dict, dIs_bool_none, dIs_bool_bool, dIs_bool_int, dIs_bool_str, dIs_bool_list, dIs_bool_tuple, dIs_bool_dict, dIs_str_none, dIs_str_bool, dIs_str_int, dIs_str_str, dIs_str_list, dIs_str_tuple, dIs_str_dict, dIs_tuple_none, dIs_tuple_bool, dIs_tuple_int, dIs_tuple_str, dIs_tuple_list, dIs_tuple_tuple, dIs_tuple_dict, dIs_list_none, dIs_list_bool, dIs_list_int, dIs_list_str, dIs_list_list, dIs_list_tuple, dIs_list_dict, ad_i, ad_l, ad_t, ad_s, sb_i, mu_i, fd_i, md_i, pw_10_6, pw_10_9, pw_10_12, pw_10_18, pw_10_59, pw_10_60, c_lt, c_le, c_gt, c_ge, c_eq_i, c_ne_i, c_eq_b, c_ne_b, c_isN, c_inN, c_isB, c_inB, c_in, c_ni, b_len_l, b_len_t, b_len_s, b_int_i, b_int_b, b_tup_l, b_tup_t, b_lst_l, b_lst_t, b_abs, b2_max, b2_min, ix_l, ix_t, sl_l, sl_t, rv_l, rv_t, getS_z, getS_s, ne_ok, seq_n, seq_r, evSs_n, evSs_c, outR_r, outR_n, bT_n, bT_t, bTs_n, bTs_c, asS, isNum]; rfl)
      | _ => first | rfl | (try simp only [vE_var, vE_int, vE_bl, vE_non, vE_str, vE_cst, vE_bin, vE_cmp, vE_chain, vE_and, vE_or, vE_not, vE_neg, vE_ite, vE_isi, vE_tup, vE_lst, vE_lmul, vE_ix, vE_slice, vE_rev, vE_b1, vE_b2, vE_dm, vE_call, vE_call0, vE_comp, vEs_n, vEs_c, vO_n, vO_s, vC_n, vC_s, vI_1, vI_2, vI_3, vI_s, vI_z, vI_e, zR_l, zR_t, vS_asgT, vS_par, vS_app, vS_setIx, vS_aug, vS_ite, vS_whl, vS_for, vS_ret, vS_retN, vS_expr, vS_pass, aF_n, aF_r, uh_n, uh_c, ag_a, ag_s, cl_n, cl_c, List.getD_cons_zero, List.getD_cons_succ, R.ok_bind, R.exc_bind, R.bad_bind, R.pure_eq, List.length_cons, List.length_nil, List.map_cons, List.map_nil, List.cons_append, List.nil_append, List.replicate_succ, List.replicate_zero, List.set_cons_zero, List.set_cons_succ, Nat.reduceAdd, Nat.reduceSub, Nat.reduceEqDiff, Int.cast_ofNat_Int, Int.reduceEq, Int.reduceLT, Int.reduceLE, Int.reduceAdd, Int.reduceSub, Int.reduceMul, Int.reduceNeg, decide_true, decide_false, Bool.false_and, Bool.true_and, Bool.and_true, Bool.and_false, Bool.or_true, Bool.or_false, Bool.true_or, Bool.false_or, if_true, ite_true, ite_false, Bool.false_eq_true, reduceIte, Bool.not_true, Bool.not_false, asI_i, asB_b, asL_l, asL_t, asLst_l, dIs_int_none, dIs_int_bool, dIs_int_int, dIs_int_str, dIs_int_list, dIs_int_tuple, dIs_int_dict, dIs_bool_none, dIs_bool_bool, dIs_bool_int, dIs_bool_str, dIs_bool_list, dIs_bool_tuple, dIs_bool_dict, dIs_str_none, dIs_str_bool, dIs_str_int, dIs_str_str, dIs_str_list, dIs_str_tuple, dIs_str_dict, dIs_tuple_none, dIs_tuple_bool, dIs_tuple_int, dIs_tuple_str, dIs_tuple_list, dIs_tuple_tuple, dIs_tuple_dict, dIs_list_none, dIs_list_bool, dIs_list_int, dIs_list_str, dIs_list_list, dIs_list_tuple, dIs_list_dict, ad_i, ad_l, ad_t, ad_s, sb_i, mu_i, fd_i, md_i, pw_10_6, pw_10_9, pw_10_12, pw_10_18, pw_10_59, pw_10_60, c_lt, c_le, c_gt, c_ge, c_eq_i, c_ne_i, c_eq_b, c_ne_b, c_isN, c_inN, c_isB, c_inB, c_in, c_ni, b_len_l, b_len_t, b_len_s, b_int_i, b_int_b, b_tup_l, b_tup_t, b_lst_l, b_lst_t, b_abs, b2_max, b2_min, ix_l, ix_t, sl_l, sl_t, rv_l, rv_t, getS_z, getS_s, ne_ok, seq_n, seq_r, evSs_n, evSs_c, outR_r, outR_n, bT_n, bT_t, bTs_n, bTs_c, asS, isNum]; rfl)
    | [], _ => bv_omega; rfl
    | [_], _ => bv_omega; rfl
    | [_, _], _ => bv_omega; rfl
    | [_, _, _], _ => bv_omega; rfl
    | _ :: _ :: _ :: _ :: _ :: r, _ =>
      bv_omega
      rw [decide_eq_false (by omega)]
      bv_omega
      rfl
  | _ => rfl
theorem isSt4_no1 {o a x y : D} (h : isNum x = false) : isSt4 o a x y = false := by
  cases x <;> first | rfl | cases h
theorem isSt4_no2 {o a x y : D} (h : isNum y = false) : isSt4 o a x y = false := by
  cases x <;> cases y <;> first | rfl | cases h
/-! ### the law's own -/
def adj : List Int → Bool
  | x :: y :: r => decide (x < y) && adj (y :: r)
  | _ => true
theorem adj_head : ∀ (r : List Int) (y : Int), adj (y :: r) = true → ∀ z ∈ r, y < z
  | [], _, _, _, h => nomatch h
  | x :: r, y, h, z, hz => by
    rw [adj, Bool.and_eq_true, decide_eq_true_eq] at h
    rcases List.mem_cons.mp hz with rfl | hz
    · exact h.1
    · exact Int.lt_trans h.1 (adj_head r x h.2 z hz)
theorem adj_tail {x : Int} {r : List Int} (h : adj (x :: r) = true) : adj r = true := by
  cases r with
  | nil => rfl
  | cons y r => rw [adj, Bool.and_eq_true] at h; exact h.2
theorem adj_cons {x : Int} {r : List Int} (h : adj r = true) (hx : ∀ z ∈ r, x < z) : adj (x :: r) = true := by
  cases r with
  | nil => rfl
  | cons y r => rw [adj, Bool.and_eq_true, decide_eq_true_eq]; exact ⟨hx y List.mem_cons_self, h⟩
theorem rises_iff : ∀ (ns : List Int) (l hi : Int), risesI l hi ns = true ↔ (∀ x ∈ ns, l < x ∧ x < hi) ∧ adj ns = true
  | [], _, _ => ⟨fun _ => ⟨(fun x h => nomatch h), rfl⟩, fun _ => rfl⟩
  | x :: r, l, hi => by
    rw [risesI, Bool.and_eq_true, Bool.and_eq_true, decide_eq_true_eq, decide_eq_true_eq, rises_iff r x hi]
    constructor
    · rintro ⟨⟨h1, h2⟩, h3, h4⟩
      refine ⟨fun z hz => ?_, adj_cons h4 fun z hz => (h3 z hz).1⟩
      rcases List.mem_cons.mp hz with rfl | hz
      · exact ⟨h1, h2⟩
      · have := h3 z hz
        exact ⟨by omega, this.2⟩
    · rintro ⟨h1, h2⟩
      have hx := h1 x List.mem_cons_self
      exact ⟨⟨hx.1, hx.2⟩, fun z hz => ⟨adj_head r x h2 z hz, (h1 z (List.mem_cons_of_mem _ hz)).2⟩, adj_tail h2⟩
theorem rises_adj (ns : List Int) (lo hi : Int) : risesI (lo - 1) hi ns = (ns.all (fun x => decide (lo ≤ x) && decide (x < hi)) && adj ns) := by
  rw [Bool.eq_iff_iff, rises_iff, Bool.and_eq_true, List.all_eq_true]
  refine and_congr_left fun _ => ⟨fun h x hx => ?_, fun h x hx => ?_⟩
  · have := h x hx
    rw [Bool.and_eq_true, decide_eq_true_eq, decide_eq_true_eq]
    omega
  · have := h x hx
    rw [Bool.and_eq_true, decide_eq_true_eq, decide_eq_true_eq] at this
    omega
theorem zip_adj : ∀ (ns : List Int), (zipD (ns.map .int) ((ns.drop 1).map .int)).all (fun d => match d with | .tuple [.int x, .int y] => decide (x < y) | _ => false) = adj ns
  | [] => rfl
  | [_] => rfl
  | x :: y :: r => by
    have ih := zip_adj (y :: r)
    rw [List.drop_one, List.tail_cons] at ih
    show (decide (x < y) && _) = _
    rw [adj, ← ih]
theorem cut_all {α : Type} (l : List α) : cut l (some 1) none = l.drop 1 := by
  unfold cut
  rw [show HT.sIx l.length 0 (some 1) = min 1 l.length from HT.sIx_nat l.length 0 1, HT.sIx_none]
  cases l with
  | nil => rfl
  | cons x r =>
    rw [List.length_cons, show min 1 (r.length + 1) = 1 by omega]
    exact List.take_of_length_le (by simp)
theorem zip_len_le : ∀ (a b : List D), (zipD a b).length ≤ a.length
  | [], _ => Nat.zero_le _
  | _ :: _, [] => Nat.zero_le _
  | _ :: a, _ :: b => Nat.succ_le_succ (zip_len_le a b)
theorem zip_mem : ∀ (a b : List D) (d : D), d ∈ zipD a b → ∃ x ∈ a, ∃ y ∈ b, d = .tuple [x, y]
  | [], _, _, h => nomatch h
  | _ :: _, [], _, h => nomatch h
  | x :: a, y :: b, d, h => by
    rcases List.mem_cons.mp h with rfl | h
    · exact ⟨x, List.mem_cons_self, y, List.mem_cons_self, rfl⟩
    · obtain ⟨x', h1, y', h2, e⟩ := zip_mem a b d h
      exact ⟨x', List.mem_cons_of_mem _ h1, y', List.mem_cons_of_mem _ h2, e⟩
def ltP : D → Bool
  | .tuple [.int x, .int y] => decide (x < y)
  | _ => false
def inP (lo hi : Int) : D → Bool
  | .int x => decide (lo ≤ x) && decide (x < hi)
  | _ => false
theorem law_rises_ok (d : D) (lo hi : Int) (hs : szRow d) : run Tb N (k + 2) 8 [d, .int lo, .int hi] = .ok (.bool (rising d lo hi)) := by
  rw [run_eq (fn := f_law_rises) rfl rfl]
  cases d with
  | tuple l =>
    have hl := hs l rfl
    unfold f_law_rises
    bv_omega
    rw [compL_map (g := fun d => .bool (isNum d))]
    · bv_omega
      rw [sized_ok (by rw [List.length_map]; exact hl)]
      bv_omega
      rw [all_bools]
      bv_omega
      cases q : numsOf l with
      | none =>
        have er : rising (.tuple l) lo hi = false := by simp only [rising, q]
        rw [numsOf_none q, er]
        bv_omega
      | some ns =>
        obtain ⟨e1, e2⟩ := numsOf_some q
        have er : rising (.tuple l) lo hi = risesI (lo - 1) hi ns := by simp only [rising, q]
        rw [e2, er]
        bv_omega
        rw [compL_map (g := fun d => .bool (inP lo hi d))]
        · bv_omega
          rw [sized_ok (by rw [List.length_map]; exact hl)]
          bv_omega
          rw [all_bools]
          bv_omega
          rw [cut_all, compL_map (g := fun d => .bool (ltP d))]
          · bv_omega
            rw [sized_ok (by rw [List.length_map]; exact Nat.le_trans (zip_len_le _ _) hl)]
            bv_omega
            rw [all_bools]
            bv_omega
            have ea : l.all (inP lo hi) = ns.all (fun x => decide (lo ≤ x) && decide (x < hi)) := by rw [e1, List.all_map]; rfl
            have ez : (zipD l (List.drop 1 l)).all ltP = adj ns := by
              rw [e1, ← List.map_drop, ← zip_adj ns]
              congr 1
            rw [ea, ez, rises_adj]
            cases ns.all (fun x => decide (lo ≤ x) && decide (x < hi)) with
            | true => bv_omega
            | false => bv_omega
          · intro d hd
            rw [turnC_eq]
            obtain ⟨x, hx, y, hy, rfl⟩ := zip_mem _ _ _ hd
            rw [e1] at hx hy
            obtain ⟨a, _, rfl⟩ := List.mem_map.mp hx
            obtain ⟨b, _, rfl⟩ := List.mem_map.mp (List.mem_of_mem_drop hy)
            bv_omega
            rfl
        · intro d hd
          rw [turnC_eq]
          rw [e1] at hd
          obtain ⟨a, _, rfl⟩ := List.mem_map.mp hd
          bv_omega
          by_cases h : lo ≤ a
          · simp only [h, decide_true, if_true]
            bv_omega
            simp only [inP, h, decide_true, Bool.true_and]
          · simp only [h, decide_false, inP, Bool.false_and]
            bv_omega
    · intro d _
      rw [turnC_eq]
      try simp only [vE_var, vE_int, vE_bl, vE_non, vE_str, vE_cst, vE_bin, vE_cmp, vE_chain, vE_and, vE_or, vE_not, vE_neg, vE_ite, vE_isi, vE_tup, vE_lst, vE_lmul, vE_ix, vE_slice, vE_rev, vE_b1, vE_b2, vE_dm, vE_call, vE_call0, vE_comp, vEs_n, vEs_c, vO_n, vO_s, vC_n, vC_s, vI_1, vI_2, vI_3, vI_s, vI_z, vI_e, zR_l, zR_t, vS_asgT, vS_par, vS_app, vS_setIx, vS_aug, vS_ite, vS_whl, vS_for, vS_ret, vS_retN, vS_expr, vS_pass, aF_n, aF_r, uh_n, uh_c, ag_a, ag_s, cl_n, cl_c, List.getD_cons_zero, List.getD_cons_succ, R.ok_bind, R.exc_bind, R.bad_bind, R.pure_eq, List.length_cons, List.length_nil, List.map_cons, List.map_nil, List.cons_append, List.nil_append, List.replicate_succ, List.replicate_zero, List.set_cons_zero, List.set_cons_succ, Nat.reduceAdd, Nat.reduceSub, Nat.reduceEqDiff, Int.cast_ofNat_Int, Int.reduceEq, Int.reduceLT, Int.reduceLE, Int.reduceAdd, Int.reduceSub, Int.reduceMul, Int.reduceNeg, decide_true, decide_false, Bool.false_and, Bool.true_and, Bool.and_true, Bool.and_false, Bool.or_true, Bool.or_false, Bool.true_or, Bool.false_or, if_true, ite_true, ite_false, Bool.false_eq_true, reduceIte, Bool.not_true, Bool.not_false, asI_i, asB_b, asL_l, asL_t, asLst_l, dIs_int_none, dIs_int_bool, dIs_int_int, dIs_int_str, dIs_int_list, dIs_int_tuple, dIs_int_dict, dIs_bool_none, dIs_bool_bool, dIs_bool_int, dIs_bool_str, dIs_bool_list, dIs_bool_tuple, dIs_bool_dict, dIs_str_none, dIs_str_bool, dIs_str_int, dIs_str_str, dIs_str_list, dIs_str_tuple, dIs_str_dict, dIs_tuple_none, dIs_tuple_bool, dIs_tuple_int, dIs_tuple_str, dIs_tuple_list, dIs_tuple_tuple, dIs_tuple_dict, dIs_list_none, dIs_list_bool, dIs_list_int, dIs_list_str, dIs_list_list, dIs_list_tuple, dIs_list_dict, ad_i, ad_l, ad_t, ad_s, sb_i, mu_i, fd_i, md_i, pw_10_6, pw_10_9, pw_10_12, pw_10_18, pw_10_59, pw_10_60, c_lt, c_le, c_gt, c_ge, c_eq_i, c_ne_i, c_eq_b, c_ne_b, c_isN, c_inN, c_isB, c_inB, c_in, c_ni, b_len_l, b_len_t, b_len_s, b_int_i, b_int_b, b_tup_l, b_tup_t, b_lst_l, b_lst_t, b_abs, b2_max, b2_min, ix_l, ix_t, sl_l, sl_t, rv_l, rv_t, getS_z, getS_s, ne_ok, seq_n, seq_r, evSs_n, evSs_c, outR_r, outR_n, bT_n, bT_t, bTs_n, bTs_c, asS, whole_ok]
  | _ => rfl
theorem at0 {α : Type} (x : α) (r : List α) : L2.atI (x :: r) 0 = some x := L2.atI_nat (j := 0) rfl
theorem at1 {α : Type} (x y : α) (r : List α) : L2.atI (x :: y :: r) 1 = some y := L2.atI_nat (j := 1) rfl
theorem at2 {α : Type} (x y z : α) (r : List α) : L2.atI (x :: y :: z :: r) 2 = some z := L2.atI_nat (j := 2) rfl
theorem at3 {α : Type} (x y z u : α) (r : List α) : L2.atI (x :: y :: z :: u :: r) 3 = some u := L2.atI_nat (j := 3) rfl
theorem ofO_s {α : Type} (a : α) : ofO (some a) = R.ok a := rfl
theorem law_is_stair_ok (d : D) (hs : szSt d) : run Tb N (k + 3) 9 [d] = .ok (.bool (isStair d)) := by
  rw [run_eq (fn := f_law_is_stair) rfl rfl]
  cases d with
  | tuple l =>
    have h := hs l rfl
    unfold f_law_is_stair
    match l, h with
    | [x, y, o, a], h =>
      have ho := h o (by simp)
      have ha := h a (by simp)
      try simp only [vE_var, vE_int, vE_bl, vE_non, vE_str, vE_cst, vE_bin, vE_cmp, vE_chain, vE_and, vE_or, vE_not, vE_neg, vE_ite, vE_isi, vE_tup, vE_lst, vE_lmul, vE_ix, vE_slice, vE_rev, vE_b1, vE_b2, vE_dm, vE_call, vE_call0, vE_comp, vEs_n, vEs_c, vO_n, vO_s, vC_n, vC_s, vI_1, vI_2, vI_3, vI_s, vI_z, vI_e, zR_l, zR_t, vS_asgT, vS_par, vS_app, vS_setIx, vS_aug, vS_ite, vS_whl, vS_for, vS_ret, vS_retN, vS_expr, vS_pass, aF_n, aF_r, uh_n, uh_c, ag_a, ag_s, cl_n, cl_c, List.getD_cons_zero, List.getD_cons_succ, R.ok_bind, R.exc_bind, R.bad_bind, R.pure_eq, List.length_cons, List.length_nil, List.map_cons, List.map_nil, List.cons_append, List.nil_append, List.replicate_succ, List.replicate_zero, List.set_cons_zero, List.set_cons_succ, Nat.reduceAdd, Nat.reduceSub, Nat.reduceEqDiff, Int.cast_ofNat_Int, Int.reduceEq, Int.reduceLT, Int.reduceLE, Int.reduceAdd, Int.reduceSub, Int.reduceMul, Int.reduceNeg, decide_true, decide_false, Bool.false_and, Bool.true_and, Bool.and_true, Bool.and_false, Bool.or_true, Bool.or_false, Bool.true_or, Bool.false_or, if_true, ite_true, ite_false, Bool.false_eq_true, reduceIte, Bool.not_true, Bool.not_false, asI_i, asB_b, asL_l, asL_t, asLst_l, dIs_int_none, dIs_int_bool, dIs_int_int, dIs_int_str, dIs_int_list, dIs_int_tuple, dIs_int_dict, dIs_bool_none, dIs_bool_bool, dIs_bool_int, dIs_bool_str, dIs_bool_list, dIs_bool_tuple, dIs_bool_dict, dIs_str_none, dIs_str_bool, dIs_str_int, dIs_str_str, dIs_str_list, dIs_str_tuple, dIs_str_dict, dIs_tuple_none, dIs_tuple_bool, dIs_tuple_int, dIs_tuple_str, dIs_tuple_list, dIs_tuple_tuple, dIs_tuple_dict, dIs_list_none, dIs_list_bool, dIs_list_int, dIs_list_str, dIs_list_list, dIs_list_tuple, dIs_list_dict, ad_i, ad_l, ad_t, ad_s, sb_i, mu_i, fd_i, md_i, pw_10_6, pw_10_9, pw_10_12, pw_10_18, pw_10_59, pw_10_60, c_lt, c_le, c_gt, c_ge, c_eq_i, c_ne_i, c_eq_b, c_ne_b, c_isN, c_inN, c_isB, c_inB, c_in, c_ni, b_len_l, b_len_t, b_len_s, b_int_i, b_int_b, b_tup_l, b_tup_t, b_lst_l, b_lst_t, b_abs, b2_max, b2_min, ix_l, ix_t, sl_l, sl_t, rv_l, rv_t, getS_z, getS_s, ne_ok, seq_n, seq_r, evSs_n, evSs_c, outR_r, outR_n, bT_n, bT_t, bTs_n, bTs_c, asS, whole_ok, at0, at1, ofO_s]
      cases hx : isNum x with
      | false =>
        bv_omega
        rw [show isStair (.tuple [x, y, o, a]) = isSt4 o a x y from rfl, isSt4_no1 hx]
      | true =>
        cases hy : isNum y with
        | false =>
          bv_omega
          rw [show isStair (.tuple [x, y, o, a]) = isSt4 o a x y from rfl, isSt4_no2 hy]
        | true =>
          cases x with
          | int b =>
            cases y with
            | int s =>
              try simp only [vE_var, vE_int, vE_bl, vE_non, vE_str, vE_cst, vE_bin, vE_cmp, vE_chain, vE_and, vE_or, vE_not, vE_neg, vE_ite, vE_isi, vE_tup, vE_lst, vE_lmul, vE_ix, vE_slice, vE_rev, vE_b1, vE_b2, vE_dm, vE_call, vE_call0, vE_comp, vEs_n, vEs_c, vO_n, vO_s, vC_n, vC_s, vI_1, vI_2, vI_3, vI_s, vI_z, vI_e, zR_l, zR_t, vS_asgT, vS_par, vS_app, vS_setIx, vS_aug, vS_ite, vS_whl, vS_for, vS_ret, vS_retN, vS_expr, vS_pass, aF_n, aF_r, uh_n, uh_c, ag_a, ag_s, cl_n, cl_c, List.getD_cons_zero, List.getD_cons_succ, R.ok_bind, R.exc_bind, R.bad_bind, R.pure_eq, List.length_cons, List.length_nil, List.map_cons, List.map_nil, List.cons_append, List.nil_append, List.replicate_succ, List.replicate_zero, List.set_cons_zero, List.set_cons_succ, Nat.reduceAdd, Nat.reduceSub, Nat.reduceEqDiff, Int.cast_ofNat_Int, Int.reduceEq, Int.reduceLT, Int.reduceLE, Int.reduceAdd, Int.reduceSub, Int.reduceMul, Int.reduceNeg, decide_true, decide_false, Bool.false_and, Bool.true_and, Bool.and_true, Bool.and_false, Bool.or_true, Bool.or_false, Bool.true_or, Bool.false_or, if_true, ite_true, ite_false, Bool.false_eq_true, reduceIte, Bool.not_true, Bool.not_false, asI_i, asB_b, asL_l, asL_t, asLst_l, dIs_int_none, dIs_int_bool, dIs_int_int, dIs_int_str, dIs_int_list, dIs_int_tuple, dIs_int_dict, dIs_bool_none, dIs_bool_bool, dIs_bool_int, dIs_bool_str, dIs_bool_list, dIs_bool_tuple, dIs_bool_dict, dIs_str_none, dIs_str_bool, dIs_str_int, dIs_str_str, dIs_str_list, dIs_str_tuple, dIs_str_dict, dIs_tuple_none, dIs_tuple_bool, dIs_tuple_int, dIs_tuple_str, dIs_tuple_list, dIs_tuple_tuple, dIs_tuple_dict, dIs_list_none, dIs_list_bool, dIs_list_int, dIs_list_str, dIs_list_list, dIs_list_tuple, dIs_list_dict, ad_i, ad_l, ad_t, ad_s, sb_i, mu_i, fd_i, md_i, pw_10_6, pw_10_9, pw_10_12, pw_10_18, pw_10_59, pw_10_60, c_lt, c_le, c_gt, c_ge, c_eq_i, c_ne_i, c_eq_b, c_ne_b, c_isN, c_inN, c_isB, c_inB, c_in, c_ni, b_len_l, b_len_t, b_len_s, b_int_i, b_int_b, b_tup_l, b_tup_t, b_lst_l, b_lst_t, b_abs, b2_max, b2_min, ix_l, ix_t, sl_l, sl_t, rv_l, rv_t, getS_z, getS_s, ne_ok, seq_n, seq_r, evSs_n, evSs_c, outR_r, outR_n, bT_n, bT_t, bTs_n, bTs_c, asS, at0, at1, at2, at3, ofO_s]
              by_cases h1 : b < 0
              · simp only [h1, decide_true, if_true]
                bv_omega
                simp only [isStair, isSt4, h1, decide_true, Bool.not_true, Bool.false_and]
              · by_cases h2 : s < 1
                · simp only [h1, h2, decide_true, decide_false, if_true]
                  bv_omega
                  simp only [isStair, isSt4, h1, h2, decide_true, Bool.not_true, Bool.false_and, Bool.and_false]
                · simp only [h1, h2, decide_true, decide_false, if_true]
                  bv_omega
                  rw [law_rises_ok o 0 b ho]
                  bv_omega
                  simp only [isStair, isSt4, h1, h2, decide_false, Bool.not_false, Bool.true_and]
                  cases rising o 0 b with
                  | false => bv_omega
                  | true =>
                    try simp only [vE_var, vE_int, vE_bl, vE_non, vE_str, vE_cst, vE_bin, vE_cmp, vE_chain, vE_and, vE_or, vE_not, vE_neg, vE_ite, vE_isi, vE_tup, vE_lst, vE_lmul, vE_ix, vE_slice, vE_rev, vE_b1, vE_b2, vE_dm, vE_call, vE_call0, vE_comp, vEs_n, vEs_c, vO_n, vO_s, vC_n, vC_s, vI_1, vI_2, vI_3, vI_s, vI_z, vI_e, zR_l, zR_t, vS_asgT, vS_par, vS_app, vS_setIx, vS_aug, vS_ite, vS_whl, vS_for, vS_ret, vS_retN, vS_expr, vS_pass, aF_n, aF_r, uh_n, uh_c, ag_a, ag_s, cl_n, cl_c, List.getD_cons_zero, List.getD_cons_succ, R.ok_bind, R.exc_bind, R.bad_bind, R.pure_eq, List.length_cons, List.length_nil, List.map_cons, List.map_nil, List.cons_append, List.nil_append, List.replicate_succ, List.replicate_zero, List.set_cons_zero, List.set_cons_succ, Nat.reduceAdd, Nat.reduceSub, Nat.reduceEqDiff, Int.cast_ofNat_Int, Int.reduceEq, Int.reduceLT, Int.reduceLE, Int.reduceAdd, Int.reduceSub, Int.reduceMul, Int.reduceNeg, decide_true, decide_false, Bool.false_and, Bool.true_and, Bool.and_true, Bool.and_false, Bool.or_true, Bool.or_false, Bool.true_or, Bool.false_or, if_true, ite_true, ite_false, Bool.false_eq_true, reduceIte, Bool.not_true, Bool.not_false, asI_i, asB_b, asL_l, asL_t, asLst_l, dIs_int_none, dIs_int_bool, dIs_int_int, dIs_int_str, dIs_int_list, dIs_int_tuple, dIs_int_dict, dIs_bool_none, dIs_bool_bool, dIs_bool_int, dIs_bool_str, dIs_bool_list, dIs_bool_tuple, dIs_bool_dict, dIs_str_none, dIs_str_bool, dIs_str_int, dIs_str_str, dIs_str_list, dIs_str_tuple, dIs_str_dict, dIs_tuple_none, dIs_tuple_bool, dIs_tuple_int, dIs_tuple_str, dIs_tuple_list, dIs_tuple_tuple, dIs_tuple_dict, dIs_list_none, dIs_list_bool, dIs_list_int, dIs_list_str, dIs_list_list, dIs_list_tuple, dIs_list_dict, ad_i, ad_l, ad_t, ad_s, sb_i, mu_i, fd_i, md_i, pw_10_6, pw_10_9, pw_10_12, pw_10_18, pw_10_59, pw_10_60, c_lt, c_le, c_gt, c_ge, c_eq_i, c_ne_i, c_eq_b, c_ne_b, c_isN, c_inN, c_isB, c_inB, c_in, c_ni, b_len_l, b_len_t, b_len_s, b_int_i, b_int_b, b_tup_l, b_tup_t, b_lst_l, b_lst_t, b_abs, b2_max, b2_min, ix_l, ix_t, sl_l, sl_t, rv_l, rv_t, getS_z, getS_s, ne_ok, seq_n, seq_r, evSs_n, evSs_c, outR_r, outR_n, bT_n, bT_t, bTs_n, bTs_c, asS, at0, at1, at2, at3, ofO_s]
                    rw [law_rises_ok a b (b + s) ha]
                    bv_omega
            | _ => cases hy
          | _ => cases hx
    | [], _ => bv_omega; rfl
    | [_], _ => bv_omega; rfl
    | [_, _], _ => bv_omega; rfl
    | [_, _, _], _ => bv_omega; rfl
    | _ :: _ :: _ :: _ :: _ :: r, _ =>
      bv_omega
      rw [decide_eq_false (by omega)]
      bv_omega
      rfl
  | _ => rfl
end Ev
set_option Elab.async false
set_option linter.all false
set_option maxRecDepth 100000
namespace Ev
open PySem
local macro_rules | `(tactic| bv_omega) => `(tactic| try simp only [vE_var, vE_int, vE_bl, vE_non, vE_str, vE_cst, vE_bin, vE_cmp, vE_chain, vE_and, vE_or, vE_not, vE_neg, vE_ite, vE_isi, vE_tup, vE_lst, vE_lmul, vE_ix, vE_slice, vE_rev, vE_b1, vE_b2, vE_dm, vE_call, vE_call0, vE_comp, vEs_n, vEs_c, vO_n, vO_s, vC_n, vC_s, vI_1, vI_2, vI_3, vI_s, vI_z, vI_e, zR_l, zR_t, vS_asgT, vS_par, vS_app, vS_setIx, vS_aug, vS_ite, vS_whl, vS_for, vS_ret, vS_retN, vS_expr, vS_pass, aF_n, aF_r, uh_n, uh_c, ag_a, ag_s, cl_n, cl_c, List.getD_cons_zero, List.getD_cons_succ, R.ok_bind, R.exc_bind, R.bad_bind, R.pure_eq, List.length_cons, List.length_nil, List.map_cons, List.map_nil, List.cons_append, List.nil_append, List.replicate_succ, List.replicate_zero, List.set_cons_zero, List.set_cons_succ, Nat.reduceAdd, Nat.reduceSub, Nat.reduceEqDiff, Int.cast_ofNat_Int, Int.reduceEq, Int.reduceLT, Int.reduceLE, Int.reduceAdd, Int.reduceSub, Int.reduceMul, Int.reduceNeg, decide_true, decide_false, Bool.false_and, Bool.true_and, Bool.and_true, Bool.and_false, Bool.or_true, Bool.or_false, Bool.true_or, Bool.false_or, if_true, ite_true, ite_false, Bool.false_eq_true, reduceIte, Bool.not_true, Bool.not_false, asI_i, asB_b, asL_l, asL_t, asLst_l, dIs_int_none, dIs_int_bool, dIs_int_int, dIs_int_str, dIs_int_list, dIs_int_tuple, dIs_int_dict, dIs_bool_none, dIs_bool_bool, dIs_bool_int, dIs_bool_str, dIs_bool_list, dIs_bool_tuple, dIs_bool_dict, dIs_str_none, dIs_str_bool, dIs_str_int, dIs_str_str, dIs_str_list, dIs_str_tuple, dIs_str_dict, dIs_tuple_none, dIs_tuple_bool, dIs_tuple_int, dIs_tuple_str, dIs_tuple_list, dIs_tuple_tuple, dIs_tuple_dict, dIs_list_none, dIs_list_bool, dIs_list_int, dIs_list_str, dIs_list_list, dIs_list_tuple, dIs_list_dict, ad_i, ad_l, ad_t, ad_s, sb_i, mu_i, fd_i, md_i, pw_10_6, pw_10_9, pw_10_12, pw_10_18, pw_10_59, pw_10_60, c_lt, c_le, c_gt, c_ge, c_eq_i, c_ne_i, c_eq_b, c_ne_b, c_isN, c_inN, c_isB, c_inB, c_in, c_ni, b_len_l, b_len_t, b_len_s, b_int_i, b_int_b, b_tup_l, b_tup_t, b_lst_l, b_lst_t, b_abs, b2_max, b2_min, ix_l, ix_t, sl_l, sl_t, rv_l, rv_t, getS_z, getS_s, ne_ok, seq_n, seq_r, evSs_n, evSs_c, outR_r, outR_n, bT_n, bT_t, bTs_n, bTs_c, asS])
variable {N k : Nat}
/-! ### what is drawn of a cell -/
theorem ints_len (ns : List Int) : (ns.map PyData.int).length = ns.length := List.length_map ..
def cellI (ns : List Int) (j : Nat) : Int := if ns.length = 0 then 7919 * ((j : Int) + 1) else if h : j < ns.length then ns[j] else (ns[j % ns.length]?).getD 0 + 104729 * (j : Int)
theorem atI_map {ns : List Int} {i : Nat} (h : i < ns.length) : L2.atI (ns.map PyData.int) (i : Int) = some (.int (ns[i])) := L2.atI_nat (by rw [List.getElem?_map, List.getElem?_eq_getElem h]; rfl)
theorem law_cell_ok (ns : List Int) (j : Nat) (hj : (j : Int) < 1000) : run Tb N (k + 1) 3 [.list (ns.map .int), .int (j : Int)] = .ok (.int (cellI ns j)) := by
  rw [run_eq (fn := f_law_cell) rfl rfl]
  unfold f_law_cell
  try simp only [vE_var, vE_int, vE_bl, vE_non, vE_str, vE_cst, vE_bin, vE_cmp, vE_chain, vE_and, vE_or, vE_not, vE_neg, vE_ite, vE_isi, vE_tup, vE_lst, vE_lmul, vE_ix, vE_slice, vE_rev, vE_b1, vE_b2, vE_dm, vE_call, vE_call0, vE_comp, vEs_n, vEs_c, vO_n, vO_s, vC_n, vC_s, vI_1, vI_2, vI_3, vI_s, vI_z, vI_e, zR_l, zR_t, vS_asgT, vS_par, vS_app, vS_setIx, vS_aug, vS_ite, vS_whl, vS_for, vS_ret, vS_retN, vS_expr, vS_pass, aF_n, aF_r, uh_n, uh_c, ag_a, ag_s, cl_n, cl_c, List.getD_cons_zero, List.getD_cons_succ, R.ok_bind, R.exc_bind, R.bad_bind, R.pure_eq, List.length_cons, List.length_nil, List.map_cons, List.map_nil, List.cons_append, List.nil_append, List.replicate_succ, List.replicate_zero, List.set_cons_zero, List.set_cons_succ, Nat.reduceAdd, Nat.reduceSub, Nat.reduceEqDiff, Int.cast_ofNat_Int, Int.reduceEq, Int.reduceLT, Int.reduceLE, Int.reduceAdd, Int.reduceSub, Int.reduceMul, Int.reduceNeg, decide_true, decide_false, Bool.false_and, Bool.true_and, Bool.and_true, Bool.and_false, Bool.or_true, Bool.or_false, Bool.true_or, Bool.false_or, if_true, ite_true, ite_false, Bool.false_eq_true, reduceIte, Bool.not_true, Bool.not_false, asI_i, asB_b, asL_l, asL_t, asLst_l, dIs_int_none, dIs_int_bool, dIs_int_int, dIs_int_str, dIs_int_list, dIs_int_tuple, dIs_int_dict, dIs_bool_none, dIs_bool_bool, dIs_bool_int, dIs_bool_str, dIs_bool_list, dIs_bool_tuple, dIs_bool_dict, dIs_str_none, dIs_str_bool, dIs_str_int, dIs_str_str, dIs_str_list, dIs_str_tuple, dIs_str_dict, dIs_tuple_none, dIs_tuple_bool, dIs_tuple_int, dIs_tuple_str, dIs_tuple_list, dIs_tuple_tuple, dIs_tuple_dict, dIs_list_none, dIs_list_bool, dIs_list_int, dIs_list_str, dIs_list_list, dIs_list_tuple, dIs_list_dict, ad_i, ad_l, ad_t, ad_s, sb_i, mu_i, fd_i, md_i, pw_10_6, pw_10_9, pw_10_12, pw_10_18, pw_10_59, pw_10_60, c_lt, c_le, c_gt, c_ge, c_eq_i, c_ne_i, c_eq_b, c_ne_b, c_isN, c_inN, c_isB, c_inB, c_in, c_ni, b_len_l, b_len_t, b_len_s, b_int_i, b_int_b, b_tup_l, b_tup_t, b_lst_l, b_lst_t, b_abs, b2_max, b2_min, ix_l, ix_t, sl_l, sl_t, rv_l, rv_t, getS_z, getS_s, ne_ok, seq_n, seq_r, evSs_n, evSs_c, outR_r, outR_n, bT_n, bT_t, bTs_n, bTs_c, asS, ints_len]
  by_cases h0 : ns.length = 0
  · rw [decide_eq_true (by omega)]
    bv_omega
    rw [mulOk_l (by omega)]
    bv_omega
    unfold cellI
    rw [if_pos h0]
  · rw [decide_eq_false (by omega)]
    try simp only [vE_var, vE_int, vE_bl, vE_non, vE_str, vE_cst, vE_bin, vE_cmp, vE_chain, vE_and, vE_or, vE_not, vE_neg, vE_ite, vE_isi, vE_tup, vE_lst, vE_lmul, vE_ix, vE_slice, vE_rev, vE_b1, vE_b2, vE_dm, vE_call, vE_call0, vE_comp, vEs_n, vEs_c, vO_n, vO_s, vC_n, vC_s, vI_1, vI_2, vI_3, vI_s, vI_z, vI_e, zR_l, zR_t, vS_asgT, vS_par, vS_app, vS_setIx, vS_aug, vS_ite, vS_whl, vS_for, vS_ret, vS_retN, vS_expr, vS_pass, aF_n, aF_r, uh_n, uh_c, ag_a, ag_s, cl_n, cl_c, List.getD_cons_zero, List.getD_cons_succ, R.ok_bind, R.exc_bind, R.bad_bind, R.pure_eq, List.length_cons, List.length_nil, List.map_cons, List.map_nil, List.cons_append, List.nil_append, List.replicate_succ, List.replicate_zero, List.set_cons_zero, List.set_cons_succ, Nat.reduceAdd, Nat.reduceSub, Nat.reduceEqDiff, Int.cast_ofNat_Int, Int.reduceEq, Int.reduceLT, Int.reduceLE, Int.reduceAdd, Int.reduceSub, Int.reduceMul, Int.reduceNeg, decide_true, decide_false, Bool.false_and, Bool.true_and, Bool.and_true, Bool.and_false, Bool.or_true, Bool.or_false, Bool.true_or, Bool.false_or, if_true, ite_true, ite_false, Bool.false_eq_true, reduceIte, Bool.not_true, Bool.not_false, asI_i, asB_b, asL_l, asL_t, asLst_l, dIs_int_none, dIs_int_bool, dIs_int_int, dIs_int_str, dIs_int_list, dIs_int_tuple, dIs_int_dict, dIs_bool_none, dIs_bool_bool, dIs_bool_int, dIs_bool_str, dIs_bool_list, dIs_bool_tuple, dIs_bool_dict, dIs_str_none, dIs_str_bool, dIs_str_int, dIs_str_str, dIs_str_list, dIs_str_tuple, dIs_str_dict, dIs_tuple_none, dIs_tuple_bool, dIs_tuple_int, dIs_tuple_str, dIs_tuple_list, dIs_tuple_tuple, dIs_tuple_dict, dIs_list_none, dIs_list_bool, dIs_list_int, dIs_list_str, dIs_list_list, dIs_list_tuple, dIs_list_dict, ad_i, ad_l, ad_t, ad_s, sb_i, mu_i, fd_i, md_i, pw_10_6, pw_10_9, pw_10_12, pw_10_18, pw_10_59, pw_10_60, c_lt, c_le, c_gt, c_ge, c_eq_i, c_ne_i, c_eq_b, c_ne_b, c_isN, c_inN, c_isB, c_inB, c_in, c_ni, b_len_l, b_len_t, b_len_s, b_int_i, b_int_b, b_tup_l, b_tup_t, b_lst_l, b_lst_t, b_abs, b2_max, b2_min, ix_l, ix_t, sl_l, sl_t, rv_l, rv_t, getS_z, getS_s, ne_ok, seq_n, seq_r, evSs_n, evSs_c, outR_r, outR_n, bT_n, bT_t, bTs_n, bTs_c, asS, ints_len]
    by_cases h1 : j < ns.length
    · rw [decide_eq_true (by omega), atI_map h1]
      try simp only [vE_var, vE_int, vE_bl, vE_non, vE_str, vE_cst, vE_bin, vE_cmp, vE_chain, vE_and, vE_or, vE_not, vE_neg, vE_ite, vE_isi, vE_tup, vE_lst, vE_lmul, vE_ix, vE_slice, vE_rev, vE_b1, vE_b2, vE_dm, vE_call, vE_call0, vE_comp, vEs_n, vEs_c, vO_n, vO_s, vC_n, vC_s, vI_1, vI_2, vI_3, vI_s, vI_z, vI_e, zR_l, zR_t, vS_asgT, vS_par, vS_app, vS_setIx, vS_aug, vS_ite, vS_whl, vS_for, vS_ret, vS_retN, vS_expr, vS_pass, aF_n, aF_r, uh_n, uh_c, ag_a, ag_s, cl_n, cl_c, List.getD_cons_zero, List.getD_cons_succ, R.ok_bind, R.exc_bind, R.bad_bind, R.pure_eq, List.length_cons, List.length_nil, List.map_cons, List.map_nil, List.cons_append, List.nil_append, List.replicate_succ, List.replicate_zero, List.set_cons_zero, List.set_cons_succ, Nat.reduceAdd, Nat.reduceSub, Nat.reduceEqDiff, Int.cast_ofNat_Int, Int.reduceEq, Int.reduceLT, Int.reduceLE, Int.reduceAdd, Int.reduceSub, Int.reduceMul, Int.reduceNeg, decide_true, decide_false, Bool.false_and, Bool.true_and, Bool.and_true, Bool.and_false, Bool.or_true, Bool.or_false, Bool.true_or, Bool.false_or, if_true, ite_true, ite_false, Bool.false_eq_true, reduceIte, Bool.not_true, Bool.not_false, asI_i, asB_b, asL_l, asL_t, asLst_l, dIs_int_none, dIs_int_bool, dIs_int_int, dIs_int_str, dIs_int_list, dIs_int_tuple, dIs_int_dict, dIs_bool_none, dIs_bool_bool, dIs_bool_int, dIs_bool_str, dIs_bool_list, dIs_bool_tuple, dIs_bool_dict, dIs_str_none, dIs_str_bool, dIs_str_int, dIs_str_str, dIs_str_list, dIs_str_tuple, dIs_str_dict, dIs_tuple_none, dIs_tuple_bool, dIs_tuple_int, dIs_tuple_str, dIs_tuple_list, dIs_tuple_tuple, dIs_tuple_dict, dIs_list_none, dIs_list_bool, dIs_list_int, dIs_list_str, dIs_list_list, dIs_list_tuple, dIs_list_dict, ad_i, ad_l, ad_t, ad_s, sb_i, mu_i, fd_i, md_i, pw_10_6, pw_10_9, pw_10_12, pw_10_18, pw_10_59, pw_10_60, c_lt, c_le, c_gt, c_ge, c_eq_i, c_ne_i, c_eq_b, c_ne_b, c_isN, c_inN, c_isB, c_inB, c_in, c_ni, b_len_l, b_len_t, b_len_s, b_int_i, b_int_b, b_tup_l, b_tup_t, b_lst_l, b_lst_t, b_abs, b2_max, b2_min, ix_l, ix_t, sl_l, sl_t, rv_l, rv_t, getS_z, getS_s, ne_ok, seq_n, seq_r, evSs_n, evSs_c, outR_r, outR_n, bT_n, bT_t, bTs_n, bTs_c, asS, ofO_s]
      unfold cellI
      rw [if_neg h0, dif_pos h1]
    · rw [decide_eq_false (by omega)]
      try simp only [vE_var, vE_int, vE_bl, vE_non, vE_str, vE_cst, vE_bin, vE_cmp, vE_chain, vE_and, vE_or, vE_not, vE_neg, vE_ite, vE_isi, vE_tup, vE_lst, vE_lmul, vE_ix, vE_slice, vE_rev, vE_b1, vE_b2, vE_dm, vE_call, vE_call0, vE_comp, vEs_n, vEs_c, vO_n, vO_s, vC_n, vC_s, vI_1, vI_2, vI_3, vI_s, vI_z, vI_e, zR_l, zR_t, vS_asgT, vS_par, vS_app, vS_setIx, vS_aug, vS_ite, vS_whl, vS_for, vS_ret, vS_retN, vS_expr, vS_pass, aF_n, aF_r, uh_n, uh_c, ag_a, ag_s, cl_n, cl_c, List.getD_cons_zero, List.getD_cons_succ, R.ok_bind, R.exc_bind, R.bad_bind, R.pure_eq, List.length_cons, List.length_nil, List.map_cons, List.map_nil, List.cons_append, List.nil_append, List.replicate_succ, List.replicate_zero, List.set_cons_zero, List.set_cons_succ, Nat.reduceAdd, Nat.reduceSub, Nat.reduceEqDiff, Int.cast_ofNat_Int, Int.reduceEq, Int.reduceLT, Int.reduceLE, Int.reduceAdd, Int.reduceSub, Int.reduceMul, Int.reduceNeg, decide_true, decide_false, Bool.false_and, Bool.true_and, Bool.and_true, Bool.and_false, Bool.or_true, Bool.or_false, Bool.true_or, Bool.false_or, if_true, ite_true, ite_false, Bool.false_eq_true, reduceIte, Bool.not_true, Bool.not_false, asI_i, asB_b, asL_l, asL_t, asLst_l, dIs_int_none, dIs_int_bool, dIs_int_int, dIs_int_str, dIs_int_list, dIs_int_tuple, dIs_int_dict, dIs_bool_none, dIs_bool_bool, dIs_bool_int, dIs_bool_str, dIs_bool_list, dIs_bool_tuple, dIs_bool_dict, dIs_str_none, dIs_str_bool, dIs_str_int, dIs_str_str, dIs_str_list, dIs_str_tuple, dIs_str_dict, dIs_tuple_none, dIs_tuple_bool, dIs_tuple_int, dIs_tuple_str, dIs_tuple_list, dIs_tuple_tuple, dIs_tuple_dict, dIs_list_none, dIs_list_bool, dIs_list_int, dIs_list_str, dIs_list_list, dIs_list_tuple, dIs_list_dict, ad_i, ad_l, ad_t, ad_s, sb_i, mu_i, fd_i, md_i, pw_10_6, pw_10_9, pw_10_12, pw_10_18, pw_10_59, pw_10_60, c_lt, c_le, c_gt, c_ge, c_eq_i, c_ne_i, c_eq_b, c_ne_b, c_isN, c_inN, c_isB, c_inB, c_in, c_ni, b_len_l, b_len_t, b_len_s, b_int_i, b_int_b, b_tup_l, b_tup_t, b_lst_l, b_lst_t, b_abs, b2_max, b2_min, ix_l, ix_t, sl_l, sl_t, rv_l, rv_t, getS_z, getS_s, ne_ok, seq_n, seq_r, evSs_n, evSs_c, outR_r, outR_n, bT_n, bT_t, bTs_n, bTs_c, asS, ints_len]
      rw [if_pos (by omega)]
      bv_omega
      have e : ((j : Int) % (ns.length : Int)) = ((j % ns.length : Nat) : Int) := rfl
      have hm : j % ns.length < ns.length := Nat.mod_lt _ (by omega)
      rw [e, atI_map hm]
      try simp only [vE_var, vE_int, vE_bl, vE_non, vE_str, vE_cst, vE_bin, vE_cmp, vE_chain, vE_and, vE_or, vE_not, vE_neg, vE_ite, vE_isi, vE_tup, vE_lst, vE_lmul, vE_ix, vE_slice, vE_rev, vE_b1, vE_b2, vE_dm, vE_call, vE_call0, vE_comp, vEs_n, vEs_c, vO_n, vO_s, vC_n, vC_s, vI_1, vI_2, vI_3, vI_s, vI_z, vI_e, zR_l, zR_t, vS_asgT, vS_par, vS_app, vS_setIx, vS_aug, vS_ite, vS_whl, vS_for, vS_ret, vS_retN, vS_expr, vS_pass, aF_n, aF_r, uh_n, uh_c, ag_a, ag_s, cl_n, cl_c, List.getD_cons_zero, List.getD_cons_succ, R.ok_bind, R.exc_bind, R.bad_bind, R.pure_eq, List.length_cons, List.length_nil, List.map_cons, List.map_nil, List.cons_append, List.nil_append, List.replicate_succ, List.replicate_zero, List.set_cons_zero, List.set_cons_succ, Nat.reduceAdd, Nat.reduceSub, Nat.reduceEqDiff, Int.cast_ofNat_Int, Int.reduceEq, Int.reduceLT, Int.reduceLE, Int.reduceAdd, Int.reduceSub, Int.reduceMul, Int.reduceNeg, decide_true, decide_false, Bool.false_and, Bool.true_and, Bool.and_true, Bool.and_false, Bool.or_true, Bool.or_false, Bool.true_or, Bool.false_or, if_true, ite_true, ite_false, Bool.false_eq_true, reduceIte, Bool.not_true, Bool.not_false, asI_i, asB_b, asL_l, asL_t, asLst_l, dIs_int_none, dIs_int_bool, dIs_int_int, dIs_int_str, dIs_int_list, dIs_int_tuple, dIs_int_dict, dIs_bool_none, dIs_bool_bool, dIs_bool_int, dIs_bool_str, dIs_bool_list, dIs_bool_tuple, dIs_bool_dict, dIs_str_none, dIs_str_bool, dIs_str_int, dIs_str_str, dIs_str_list, dIs_str_tuple, dIs_str_dict, dIs_tuple_none, dIs_tuple_bool, dIs_tuple_int, dIs_tuple_str, dIs_tuple_list, dIs_tuple_tuple, dIs_tuple_dict, dIs_list_none, dIs_list_bool, dIs_list_int, dIs_list_str, dIs_list_list, dIs_list_tuple, dIs_list_dict, ad_i, ad_l, ad_t, ad_s, sb_i, mu_i, fd_i, md_i, pw_10_6, pw_10_9, pw_10_12, pw_10_18, pw_10_59, pw_10_60, c_lt, c_le, c_gt, c_ge, c_eq_i, c_ne_i, c_eq_b, c_ne_b, c_isN, c_inN, c_isB, c_inB, c_in, c_ni, b_len_l, b_len_t, b_len_s, b_int_i, b_int_b, b_tup_l, b_tup_t, b_lst_l, b_lst_t, b_abs, b2_max, b2_min, ix_l, ix_t, sl_l, sl_t, rv_l, rv_t, getS_z, getS_s, ne_ok, seq_n, seq_r, evSs_n, evSs_c, outR_r, outR_n, bT_n, bT_t, bTs_n, bTs_c, asS, ofO_s]
      rw [mulOk_l (by omega)]
      bv_omega
      unfold cellI
      rw [if_neg h0, dif_neg h1, List.getElem?_eq_getElem hm]
      rfl
theorem law_spare_ok (c w : Int) (hw : 0 < w ∧ w < 2 ^ 64) : ∃ v, run Tb N (k + 1) 6 [.int c, .int w] = .ok (.int v) := by
  rw [run_eq (fn := f_law_spare) rfl rfl]
  unfold f_law_spare
  bv_omega
  by_cases h : 1000000000000000000 ≤ c
  · simp only [h, decide_true, if_true]
    bv_omega
    have hl : w.natAbs.log2 < 9000 := by
      have : w.natAbs < 2 ^ 64 := by omega
      by_cases hz : w.natAbs = 0
      · rw [hz]; decide
      · exact Nat.lt_trans ((Nat.log2_lt hz).mpr this) (by decide)
    rw [if_pos ⟨hw.1, hl⟩]
    bv_omega
    exact ⟨_, rfl⟩
  · simp only [h, decide_false]
    bv_omega
    exact ⟨_, rfl⟩
/-- a drawn number of each width -/
theorem law_mixed_ok (c j p : Int) (hj : 0 ≤ j ∧ j < 1000) (hp : 0 < p) : ∃ v, run Tb N (k + 1) 4 [.int c, .int j, .int p] = .ok (.int v) ∧ 0 ≤ v := by
  rw [run_eq (fn := f_law_mixed) rfl rfl]
  unfold f_law_mixed
  bv_omega
  rw [mulOk_l (by omega)]
  bv_omega
  rw [mulOk_r (by omega)]
  bv_omega
  rw [mulOk_l (by omega)]
  bv_omega
  rw [mulOk_r (by omega)]
  bv_omega
  obtain ⟨x, hx⟩ : ∃ x, x = (c + 7 * j * j + 13 * j + 5) * 48271 % 2147483647 := ⟨_, rfl⟩
  rw [← hx]
  rw [mulOk_l (by omega)]
  bv_omega
  rw [mulOk_r (by omega)]
  bv_omega
  rw [if_pos hp]
  bv_omega
  exact ⟨_, rfl, Int.emod_nonneg _ (by omega)⟩
def InW : List Int → List Int → Prop
  | [], [] => True
  | v :: vs, w :: ws => (0 ≤ v ∧ v < w) ∧ InW vs ws
  | _, _ => False
theorem InW.snoc {v w : Int} (h : 0 ≤ v ∧ v < w) : ∀ {vs ws : List Int}, InW vs ws → InW (vs ++ [v]) (ws ++ [w])
  | [], [], _ => ⟨h, trivial⟩
  | _ :: _, _ :: _, q => ⟨q.1, InW.snoc h q.2⟩
theorem InW.len : ∀ {vs ws : List Int}, InW vs ws → vs.length = ws.length
  | [], [], _ => rfl
  | _ :: _, _ :: _, q => congrArg (· + 1) (InW.len q.2)
theorem law_draws_loop (c : Int) (ws : List Int) (p : Int) (hw : ∀ w ∈ ws, 0 < w ∧ w < 2 ^ 64) (hl : ws.length ≤ 900) (hp : 0 < p) (left : Int) :
    ∃ left' vs o, forL (stepF ⟨run Tb N (k + 1), N⟩ (.name 5) f_law_draws_b1) (rng 0 ws.length 1) [some (.int c), some (.list (ws.map .int)), some (.int p), some (.int left), some (.list []), none] =
      .ok (.next [some (.int c), some (.list (ws.map .int)), some (.int p), some (.int left'), some (.list (vs.map .int)), o]) ∧ InW vs ws := by
  obtain ⟨e', h1, left', vs, o, h2, h3, h4⟩ := forL_rng (f := stepF ⟨run Tb N (k + 1), N⟩ (.name 5) f_law_draws_b1) (lo := 0) (c := 1) (n := ws.length) (e := [some (.int c), some (.list (ws.map .int)), some (.int p), some (.int left), some (.list []), none])
    (Inv := fun i e => ∃ (left : Int) (vs : List Int) (o : Option D), e = [some (.int c), some (.list (ws.map .int)), some (.int p), some (.int left), some (.list (vs.map .int)), o] ∧ vs.length = i ∧ InW vs (ws.take i))
    (fun i e hi ⟨left, vs, o, he, hv, hI⟩ => by
      subst he
      have hwi := hw ws[i] (List.getElem_mem _)
      have htk : ws.take (i + 1) = ws.take i ++ [ws[i]] := by rw [List.take_add_one, List.getElem?_eq_getElem hi]; rfl
      have hsz : (vs.map PyData.int).length < sizeLine := by
        rw [ints_len]
        exact Nat.lt_of_lt_of_le (by omega) sizeLine_ge
      rw [stepF_eq, show (0 : Int) + (i : Int) * 1 = (i : Int) by omega]
      unfold f_law_draws_b1
      bv_omega
      by_cases hc : 1 < left
      · simp only [hc, decide_true, if_true]
        rw [atI_map hi]
        try simp only [vE_var, vE_int, vE_bl, vE_non, vE_str, vE_cst, vE_bin, vE_cmp, vE_chain, vE_and, vE_or, vE_not, vE_neg, vE_ite, vE_isi, vE_tup, vE_lst, vE_lmul, vE_ix, vE_slice, vE_rev, vE_b1, vE_b2, vE_dm, vE_call, vE_call0, vE_comp, vEs_n, vEs_c, vO_n, vO_s, vC_n, vC_s, vI_1, vI_2, vI_3, vI_s, vI_z, vI_e, zR_l, zR_t, vS_asgT, vS_par, vS_app, vS_setIx, vS_aug, vS_ite, vS_whl, vS_for, vS_ret, vS_retN, vS_expr, vS_pass, aF_n, aF_r, uh_n, uh_c, ag_a, ag_s, cl_n, cl_c, List.getD_cons_zero, List.getD_cons_succ, R.ok_bind, R.exc_bind, R.bad_bind, R.pure_eq, List.length_cons, List.length_nil, List.map_cons, List.map_nil, List.cons_append, List.nil_append, List.replicate_succ, List.replicate_zero, List.set_cons_zero, List.set_cons_succ, Nat.reduceAdd, Nat.reduceSub, Nat.reduceEqDiff, Int.cast_ofNat_Int, Int.reduceEq, Int.reduceLT, Int.reduceLE, Int.reduceAdd, Int.reduceSub, Int.reduceMul, Int.reduceNeg, decide_true, decide_false, Bool.false_and, Bool.true_and, Bool.and_true, Bool.and_false, Bool.or_true, Bool.or_false, Bool.true_or, Bool.false_or, if_true, ite_true, ite_false, Bool.false_eq_true, reduceIte, Bool.not_true, Bool.not_false, asI_i, asB_b, asL_l, asL_t, asLst_l, dIs_int_none, dIs_int_bool, dIs_int_int, dIs_int_str, dIs_int_list, dIs_int_tuple, dIs_int_dict, dIs_bool_none, dIs_bool_bool, dIs_bool_int, dIs_bool_str, dIs_bool_list, dIs_bool_tuple, dIs_bool_dict, dIs_str_none, dIs_str_bool, dIs_str_int, dIs_str_str, dIs_str_list, dIs_str_tuple, dIs_str_dict, dIs_tuple_none, dIs_tuple_bool, dIs_tuple_int, dIs_tuple_str, dIs_tuple_list, dIs_tuple_tuple, dIs_tuple_dict, dIs_list_none, dIs_list_bool, dIs_list_int, dIs_list_str, dIs_list_list, dIs_list_tuple, dIs_list_dict, ad_i, ad_l, ad_t, ad_s, sb_i, mu_i, fd_i, md_i, pw_10_6, pw_10_9, pw_10_12, pw_10_18, pw_10_59, pw_10_60, c_lt, c_le, c_gt, c_ge, c_eq_i, c_ne_i, c_eq_b, c_ne_b, c_isN, c_inN, c_isB, c_inB, c_in, c_ni, b_len_l, b_len_t, b_len_s, b_int_i, b_int_b, b_tup_l, b_tup_t, b_lst_l, b_lst_t, b_abs, b2_max, b2_min, ix_l, ix_t, sl_l, sl_t, rv_l, rv_t, getS_z, getS_s, ne_ok, seq_n, seq_r, evSs_n, evSs_c, outR_r, outR_n, bT_n, bT_t, bTs_n, bTs_c, asS, ofO_s]
        rw [if_pos hwi.1]
        bv_omega
        rw [sizedApp_ok hsz]
        try simp only [vE_var, vE_int, vE_bl, vE_non, vE_str, vE_cst, vE_bin, vE_cmp, vE_chain, vE_and, vE_or, vE_not, vE_neg, vE_ite, vE_isi, vE_tup, vE_lst, vE_lmul, vE_ix, vE_slice, vE_rev, vE_b1, vE_b2, vE_dm, vE_call, vE_call0, vE_comp, vEs_n, vEs_c, vO_n, vO_s, vC_n, vC_s, vI_1, vI_2, vI_3, vI_s, vI_z, vI_e, zR_l, zR_t, vS_asgT, vS_par, vS_app, vS_setIx, vS_aug, vS_ite, vS_whl, vS_for, vS_ret, vS_retN, vS_expr, vS_pass, aF_n, aF_r, uh_n, uh_c, ag_a, ag_s, cl_n, cl_c, List.getD_cons_zero, List.getD_cons_succ, R.ok_bind, R.exc_bind, R.bad_bind, R.pure_eq, List.length_cons, List.length_nil, List.map_cons, List.map_nil, List.cons_append, List.nil_append, List.replicate_succ, List.replicate_zero, List.set_cons_zero, List.set_cons_succ, Nat.reduceAdd, Nat.reduceSub, Nat.reduceEqDiff, Int.cast_ofNat_Int, Int.reduceEq, Int.reduceLT, Int.reduceLE, Int.reduceAdd, Int.reduceSub, Int.reduceMul, Int.reduceNeg, decide_true, decide_false, Bool.false_and, Bool.true_and, Bool.and_true, Bool.and_false, Bool.or_true, Bool.or_false, Bool.true_or, Bool.false_or, if_true, ite_true, ite_false, Bool.false_eq_true, reduceIte, Bool.not_true, Bool.not_false, asI_i, asB_b, asL_l, asL_t, asLst_l, dIs_int_none, dIs_int_bool, dIs_int_int, dIs_int_str, dIs_int_list, dIs_int_tuple, dIs_int_dict, dIs_bool_none, dIs_bool_bool, dIs_bool_int, dIs_bool_str, dIs_bool_list, dIs_bool_tuple, dIs_bool_dict, dIs_str_none, dIs_str_bool, dIs_str_int, dIs_str_str, dIs_str_list, dIs_str_tuple, dIs_str_dict, dIs_tuple_none, dIs_tuple_bool, dIs_tuple_int, dIs_tuple_str, dIs_tuple_list, dIs_tuple_tuple, dIs_tuple_dict, dIs_list_none, dIs_list_bool, dIs_list_int, dIs_list_str, dIs_list_list, dIs_list_tuple, dIs_list_dict, ad_i, ad_l, ad_t, ad_s, sb_i, mu_i, fd_i, md_i, pw_10_6, pw_10_9, pw_10_12, pw_10_18, pw_10_59, pw_10_60, c_lt, c_le, c_gt, c_ge, c_eq_i, c_ne_i, c_eq_b, c_ne_b, c_isN, c_inN, c_isB, c_inB, c_in, c_ni, b_len_l, b_len_t, b_len_s, b_int_i, b_int_b, b_tup_l, b_tup_t, b_lst_l, b_lst_t, b_abs, b2_max, b2_min, ix_l, ix_t, sl_l, sl_t, rv_l, rv_t, getS_z, getS_s, ne_ok, seq_n, seq_r, evSs_n, evSs_c, outR_r, outR_n, bT_n, bT_t, bTs_n, bTs_c, asS, ofO_s]
        rw [atI_map hi]
        try simp only [vE_var, vE_int, vE_bl, vE_non, vE_str, vE_cst, vE_bin, vE_cmp, vE_chain, vE_and, vE_or, vE_not, vE_neg, vE_ite, vE_isi, vE_tup, vE_lst, vE_lmul, vE_ix, vE_slice, vE_rev, vE_b1, vE_b2, vE_dm, vE_call, vE_call0, vE_comp, vEs_n, vEs_c, vO_n, vO_s, vC_n, vC_s, vI_1, vI_2, vI_3, vI_s, vI_z, vI_e, zR_l, zR_t, vS_asgT, vS_par, vS_app, vS_setIx, vS_aug, vS_ite, vS_whl, vS_for, vS_ret, vS_retN, vS_expr, vS_pass, aF_n, aF_r, uh_n, uh_c, ag_a, ag_s, cl_n, cl_c, List.getD_cons_zero, List.getD_cons_succ, R.ok_bind, R.exc_bind, R.bad_bind, R.pure_eq, List.length_cons, List.length_nil, List.map_cons, List.map_nil, List.cons_append, List.nil_append, List.replicate_succ, List.replicate_zero, List.set_cons_zero, List.set_cons_succ, Nat.reduceAdd, Nat.reduceSub, Nat.reduceEqDiff, Int.cast_ofNat_Int, Int.reduceEq, Int.reduceLT, Int.reduceLE, Int.reduceAdd, Int.reduceSub, Int.reduceMul, Int.reduceNeg, decide_true, decide_false, Bool.false_and, Bool.true_and, Bool.and_true, Bool.and_false, Bool.or_true, Bool.or_false, Bool.true_or, Bool.false_or, if_true, ite_true, ite_false, Bool.false_eq_true, reduceIte, Bool.not_true, Bool.not_false, asI_i, asB_b, asL_l, asL_t, asLst_l, dIs_int_none, dIs_int_bool, dIs_int_int, dIs_int_str, dIs_int_list, dIs_int_tuple, dIs_int_dict, dIs_bool_none, dIs_bool_bool, dIs_bool_int, dIs_bool_str, dIs_bool_list, dIs_bool_tuple, dIs_bool_dict, dIs_str_none, dIs_str_bool, dIs_str_int, dIs_str_str, dIs_str_list, dIs_str_tuple, dIs_str_dict, dIs_tuple_none, dIs_tuple_bool, dIs_tuple_int, dIs_tuple_str, dIs_tuple_list, dIs_tuple_tuple, dIs_tuple_dict, dIs_list_none, dIs_list_bool, dIs_list_int, dIs_list_str, dIs_list_list, dIs_list_tuple, dIs_list_dict, ad_i, ad_l, ad_t, ad_s, sb_i, mu_i, fd_i, md_i, pw_10_6, pw_10_9, pw_10_12, pw_10_18, pw_10_59, pw_10_60, c_lt, c_le, c_gt, c_ge, c_eq_i, c_ne_i, c_eq_b, c_ne_b, c_isN, c_inN, c_isB, c_inB, c_in, c_ni, b_len_l, b_len_t, b_len_s, b_int_i, b_int_b, b_tup_l, b_tup_t, b_lst_l, b_lst_t, b_abs, b2_max, b2_min, ix_l, ix_t, sl_l, sl_t, rv_l, rv_t, getS_z, getS_s, ne_ok, seq_n, seq_r, evSs_n, evSs_c, outR_r, outR_n, bT_n, bT_t, bTs_n, bTs_c, asS, ofO_s]
        rw [if_pos (log_ok hwi)]
        bv_omega
        refine ⟨_, rfl, left / ws[i], vs ++ [left % ws[i]], some (.int (i : Int)), ?_, ?_, ?_⟩
        · rw [List.map_append]; rfl
        · rw [List.length_append, hv]; rfl
        · rw [htk]
          exact hI.snoc ⟨Int.emod_nonneg _ (by omega), Int.emod_lt_of_pos _ hwi.1⟩
      · simp only [hc, decide_false]
        bv_omega
        obtain ⟨v, h1, h2⟩ := law_mixed_ok (N := N) (k := k) c (i : Int) p (by omega) hp
        rw [h1]
        bv_omega
        rw [atI_map hi]
        try simp only [vE_var, vE_int, vE_bl, vE_non, vE_str, vE_cst, vE_bin, vE_cmp, vE_chain, vE_and, vE_or, vE_not, vE_neg, vE_ite, vE_isi, vE_tup, vE_lst, vE_lmul, vE_ix, vE_slice, vE_rev, vE_b1, vE_b2, vE_dm, vE_call, vE_call0, vE_comp, vEs_n, vEs_c, vO_n, vO_s, vC_n, vC_s, vI_1, vI_2, vI_3, vI_s, vI_z, vI_e, zR_l, zR_t, vS_asgT, vS_par, vS_app, vS_setIx, vS_aug, vS_ite, vS_whl, vS_for, vS_ret, vS_retN, vS_expr, vS_pass, aF_n, aF_r, uh_n, uh_c, ag_a, ag_s, cl_n, cl_c, List.getD_cons_zero, List.getD_cons_succ, R.ok_bind, R.exc_bind, R.bad_bind, R.pure_eq, List.length_cons, List.length_nil, List.map_cons, List.map_nil, List.cons_append, List.nil_append, List.replicate_succ, List.replicate_zero, List.set_cons_zero, List.set_cons_succ, Nat.reduceAdd, Nat.reduceSub, Nat.reduceEqDiff, Int.cast_ofNat_Int, Int.reduceEq, Int.reduceLT, Int.reduceLE, Int.reduceAdd, Int.reduceSub, Int.reduceMul, Int.reduceNeg, decide_true, decide_false, Bool.false_and, Bool.true_and, Bool.and_true, Bool.and_false, Bool.or_true, Bool.or_false, Bool.true_or, Bool.false_or, if_true, ite_true, ite_false, Bool.false_eq_true, reduceIte, Bool.not_true, Bool.not_false, asI_i, asB_b, asL_l, asL_t, asLst_l, dIs_int_none, dIs_int_bool, dIs_int_int, dIs_int_str, dIs_int_list, dIs_int_tuple, dIs_int_dict, dIs_bool_none, dIs_bool_bool, dIs_bool_int, dIs_bool_str, dIs_bool_list, dIs_bool_tuple, dIs_bool_dict, dIs_str_none, dIs_str_bool, dIs_str_int, dIs_str_str, dIs_str_list, dIs_str_tuple, dIs_str_dict, dIs_tuple_none, dIs_tuple_bool, dIs_tuple_int, dIs_tuple_str, dIs_tuple_list, dIs_tuple_tuple, dIs_tuple_dict, dIs_list_none, dIs_list_bool, dIs_list_int, dIs_list_str, dIs_list_list, dIs_list_tuple, dIs_list_dict, ad_i, ad_l, ad_t, ad_s, sb_i, mu_i, fd_i, md_i, pw_10_6, pw_10_9, pw_10_12, pw_10_18, pw_10_59, pw_10_60, c_lt, c_le, c_gt, c_ge, c_eq_i, c_ne_i, c_eq_b, c_ne_b, c_isN, c_inN, c_isB, c_inB, c_in, c_ni, b_len_l, b_len_t, b_len_s, b_int_i, b_int_b, b_tup_l, b_tup_t, b_lst_l, b_lst_t, b_abs, b2_max, b2_min, ix_l, ix_t, sl_l, sl_t, rv_l, rv_t, getS_z, getS_s, ne_ok, seq_n, seq_r, evSs_n, evSs_c, outR_r, outR_n, bT_n, bT_t, bTs_n, bTs_c, asS, ofO_s]
        rw [if_pos hwi.1]
        bv_omega
        rw [sizedApp_ok hsz]
        bv_omega
        refine ⟨_, rfl, left, vs ++ [v % ws[i]], some (.int (i : Int)), ?_, ?_, ?_⟩
        · rw [List.map_append]; rfl
        · rw [List.length_append, hv]; rfl
        · rw [htk]
          exact hI.snoc ⟨Int.emod_nonneg _ (by omega), Int.emod_lt_of_pos _ hwi.1⟩)
    ⟨left, [], none, rfl, rfl, trivial⟩
  rw [List.take_length] at h4
  exact ⟨left', vs, o, by rw [h1, h2], h4⟩
theorem law_draws_ok (c : Int) (ws : List Int) (p : Int) (hw : ∀ w ∈ ws, 0 < w ∧ w < 2 ^ 64) (hl : ws.length ≤ 900) (hp : 0 < p) :
    ∃ vs, run Tb N (k + 2) 5 [.int c, .list (ws.map .int), .int p] = .ok (.list (vs.map .int)) ∧ InW vs ws := by
  rw [run_eq (fn := f_law_draws) rfl rfl]
  unfold f_law_draws
  bv_omega
  by_cases hc : 1000000000000000000 ≤ c
  · simp only [hc, decide_true, if_true]
    try simp only [vE_var, vE_int, vE_bl, vE_non, vE_str, vE_cst, vE_bin, vE_cmp, vE_chain, vE_and, vE_or, vE_not, vE_neg, vE_ite, vE_isi, vE_tup, vE_lst, vE_lmul, vE_ix, vE_slice, vE_rev, vE_b1, vE_b2, vE_dm, vE_call, vE_call0, vE_comp, vEs_n, vEs_c, vO_n, vO_s, vC_n, vC_s, vI_1, vI_2, vI_3, vI_s, vI_z, vI_e, zR_l, zR_t, vS_asgT, vS_par, vS_app, vS_setIx, vS_aug, vS_ite, vS_whl, vS_for, vS_ret, vS_retN, vS_expr, vS_pass, aF_n, aF_r, uh_n, uh_c, ag_a, ag_s, cl_n, cl_c, List.getD_cons_zero, List.getD_cons_succ, R.ok_bind, R.exc_bind, R.bad_bind, R.pure_eq, List.length_cons, List.length_nil, List.map_cons, List.map_nil, List.cons_append, List.nil_append, List.replicate_succ, List.replicate_zero, List.set_cons_zero, List.set_cons_succ, Nat.reduceAdd, Nat.reduceSub, Nat.reduceEqDiff, Int.cast_ofNat_Int, Int.reduceEq, Int.reduceLT, Int.reduceLE, Int.reduceAdd, Int.reduceSub, Int.reduceMul, Int.reduceNeg, decide_true, decide_false, Bool.false_and, Bool.true_and, Bool.and_true, Bool.and_false, Bool.or_true, Bool.or_false, Bool.true_or, Bool.false_or, if_true, ite_true, ite_false, Bool.false_eq_true, reduceIte, Bool.not_true, Bool.not_false, asI_i, asB_b, asL_l, asL_t, asLst_l, dIs_int_none, dIs_int_bool, dIs_int_int, dIs_int_str, dIs_int_list, dIs_int_tuple, dIs_int_dict, dIs_bool_none, dIs_bool_bool, dIs_bool_int, dIs_bool_str, dIs_bool_list, dIs_bool_tuple, dIs_bool_dict, dIs_str_none, dIs_str_bool, dIs_str_int, dIs_str_str, dIs_str_list, dIs_str_tuple, dIs_str_dict, dIs_tuple_none, dIs_tuple_bool, dIs_tuple_int, dIs_tuple_str, dIs_tuple_list, dIs_tuple_tuple, dIs_tuple_dict, dIs_list_none, dIs_list_bool, dIs_list_int, dIs_list_str, dIs_list_list, dIs_list_tuple, dIs_list_dict, ad_i, ad_l, ad_t, ad_s, sb_i, mu_i, fd_i, md_i, pw_10_6, pw_10_9, pw_10_12, pw_10_18, pw_10_59, pw_10_60, c_lt, c_le, c_gt, c_ge, c_eq_i, c_ne_i, c_eq_b, c_ne_b, c_isN, c_inN, c_isB, c_inB, c_in, c_ni, b_len_l, b_len_t, b_len_s, b_int_i, b_int_b, b_tup_l, b_tup_t, b_lst_l, b_lst_t, b_abs, b2_max, b2_min, ix_l, ix_t, sl_l, sl_t, rv_l, rv_t, getS_z, getS_s, ne_ok, seq_n, seq_r, evSs_n, evSs_c, outR_r, outR_n, bT_n, bT_t, bTs_n, bTs_c, asS, ints_len]
    rw [sized_ok (by decide)]
    try simp only [vE_var, vE_int, vE_bl, vE_non, vE_str, vE_cst, vE_bin, vE_cmp, vE_chain, vE_and, vE_or, vE_not, vE_neg, vE_ite, vE_isi, vE_tup, vE_lst, vE_lmul, vE_ix, vE_slice, vE_rev, vE_b1, vE_b2, vE_dm, vE_call, vE_call0, vE_comp, vEs_n, vEs_c, vO_n, vO_s, vC_n, vC_s, vI_1, vI_2, vI_3, vI_s, vI_z, vI_e, zR_l, zR_t, vS_asgT, vS_par, vS_app, vS_setIx, vS_aug, vS_ite, vS_whl, vS_for, vS_ret, vS_retN, vS_expr, vS_pass, aF_n, aF_r, uh_n, uh_c, ag_a, ag_s, cl_n, cl_c, List.getD_cons_zero, List.getD_cons_succ, R.ok_bind, R.exc_bind, R.bad_bind, R.pure_eq, List.length_cons, List.length_nil, List.map_cons, List.map_nil, List.cons_append, List.nil_append, List.replicate_succ, List.replicate_zero, List.set_cons_zero, List.set_cons_succ, Nat.reduceAdd, Nat.reduceSub, Nat.reduceEqDiff, Int.cast_ofNat_Int, Int.reduceEq, Int.reduceLT, Int.reduceLE, Int.reduceAdd, Int.reduceSub, Int.reduceMul, Int.reduceNeg, decide_true, decide_false, Bool.false_and, Bool.true_and, Bool.and_true, Bool.and_false, Bool.or_true, Bool.or_false, Bool.true_or, Bool.false_or, if_true, ite_true, ite_false, Bool.false_eq_true, reduceIte, Bool.not_true, Bool.not_false, asI_i, asB_b, asL_l, asL_t, asLst_l, dIs_int_none, dIs_int_bool, dIs_int_int, dIs_int_str, dIs_int_list, dIs_int_tuple, dIs_int_dict, dIs_bool_none, dIs_bool_bool, dIs_bool_int, dIs_bool_str, dIs_bool_list, dIs_bool_tuple, dIs_bool_dict, dIs_str_none, dIs_str_bool, dIs_str_int, dIs_str_str, dIs_str_list, dIs_str_tuple, dIs_str_dict, dIs_tuple_none, dIs_tuple_bool, dIs_tuple_int, dIs_tuple_str, dIs_tuple_list, dIs_tuple_tuple, dIs_tuple_dict, dIs_list_none, dIs_list_bool, dIs_list_int, dIs_list_str, dIs_list_list, dIs_list_tuple, dIs_list_dict, ad_i, ad_l, ad_t, ad_s, sb_i, mu_i, fd_i, md_i, pw_10_6, pw_10_9, pw_10_12, pw_10_18, pw_10_59, pw_10_60, c_lt, c_le, c_gt, c_ge, c_eq_i, c_ne_i, c_eq_b, c_ne_b, c_isN, c_inN, c_isB, c_inB, c_in, c_ni, b_len_l, b_len_t, b_len_s, b_int_i, b_int_b, b_tup_l, b_tup_t, b_lst_l, b_lst_t, b_abs, b2_max, b2_min, ix_l, ix_t, sl_l, sl_t, rv_l, rv_t, getS_z, getS_s, ne_ok, seq_n, seq_r, evSs_n, evSs_c, outR_r, outR_n, bT_n, bT_t, bTs_n, bTs_c, asS, ints_len]
    rw [small62_of (by omega)]
    bv_omega
    obtain ⟨left', vs, o, h1, h3⟩ := law_draws_loop (N := N) (k := k) c ws p hw hl hp (c - 1000000000000000000)
    rw [Int.toNat_natCast, h1]
    bv_omega
    exact ⟨vs, rfl, h3⟩
  · simp only [hc, decide_false]
    try simp only [vE_var, vE_int, vE_bl, vE_non, vE_str, vE_cst, vE_bin, vE_cmp, vE_chain, vE_and, vE_or, vE_not, vE_neg, vE_ite, vE_isi, vE_tup, vE_lst, vE_lmul, vE_ix, vE_slice, vE_rev, vE_b1, vE_b2, vE_dm, vE_call, vE_call0, vE_comp, vEs_n, vEs_c, vO_n, vO_s, vC_n, vC_s, vI_1, vI_2, vI_3, vI_s, vI_z, vI_e, zR_l, zR_t, vS_asgT, vS_par, vS_app, vS_setIx, vS_aug, vS_ite, vS_whl, vS_for, vS_ret, vS_retN, vS_expr, vS_pass, aF_n, aF_r, uh_n, uh_c, ag_a, ag_s, cl_n, cl_c, List.getD_cons_zero, List.getD_cons_succ, R.ok_bind, R.exc_bind, R.bad_bind, R.pure_eq, List.length_cons, List.length_nil, List.map_cons, List.map_nil, List.cons_append, List.nil_append, List.replicate_succ, List.replicate_zero, List.set_cons_zero, List.set_cons_succ, Nat.reduceAdd, Nat.reduceSub, Nat.reduceEqDiff, Int.cast_ofNat_Int, Int.reduceEq, Int.reduceLT, Int.reduceLE, Int.reduceAdd, Int.reduceSub, Int.reduceMul, Int.reduceNeg, decide_true, decide_false, Bool.false_and, Bool.true_and, Bool.and_true, Bool.and_false, Bool.or_true, Bool.or_false, Bool.true_or, Bool.false_or, if_true, ite_true, ite_false, Bool.false_eq_true, reduceIte, Bool.not_true, Bool.not_false, asI_i, asB_b, asL_l, asL_t, asLst_l, dIs_int_none, dIs_int_bool, dIs_int_int, dIs_int_str, dIs_int_list, dIs_int_tuple, dIs_int_dict, dIs_bool_none, dIs_bool_bool, dIs_bool_int, dIs_bool_str, dIs_bool_list, dIs_bool_tuple, dIs_bool_dict, dIs_str_none, dIs_str_bool, dIs_str_int, dIs_str_str, dIs_str_list, dIs_str_tuple, dIs_str_dict, dIs_tuple_none, dIs_tuple_bool, dIs_tuple_int, dIs_tuple_str, dIs_tuple_list, dIs_tuple_tuple, dIs_tuple_dict, dIs_list_none, dIs_list_bool, dIs_list_int, dIs_list_str, dIs_list_list, dIs_list_tuple, dIs_list_dict, ad_i, ad_l, ad_t, ad_s, sb_i, mu_i, fd_i, md_i, pw_10_6, pw_10_9, pw_10_12, pw_10_18, pw_10_59, pw_10_60, c_lt, c_le, c_gt, c_ge, c_eq_i, c_ne_i, c_eq_b, c_ne_b, c_isN, c_inN, c_isB, c_inB, c_in, c_ni, b_len_l, b_len_t, b_len_s, b_int_i, b_int_b, b_tup_l, b_tup_t, b_lst_l, b_lst_t, b_abs, b2_max, b2_min, ix_l, ix_t, sl_l, sl_t, rv_l, rv_t, getS_z, getS_s, ne_ok, seq_n, seq_r, evSs_n, evSs_c, outR_r, outR_n, bT_n, bT_t, bTs_n, bTs_c, asS, ints_len]
    rw [sized_ok (by decide)]
    try simp only [vE_var, vE_int, vE_bl, vE_non, vE_str, vE_cst, vE_bin, vE_cmp, vE_chain, vE_and, vE_or, vE_not, vE_neg, vE_ite, vE_isi, vE_tup, vE_lst, vE_lmul, vE_ix, vE_slice, vE_rev, vE_b1, vE_b2, vE_dm, vE_call, vE_call0, vE_comp, vEs_n, vEs_c, vO_n, vO_s, vC_n, vC_s, vI_1, vI_2, vI_3, vI_s, vI_z, vI_e, zR_l, zR_t, vS_asgT, vS_par, vS_app, vS_setIx, vS_aug, vS_ite, vS_whl, vS_for, vS_ret, vS_retN, vS_expr, vS_pass, aF_n, aF_r, uh_n, uh_c, ag_a, ag_s, cl_n, cl_c, List.getD_cons_zero, List.getD_cons_succ, R.ok_bind, R.exc_bind, R.bad_bind, R.pure_eq, List.length_cons, List.length_nil, List.map_cons, List.map_nil, List.cons_append, List.nil_append, List.replicate_succ, List.replicate_zero, List.set_cons_zero, List.set_cons_succ, Nat.reduceAdd, Nat.reduceSub, Nat.reduceEqDiff, Int.cast_ofNat_Int, Int.reduceEq, Int.reduceLT, Int.reduceLE, Int.reduceAdd, Int.reduceSub, Int.reduceMul, Int.reduceNeg, decide_true, decide_false, Bool.false_and, Bool.true_and, Bool.and_true, Bool.and_false, Bool.or_true, Bool.or_false, Bool.true_or, Bool.false_or, if_true, ite_true, ite_false, Bool.false_eq_true, reduceIte, Bool.not_true, Bool.not_false, asI_i, asB_b, asL_l, asL_t, asLst_l, dIs_int_none, dIs_int_bool, dIs_int_int, dIs_int_str, dIs_int_list, dIs_int_tuple, dIs_int_dict, dIs_bool_none, dIs_bool_bool, dIs_bool_int, dIs_bool_str, dIs_bool_list, dIs_bool_tuple, dIs_bool_dict, dIs_str_none, dIs_str_bool, dIs_str_int, dIs_str_str, dIs_str_list, dIs_str_tuple, dIs_str_dict, dIs_tuple_none, dIs_tuple_bool, dIs_tuple_int, dIs_tuple_str, dIs_tuple_list, dIs_tuple_tuple, dIs_tuple_dict, dIs_list_none, dIs_list_bool, dIs_list_int, dIs_list_str, dIs_list_list, dIs_list_tuple, dIs_list_dict, ad_i, ad_l, ad_t, ad_s, sb_i, mu_i, fd_i, md_i, pw_10_6, pw_10_9, pw_10_12, pw_10_18, pw_10_59, pw_10_60, c_lt, c_le, c_gt, c_ge, c_eq_i, c_ne_i, c_eq_b, c_ne_b, c_isN, c_inN, c_isB, c_inB, c_in, c_ni, b_len_l, b_len_t, b_len_s, b_int_i, b_int_b, b_tup_l, b_tup_t, b_lst_l, b_lst_t, b_abs, b2_max, b2_min, ix_l, ix_t, sl_l, sl_t, rv_l, rv_t, getS_z, getS_s, ne_ok, seq_n, seq_r, evSs_n, evSs_c, outR_r, outR_n, bT_n, bT_t, bTs_n, bTs_c, asS, ints_len]
    rw [small62_of (by omega)]
    bv_omega
    obtain ⟨left', vs, o, h1, h3⟩ := law_draws_loop (N := N) (k := k) c ws p hw hl hp 0
    rw [Int.toNat_natCast, h1]
    bv_omega
    exact ⟨vs, rfl, h3⟩
end Ev
set_option Elab.async false
set_option linter.all false
set_option maxRecDepth 100000
namespace Ev
open PySem
local macro_rules | `(tactic| bv_omega) => `(tactic| try simp only [vE_var, vE_int, vE_bl, vE_non, vE_str, vE_cst, vE_bin, vE_cmp, vE_chain, vE_and, vE_or, vE_not, vE_neg, vE_ite, vE_isi, vE_tup, vE_lst, vE_lmul, vE_ix, vE_slice, vE_rev, vE_b1, vE_b2, vE_dm, vE_call, vE_call0, vE_comp, vEs_n, vEs_c, vO_n, vO_s, vC_n, vC_s, vI_1, vI_2, vI_3, vI_s, vI_z, vI_e, zR_l, zR_t, vS_asgT, vS_par, vS_app, vS_setIx, vS_aug, vS_ite, vS_whl, vS_for, vS_ret, vS_retN, vS_expr, vS_pass, aF_n, aF_r, uh_n, uh_c, ag_a, ag_s, cl_n, cl_c, List.getD_cons_zero, List.getD_cons_succ, R.ok_bind, R.exc_bind, R.bad_bind, R.pure_eq, List.length_cons, List.length_nil, List.map_cons, List.map_nil, List.cons_append, List.nil_append, List.replicate_succ, List.replicate_zero, List.set_cons_zero, List.set_cons_succ, Nat.reduceAdd, Nat.reduceSub, Nat.reduceEqDiff, Int.cast_ofNat_Int, Int.reduceEq, Int.reduceLT, Int.reduceLE, Int.reduceAdd, Int.reduceSub, Int.reduceMul, Int.reduceNeg, decide_true, decide_false, Bool.false_and, Bool.true_and, Bool.and_true, Bool.and_false, Bool.or_true, Bool.or_false, Bool.true_or, Bool.false_or, if_true, ite_true, ite_false, Bool.false_eq_true, reduceIte, Bool.not_true, Bool.not_false, asI_i, asB_b, asL_l, asL_t, asLst_l, dIs_int_none, dIs_int_bool, dIs_int_int, dIs_int_str, dIs_int_list, dIs_int_tuple, dIs_int_dict, dIs_bool_none, dIs_bool_bool, dIs_bool_int, dIs_bool_str, dIs_bool_list, dIs_bool_tuple, dIs_bool_dict, dIs_str_none, dIs_str_bool, dIs_str_int, dIs_str_str, dIs_str_list, dIs_str_tuple, dIs_str_dict, dIs_tuple_none, dIs_tuple_bool, dIs_tuple_int, dIs_tuple_str, dIs_tuple_list, dIs_tuple_tuple, dIs_tuple_dict, dIs_list_none, dIs_list_bool, dIs_list_int, dIs_list_str, dIs_list_list, dIs_list_tuple, dIs_list_dict, ad_i, ad_l, ad_t, ad_s, sb_i, mu_i, fd_i, md_i, pw_10_6, pw_10_9, pw_10_12, pw_10_18, pw_10_59, pw_10_60, c_lt, c_le, c_gt, c_ge, c_eq_i, c_ne_i, c_eq_b, c_ne_b, c_isN, c_inN, c_isB, c_inB, c_in, c_ni, b_len_l, b_len_t, b_len_s, b_int_i, b_int_b, b_tup_l, b_tup_t, b_lst_l, b_lst_t, b_abs, b2_max, b2_min, ix_l, ix_t, sl_l, sl_t, rv_l, rv_t, getS_z, getS_s, ne_ok, seq_n, seq_r, evSs_n, evSs_c, outR_r, outR_n, bT_n, bT_t, bTs_n, bTs_c, asS])
variable {N k : Nat}
/-! ### bits -/
def bitsD (bs : List Bool) : D := .list (bs.map .bool)
theorem bl_len (bs : List Bool) : (bs.map PyData.bool).length = bs.length := List.length_map ..
theorem rep_one (n : Nat) (x : Int) : repL n [PyData.int x] = (List.replicate n x).map .int := by
  unfold repL
  induction n with
  | zero => rfl
  | succ n ih => rw [List.replicate_succ, List.flatten_cons, ih, List.replicate_succ]; rfl
theorem rep_oneB (n : Nat) (x : Bool) : repL n [PyData.bool x] = (List.replicate n x).map .bool := by
  unfold repL
  induction n with
  | zero => rfl
  | succ n ih => rw [List.replicate_succ, List.flatten_cons, ih, List.replicate_succ]; rfl
theorem lmulK_ok {ds : List D} {m : Int} (h1 : ds.length = 1) (h2 : 0 ≤ m ∧ m ≤ 1000000) : lmulK ds (.ok (.int m)) = .ok (.list (repL m.toNat ds)) := by
  unfold lmulK
  rw [if_pos (lt_size (by omega)), R.ok_bind, asI_i, R.ok_bind, if_pos ⟨small63_ok (by omega), lt_size (by rw [h1]; omega)⟩]
/-- as many truths as asked -/
theorem law_bits_ok (c m p : Int) (hm : 0 ≤ m ∧ m ≤ 900000) (hp : 0 < p) : ∃ bs : List Bool, run Tb N (k + 3) 10 [.int c, .int m, .int p] = .ok (bitsD bs) ∧ (bs.length : Int) = m := by
  rw [run_eq (fn := f_law_bits) rfl rfl]
  unfold f_law_bits
  bv_omega
  by_cases h : m < 73
  · simp only [h, decide_true, if_true]
    bv_omega
    rw [lmulK_ok rfl (by omega)]
    bv_omega
    rw [rep_one]
    obtain ⟨vs, h1, h2⟩ := law_draws_ok (N := N) (k := k) c (List.replicate m.toNat 2) p (fun w hw => by rw [List.eq_of_mem_replicate hw]; omega) (by rw [List.length_replicate]; omega) hp
    rw [h1]
    bv_omega
    have hl := h2.len
    rw [List.length_replicate] at hl
    rw [compL_map (g := fun d => .bool (match d with | .int i => decide (i = 1) | _ => false))]
    · bv_omega
      rw [sized_ok (lt_size (by rw [List.length_map, List.length_map]; omega))]
      bv_omega
      refine ⟨vs.map fun i => decide (i = 1), ?_, by rw [List.length_map]; omega⟩
      unfold bitsD
      rw [List.map_map, List.map_map]
      rfl
    · intro d hd
      obtain ⟨i, _, rfl⟩ := List.mem_map.mp hd
      rw [turnC_eq]
      bv_omega
  · simp only [h, decide_false]
    bv_omega
    rw [sized_ok (by decide)]
    bv_omega
    obtain ⟨vs, h1, h2⟩ := law_draws_ok (N := N) (k := k) c [96, 97, 96] p (by decide) (by decide) hp
    have h1' : run Tb N (k + 2) 5 [.int c, .list [.int 96, .int 97, .int 96], .int p] = .ok (.list (vs.map .int)) := h1
    rw [h1']
    match vs, h2 with
    | [a, b, e], h2 =>
      obtain ⟨⟨a1, a2⟩, ⟨b1, b2⟩, ⟨e1, e2⟩, _⟩ := h2
      bv_omega
      rw [small62_of (by omega)]
      bv_omega
      rw [compL_map (g := fun d => .bool (match d with | .int x => decide ((x * (1 + a) + b) % 97 ≤ e) | _ => false))]
      · bv_omega
        rw [sized_ok (lt_size (by rw [List.length_map, rng_length]; omega))]
        bv_omega
        refine ⟨(List.range m.toNat).map fun (x : Nat) => decide (((0 + (x : Int) * 1) * (1 + a) + b) % 97 ≤ e), ?_, by rw [List.length_map, List.length_range]; omega⟩
        unfold bitsD rng
        rw [List.map_map, List.map_map]
        rfl
      · intro d hd
        obtain ⟨i, hi⟩ := List.getElem?_of_mem hd
        obtain ⟨h3, rfl⟩ := rng_at hi
        rw [turnC_eq]
        try simp only [vE_var, vE_int, vE_bl, vE_non, vE_str, vE_cst, vE_bin, vE_cmp, vE_chain, vE_and, vE_or, vE_not, vE_neg, vE_ite, vE_isi, vE_tup, vE_lst, vE_lmul, vE_ix, vE_slice, vE_rev, vE_b1, vE_b2, vE_dm, vE_call, vE_call0, vE_comp, vEs_n, vEs_c, vO_n, vO_s, vC_n, vC_s, vI_1, vI_2, vI_3, vI_s, vI_z, vI_e, zR_l, zR_t, vS_asgT, vS_par, vS_app, vS_setIx, vS_aug, vS_ite, vS_whl, vS_for, vS_ret, vS_retN, vS_expr, vS_pass, aF_n, aF_r, uh_n, uh_c, ag_a, ag_s, cl_n, cl_c, List.getD_cons_zero, List.getD_cons_succ, R.ok_bind, R.exc_bind, R.bad_bind, R.pure_eq, List.length_cons, List.length_nil, List.map_cons, List.map_nil, List.cons_append, List.nil_append, List.replicate_succ, List.replicate_zero, List.set_cons_zero, List.set_cons_succ, Nat.reduceAdd, Nat.reduceSub, Nat.reduceEqDiff, Int.cast_ofNat_Int, Int.reduceEq, Int.reduceLT, Int.reduceLE, Int.reduceAdd, Int.reduceSub, Int.reduceMul, Int.reduceNeg, decide_true, decide_false, Bool.false_and, Bool.true_and, Bool.and_true, Bool.and_false, Bool.or_true, Bool.or_false, Bool.true_or, Bool.false_or, if_true, ite_true, ite_false, Bool.false_eq_true, reduceIte, Bool.not_true, Bool.not_false, asI_i, asB_b, asL_l, asL_t, asLst_l, dIs_int_none, dIs_int_bool, dIs_int_int, dIs_int_str, dIs_int_list, dIs_int_tuple, dIs_int_dict, dIs_bool_none, dIs_bool_bool, dIs_bool_int, dIs_bool_str, dIs_bool_list, dIs_bool_tuple, dIs_bool_dict, dIs_str_none, dIs_str_bool, dIs_str_int, dIs_str_str, dIs_str_list, dIs_str_tuple, dIs_str_dict, dIs_tuple_none, dIs_tuple_bool, dIs_tuple_int, dIs_tuple_str, dIs_tuple_list, dIs_tuple_tuple, dIs_tuple_dict, dIs_list_none, dIs_list_bool, dIs_list_int, dIs_list_str, dIs_list_list, dIs_list_tuple, dIs_list_dict, ad_i, ad_l, ad_t, ad_s, sb_i, mu_i, fd_i, md_i, pw_10_6, pw_10_9, pw_10_12, pw_10_18, pw_10_59, pw_10_60, c_lt, c_le, c_gt, c_ge, c_eq_i, c_ne_i, c_eq_b, c_ne_b, c_isN, c_inN, c_isB, c_inB, c_in, c_ni, b_len_l, b_len_t, b_len_s, b_int_i, b_int_b, b_tup_l, b_tup_t, b_lst_l, b_lst_t, b_abs, b2_max, b2_min, ix_l, ix_t, sl_l, sl_t, rv_l, rv_t, getS_z, getS_s, ne_ok, seq_n, seq_r, evSs_n, evSs_c, outR_r, outR_n, bT_n, bT_t, bTs_n, bTs_c, asS, at0, at1, at2, ofO_s]
        rw [mulOk_r (by omega)]
        try simp only [vE_var, vE_int, vE_bl, vE_non, vE_str, vE_cst, vE_bin, vE_cmp, vE_chain, vE_and, vE_or, vE_not, vE_neg, vE_ite, vE_isi, vE_tup, vE_lst, vE_lmul, vE_ix, vE_slice, vE_rev, vE_b1, vE_b2, vE_dm, vE_call, vE_call0, vE_comp, vEs_n, vEs_c, vO_n, vO_s, vC_n, vC_s, vI_1, vI_2, vI_3, vI_s, vI_z, vI_e, zR_l, zR_t, vS_asgT, vS_par, vS_app, vS_setIx, vS_aug, vS_ite, vS_whl, vS_for, vS_ret, vS_retN, vS_expr, vS_pass, aF_n, aF_r, uh_n, uh_c, ag_a, ag_s, cl_n, cl_c, List.getD_cons_zero, List.getD_cons_succ, R.ok_bind, R.exc_bind, R.bad_bind, R.pure_eq, List.length_cons, List.length_nil, List.map_cons, List.map_nil, List.cons_append, List.nil_append, List.replicate_succ, List.replicate_zero, List.set_cons_zero, List.set_cons_succ, Nat.reduceAdd, Nat.reduceSub, Nat.reduceEqDiff, Int.cast_ofNat_Int, Int.reduceEq, Int.reduceLT, Int.reduceLE, Int.reduceAdd, Int.reduceSub, Int.reduceMul, Int.reduceNeg, decide_true, decide_false, Bool.false_and, Bool.true_and, Bool.and_true, Bool.and_false, Bool.or_true, Bool.or_false, Bool.true_or, Bool.false_or, if_true, ite_true, ite_false, Bool.false_eq_true, reduceIte, Bool.not_true, Bool.not_false, asI_i, asB_b, asL_l, asL_t, asLst_l, dIs_int_none, dIs_int_bool, dIs_int_int, dIs_int_str, dIs_int_list, dIs_int_tuple, dIs_int_dict, dIs_bool_none, dIs_bool_bool, dIs_bool_int, dIs_bool_str, dIs_bool_list, dIs_bool_tuple, dIs_bool_dict, dIs_str_none, dIs_str_bool, dIs_str_int, dIs_str_str, dIs_str_list, dIs_str_tuple, dIs_str_dict, dIs_tuple_none, dIs_tuple_bool, dIs_tuple_int, dIs_tuple_str, dIs_tuple_list, dIs_tuple_tuple, dIs_tuple_dict, dIs_list_none, dIs_list_bool, dIs_list_int, dIs_list_str, dIs_list_list, dIs_list_tuple, dIs_list_dict, ad_i, ad_l, ad_t, ad_s, sb_i, mu_i, fd_i, md_i, pw_10_6, pw_10_9, pw_10_12, pw_10_18, pw_10_59, pw_10_60, c_lt, c_le, c_gt, c_ge, c_eq_i, c_ne_i, c_eq_b, c_ne_b, c_isN, c_inN, c_isB, c_inB, c_in, c_ni, b_len_l, b_len_t, b_len_s, b_int_i, b_int_b, b_tup_l, b_tup_t, b_lst_l, b_lst_t, b_abs, b2_max, b2_min, ix_l, ix_t, sl_l, sl_t, rv_l, rv_t, getS_z, getS_s, ne_ok, seq_n, seq_r, evSs_n, evSs_c, outR_r, outR_n, bT_n, bT_t, bTs_n, bTs_c, asS, at0, at1, at2, ofO_s]
    | [], h2 => exact h2.elim
    | [_], h2 => exact h2.2.elim
    | [_, _], h2 => exact h2.2.2.elim
    | _ :: _ :: _ :: _ :: _, h2 => exact h2.2.2.2.elim
/-! ### a stair of bits -/
/-- the places from lo on at which a bit is set -/
def onBits (lo : Nat) : List Bool → List Int
  | [] => []
  | b :: r => if b then (lo : Int) :: onBits (lo + 1) r else onBits (lo + 1) r
theorem onBits_in : ∀ (bs : List Bool) (lo : Nat) (x : Int), x ∈ onBits lo bs → (lo : Int) ≤ x ∧ x < lo + bs.length
  | [], _, _, h => nomatch h
  | b :: r, lo, x, h => by
    have tail : x ∈ onBits (lo + 1) r → (lo : Int) ≤ x ∧ x < lo + (b :: r).length := fun h => by
      have := onBits_in r (lo + 1) x h
      rw [List.length_cons]
      omega
    cases b with
    | false => exact tail h
    | true =>
      rcases List.mem_cons.mp h with rfl | h
      · rw [List.length_cons]; omega
      · exact tail h
theorem onBits_adj : ∀ (bs : List Bool) (lo : Nat), adj (onBits lo bs) = true
  | [], _ => rfl
  | false :: r, lo => onBits_adj r (lo + 1)
  | true :: r, lo => adj_cons (onBits_adj r (lo + 1)) fun z hz => by have := onBits_in r (lo + 1) z hz; omega
theorem onBits_len : ∀ (bs : List Bool) (lo : Nat), (onBits lo bs).length ≤ bs.length
  | [], _ => Nat.le_refl _
  | false :: r, lo => Nat.le_succ_of_le (onBits_len r (lo + 1))
  | true :: r, lo => Nat.succ_le_succ (onBits_len r (lo + 1))
theorem onBits_rises (bs : List Bool) (lo : Nat) (l hi : Int) (h1 : l ≤ lo) (h2 : lo + bs.length ≤ hi) : risesI (l - 1) hi (onBits lo bs) = true := by
  rw [rises_iff]
  exact ⟨fun x hx => by have := onBits_in bs lo x hx; omega, onBits_adj bs lo⟩
theorem rng_succ (lo : Int) (n : Nat) : rng lo (n + 1) 1 = .int lo :: rng (lo + 1) n 1 := by
  unfold rng
  rw [List.range_succ_eq_map, List.map_cons, List.map_map]
  congr 1
  · simp
  · refine List.map_congr_left fun i _ => ?_
    show PyData.int (lo + ((i + 1 : Nat) : Int) * 1) = _
    congr 1
    omega
/-- [x for x in range(lo, lo + n) if bits[x]] -/
theorem comp_bits (Φ : Cfg) (env : Env) (bs : List Bool) (f : D → R (Option D)) (hf : ∀ (x : Nat) (h : x < bs.length), f (.int (x : Int)) = .ok (if bs[x] then some (.int (x : Int)) else none)) :
    ∀ (n lo : Nat), lo + n ≤ bs.length → compL f (rng (lo : Int) n 1) = .ok ((onBits lo ((bs.drop lo).take n)).map .int)
  | 0, lo, _ => rfl
  | n + 1, lo, h => by
    have hlt : lo < bs.length := by omega
    have hd : (bs.drop lo).take (n + 1) = bs[lo] :: (bs.drop (lo + 1)).take n := by
      rw [List.drop_eq_getElem_cons hlt, List.take_succ_cons]
    rw [rng_succ, compL, hf lo hlt, hd]
    have e : ((lo : Int) + 1) = ((lo + 1 : Nat) : Int) := rfl
    rw [e, comp_bits Φ env bs f hf n (lo + 1) (by omega)]
    cases bs[lo] <;> rfl
theorem atI_bl {bs : List Bool} {i : Nat} (h : i < bs.length) : L2.atI (bs.map PyData.bool) (i : Int) = some (.bool bs[i]) := L2.atI_nat (by rw [List.getElem?_map, List.getElem?_eq_getElem h]; rfl)
def stairOf (bs : List Bool) (b s : Nat) : D := .tuple [.int b, .int s, .tuple ((onBits 0 (bs.take b)).map .int), .tuple ((onBits b ((bs.drop b).take s)).map .int)]
theorem law_stair_of_ok (bs : List Bool) (b s : Nat) (h : b + s ≤ bs.length) (hb : bs.length ≤ 900000) : run Tb N (k + 1) 11 [bitsD bs, .int (b : Int), .int (s : Int)] = .ok (stairOf bs b s) := by
  rw [run_eq (fn := f_law_stair_of) rfl rfl]
  unfold f_law_stair_of bitsD
  bv_omega
  rw [small62_of (by omega)]
  bv_omega
  rw [show ((b : Int)).toNat = b from rfl, show rng 0 b 1 = rng ((0 : Nat) : Int) b 1 from rfl, comp_bits ⟨run Tb N k, N⟩ [] bs _ (fun x hx => by
    rw [turnC_eq]
    bv_omega
    rw [atI_bl hx]
    try simp only [vE_var, vE_int, vE_bl, vE_non, vE_str, vE_cst, vE_bin, vE_cmp, vE_chain, vE_and, vE_or, vE_not, vE_neg, vE_ite, vE_isi, vE_tup, vE_lst, vE_lmul, vE_ix, vE_slice, vE_rev, vE_b1, vE_b2, vE_dm, vE_call, vE_call0, vE_comp, vEs_n, vEs_c, vO_n, vO_s, vC_n, vC_s, vI_1, vI_2, vI_3, vI_s, vI_z, vI_e, zR_l, zR_t, vS_asgT, vS_par, vS_app, vS_setIx, vS_aug, vS_ite, vS_whl, vS_for, vS_ret, vS_retN, vS_expr, vS_pass, aF_n, aF_r, uh_n, uh_c, ag_a, ag_s, cl_n, cl_c, List.getD_cons_zero, List.getD_cons_succ, R.ok_bind, R.exc_bind, R.bad_bind, R.pure_eq, List.length_cons, List.length_nil, List.map_cons, List.map_nil, List.cons_append, List.nil_append, List.replicate_succ, List.replicate_zero, List.set_cons_zero, List.set_cons_succ, Nat.reduceAdd, Nat.reduceSub, Nat.reduceEqDiff, Int.cast_ofNat_Int, Int.reduceEq, Int.reduceLT, Int.reduceLE, Int.reduceAdd, Int.reduceSub, Int.reduceMul, Int.reduceNeg, decide_true, decide_false, Bool.false_and, Bool.true_and, Bool.and_true, Bool.and_false, Bool.or_true, Bool.or_false, Bool.true_or, Bool.false_or, if_true, ite_true, ite_false, Bool.false_eq_true, reduceIte, Bool.not_true, Bool.not_false, asI_i, asB_b, asL_l, asL_t, asLst_l, dIs_int_none, dIs_int_bool, dIs_int_int, dIs_int_str, dIs_int_list, dIs_int_tuple, dIs_int_dict, dIs_bool_none, dIs_bool_bool, dIs_bool_int, dIs_bool_str, dIs_bool_list, dIs_bool_tuple, dIs_bool_dict, dIs_str_none, dIs_str_bool, dIs_str_int, dIs_str_str, dIs_str_list, dIs_str_tuple, dIs_str_dict, dIs_tuple_none, dIs_tuple_bool, dIs_tuple_int, dIs_tuple_str, dIs_tuple_list, dIs_tuple_tuple, dIs_tuple_dict, dIs_list_none, dIs_list_bool, dIs_list_int, dIs_list_str, dIs_list_list, dIs_list_tuple, dIs_list_dict, ad_i, ad_l, ad_t, ad_s, sb_i, mu_i, fd_i, md_i, pw_10_6, pw_10_9, pw_10_12, pw_10_18, pw_10_59, pw_10_60, c_lt, c_le, c_gt, c_ge, c_eq_i, c_ne_i, c_eq_b, c_ne_b, c_isN, c_inN, c_isB, c_inB, c_in, c_ni, b_len_l, b_len_t, b_len_s, b_int_i, b_int_b, b_tup_l, b_tup_t, b_lst_l, b_lst_t, b_abs, b2_max, b2_min, ix_l, ix_t, sl_l, sl_t, rv_l, rv_t, getS_z, getS_s, ne_ok, seq_n, seq_r, evSs_n, evSs_c, outR_r, outR_n, bT_n, bT_t, bTs_n, bTs_c, asS, ofO_s]
    cases bs[x] <;> rfl) b 0 (by omega)]
  bv_omega
  rw [sized_ok (lt_size (by rw [List.length_map]; exact Nat.le_trans (onBits_len _ _) (by rw [List.length_take]; omega)))]
  bv_omega
  rw [small62_of (by omega), small62_of (by omega)]
  bv_omega
  rw [show ((b : Int) + (s : Int) - (b : Int)).toNat = s by omega, comp_bits ⟨run Tb N k, N⟩ [] bs _ (fun x hx => by
    rw [turnC_eq]
    bv_omega
    rw [atI_bl hx]
    try simp only [vE_var, vE_int, vE_bl, vE_non, vE_str, vE_cst, vE_bin, vE_cmp, vE_chain, vE_and, vE_or, vE_not, vE_neg, vE_ite, vE_isi, vE_tup, vE_lst, vE_lmul, vE_ix, vE_slice, vE_rev, vE_b1, vE_b2, vE_dm, vE_call, vE_call0, vE_comp, vEs_n, vEs_c, vO_n, vO_s, vC_n, vC_s, vI_1, vI_2, vI_3, vI_s, vI_z, vI_e, zR_l, zR_t, vS_asgT, vS_par, vS_app, vS_setIx, vS_aug, vS_ite, vS_whl, vS_for, vS_ret, vS_retN, vS_expr, vS_pass, aF_n, aF_r, uh_n, uh_c, ag_a, ag_s, cl_n, cl_c, List.getD_cons_zero, List.getD_cons_succ, R.ok_bind, R.exc_bind, R.bad_bind, R.pure_eq, List.length_cons, List.length_nil, List.map_cons, List.map_nil, List.cons_append, List.nil_append, List.replicate_succ, List.replicate_zero, List.set_cons_zero, List.set_cons_succ, Nat.reduceAdd, Nat.reduceSub, Nat.reduceEqDiff, Int.cast_ofNat_Int, Int.reduceEq, Int.reduceLT, Int.reduceLE, Int.reduceAdd, Int.reduceSub, Int.reduceMul, Int.reduceNeg, decide_true, decide_false, Bool.false_and, Bool.true_and, Bool.and_true, Bool.and_false, Bool.or_true, Bool.or_false, Bool.true_or, Bool.false_or, if_true, ite_true, ite_false, Bool.false_eq_true, reduceIte, Bool.not_true, Bool.not_false, asI_i, asB_b, asL_l, asL_t, asLst_l, dIs_int_none, dIs_int_bool, dIs_int_int, dIs_int_str, dIs_int_list, dIs_int_tuple, dIs_int_dict, dIs_bool_none, dIs_bool_bool, dIs_bool_int, dIs_bool_str, dIs_bool_list, dIs_bool_tuple, dIs_bool_dict, dIs_str_none, dIs_str_bool, dIs_str_int, dIs_str_str, dIs_str_list, dIs_str_tuple, dIs_str_dict, dIs_tuple_none, dIs_tuple_bool, dIs_tuple_int, dIs_tuple_str, dIs_tuple_list, dIs_tuple_tuple, dIs_tuple_dict, dIs_list_none, dIs_list_bool, dIs_list_int, dIs_list_str, dIs_list_list, dIs_list_tuple, dIs_list_dict, ad_i, ad_l, ad_t, ad_s, sb_i, mu_i, fd_i, md_i, pw_10_6, pw_10_9, pw_10_12, pw_10_18, pw_10_59, pw_10_60, c_lt, c_le, c_gt, c_ge, c_eq_i, c_ne_i, c_eq_b, c_ne_b, c_isN, c_inN, c_isB, c_inB, c_in, c_ni, b_len_l, b_len_t, b_len_s, b_int_i, b_int_b, b_tup_l, b_tup_t, b_lst_l, b_lst_t, b_abs, b2_max, b2_min, ix_l, ix_t, sl_l, sl_t, rv_l, rv_t, getS_z, getS_s, ne_ok, seq_n, seq_r, evSs_n, evSs_c, outR_r, outR_n, bT_n, bT_t, bTs_n, bTs_c, asS, ofO_s]
    cases bs[x] <;> rfl) s b h]
  bv_omega
  rw [sized_ok (lt_size (by rw [List.length_map]; exact Nat.le_trans (onBits_len _ _) (by rw [List.length_take]; omega)))]
  bv_omega
  rw [mkTup_ok (lt_size (by simp))]
  rfl
end Ev
set_option Elab.async false
set_option linter.all false
set_option maxRecDepth 100000
namespace Ev
open PySem
local macro_rules | `(tactic| bv_omega) => `(tactic| try simp only [vE_var, vE_int, vE_bl, vE_non, vE_str, vE_cst, vE_bin, vE_cmp, vE_chain, vE_and, vE_or, vE_not, vE_neg, vE_ite, vE_isi, vE_tup, vE_lst, vE_lmul, vE_ix, vE_slice, vE_rev, vE_b1, vE_b2, vE_dm, vE_call, vE_call0, vE_comp, vEs_n, vEs_c, vO_n, vO_s, vC_n, vC_s, vI_1, vI_2, vI_3, vI_s, vI_z, vI_e, zR_l, zR_t, vS_asgT, vS_par, vS_app, vS_setIx, vS_aug, vS_ite, vS_whl, vS_for, vS_ret, vS_retN, vS_expr, vS_pass, aF_n, aF_r, uh_n, uh_c, ag_a, ag_s, cl_n, cl_c, List.getD_cons_zero, List.getD_cons_succ, R.ok_bind, R.exc_bind, R.bad_bind, R.pure_eq, List.length_cons, List.length_nil, List.map_cons, List.map_nil, List.cons_append, List.nil_append, List.replicate_succ, List.replicate_zero, List.set_cons_zero, List.set_cons_succ, Nat.reduceAdd, Nat.reduceSub, Nat.reduceEqDiff, Int.cast_ofNat_Int, Int.reduceEq, Int.reduceLT, Int.reduceLE, Int.reduceAdd, Int.reduceSub, Int.reduceMul, Int.reduceNeg, decide_true, decide_false, Bool.false_and, Bool.true_and, Bool.and_true, Bool.and_false, Bool.or_true, Bool.or_false, Bool.true_or, Bool.false_or, if_true, ite_true, ite_false, Bool.false_eq_true, reduceIte, Bool.not_true, Bool.not_false, asI_i, asB_b, asL_l, asL_t, asLst_l, dIs_int_none, dIs_int_bool, dIs_int_int, dIs_int_str, dIs_int_list, dIs_int_tuple, dIs_int_dict, dIs_bool_none, dIs_bool_bool, dIs_bool_int, dIs_bool_str, dIs_bool_list, dIs_bool_tuple, dIs_bool_dict, dIs_str_none, dIs_str_bool, dIs_str_int, dIs_str_str, dIs_str_list, dIs_str_tuple, dIs_str_dict, dIs_tuple_none, dIs_tuple_bool, dIs_tuple_int, dIs_tuple_str, dIs_tuple_list, dIs_tuple_tuple, dIs_tuple_dict, dIs_list_none, dIs_list_bool, dIs_list_int, dIs_list_str, dIs_list_list, dIs_list_tuple, dIs_list_dict, ad_i, ad_l, ad_t, ad_s, sb_i, mu_i, fd_i, md_i, pw_10_6, pw_10_9, pw_10_12, pw_10_18, pw_10_59, pw_10_60, c_lt, c_le, c_gt, c_ge, c_eq_i, c_ne_i, c_eq_b, c_ne_b, c_isN, c_inN, c_isB, c_inB, c_in, c_ni, b_len_l, b_len_t, b_len_s, b_int_i, b_int_b, b_tup_l, b_tup_t, b_lst_l, b_lst_t, b_abs, b2_max, b2_min, ix_l, ix_t, sl_l, sl_t, rv_l, rv_t, getS_z, getS_s, ne_ok, seq_n, seq_r, evSs_n, evSs_c, outR_r, outR_n, bT_n, bT_t, bTs_n, bTs_c, asS])
variable {N k : Nat}
theorem cut_lo {α : Type} (l : List α) (n : Nat) (h : n ≤ l.length) : cut l none (some (n : Int)) = l.take n := by
  unfold cut
  rw [HT.sIx_none, show HT.sIx l.length l.length (some (n : Int)) = min n l.length from HT.sIx_nat l.length l.length n, List.drop_zero, Nat.sub_zero, Nat.min_eq_left h]
theorem cut_hi {α : Type} (l : List α) (n : Nat) (h : n ≤ l.length) : cut l (some (n : Int)) none = l.drop n := by
  unfold cut
  rw [HT.sIx_none, show HT.sIx l.length 0 (some (n : Int)) = min n l.length from HT.sIx_nat l.length 0 n, Nat.min_eq_left h]
  exact List.take_of_length_le (by rw [List.length_drop]; omega)
/-- the environment of some_stair behind its bits -/
abbrev envSS (c p : Int) (vs : List Int) (b s : Nat) (bs : List Bool) (o6 o9 : Option D) : Env :=
  [some (.int c), some (.int p), some (.list (vs.map .int)), some (.int b), some (.int s), some (bitsD bs), o6, none, none, o9]
def ssA : S := .ite (.cmp .eq (.ix (.var 2) (.int 8)) (.int 1)) (.cons (.asg 1 5 (.lmul (.cons (.bl false) .nil) (.bin .add (.var 3) (.var 4))) []) .nil) .nil
def ssB : S := .ite (.cmp .eq (.ix (.var 2) (.int 8)) (.int 2)) (.cons (.asg 1 5 (.lmul (.cons (.bl true) .nil) (.bin .add (.var 3) (.var 4))) []) .nil) .nil
def ssC : S := .ite (.cmp .eq (.ix (.var 2) (.int 8)) (.int 3))
    (.cons (.asg 0 6 (.b1 .max (.bin .add (.lst (.cons (.int 1) .nil)) (.comp [7] (.var 7) (.name 7) (.rng2 (.int 1) (.var 4)) (.some (.cmp .eq (.bin .mod (.var 4) (.var 7)) (.int 0)))))) [])
    (.cons (.asg 1 5 (.bin .add (.slice (.var 5) .none (.some (.var 3))) (.comp [8] (.ix (.var 5) (.bin .add (.var 3) (.bin .mod (.var 8) (.var 6)))) (.name 8) (.rng1 (.var 4)) .none)) [])
    .nil)) .nil
def ssD : S := .ite (.cmp .eq (.ix (.var 2) (.int 8)) (.int 4))
    (.cons (.for_ [] (.name 9) (.rng3 (.bin .sub (.var 3) (.int 1)) (.bin .sub (.bin .fdiv (.var 3) (.int 2)) (.int 1)) (.neg (.int 1))) f_law_some_stair_b1) .nil) .nil
def ssE : S := .ite (.cmp .eq (.ix (.var 2) (.int 8)) (.int 5))
    (.cons (.asg 1 5 (.bin .add (.slice (.var 5) .none (.some (.var 3))) (.lmul (.cons (.bl false) .nil) (.var 4))) []) .nil) .nil
section
variable {c p : Int} {vs : List Int} {b s : Nat} {bs : List Bool} {o6 o9 : Option D} {Φ : Cfg}
theorem ssA_ok (h8 : 8 < vs.length) (hb : b + s ≤ 900000) (hl : bs.length = b + s) : ∃ bs', evS Φ ssA (envSS c p vs b s bs o6 o9) = .ok (.next (envSS c p vs b s bs' o6 o9)) ∧ bs'.length = b + s := by
  unfold ssA envSS
  bv_omega
  rw [show (8 : Int) = ((8 : Nat) : Int) from rfl, atI_map h8]
  try simp only [vE_var, vE_int, vE_bl, vE_non, vE_str, vE_cst, vE_bin, vE_cmp, vE_chain, vE_and, vE_or, vE_not, vE_neg, vE_ite, vE_isi, vE_tup, vE_lst, vE_lmul, vE_ix, vE_slice, vE_rev, vE_b1, vE_b2, vE_dm, vE_call, vE_call0, vE_comp, vEs_n, vEs_c, vO_n, vO_s, vC_n, vC_s, vI_1, vI_2, vI_3, vI_s, vI_z, vI_e, zR_l, zR_t, vS_asgT, vS_par, vS_app, vS_setIx, vS_aug, vS_ite, vS_whl, vS_for, vS_ret, vS_retN, vS_expr, vS_pass, aF_n, aF_r, uh_n, uh_c, ag_a, ag_s, cl_n, cl_c, List.getD_cons_zero, List.getD_cons_succ, R.ok_bind, R.exc_bind, R.bad_bind, R.pure_eq, List.length_cons, List.length_nil, List.map_cons, List.map_nil, List.cons_append, List.nil_append, List.replicate_succ, List.replicate_zero, List.set_cons_zero, List.set_cons_succ, Nat.reduceAdd, Nat.reduceSub, Nat.reduceEqDiff, Int.cast_ofNat_Int, Int.reduceEq, Int.reduceLT, Int.reduceLE, Int.reduceAdd, Int.reduceSub, Int.reduceMul, Int.reduceNeg, decide_true, decide_false, Bool.false_and, Bool.true_and, Bool.and_true, Bool.and_false, Bool.or_true, Bool.or_false, Bool.true_or, Bool.false_or, if_true, ite_true, ite_false, Bool.false_eq_true, reduceIte, Bool.not_true, Bool.not_false, asI_i, asB_b, asL_l, asL_t, asLst_l, dIs_int_none, dIs_int_bool, dIs_int_int, dIs_int_str, dIs_int_list, dIs_int_tuple, dIs_int_dict, dIs_bool_none, dIs_bool_bool, dIs_bool_int, dIs_bool_str, dIs_bool_list, dIs_bool_tuple, dIs_bool_dict, dIs_str_none, dIs_str_bool, dIs_str_int, dIs_str_str, dIs_str_list, dIs_str_tuple, dIs_str_dict, dIs_tuple_none, dIs_tuple_bool, dIs_tuple_int, dIs_tuple_str, dIs_tuple_list, dIs_tuple_tuple, dIs_tuple_dict, dIs_list_none, dIs_list_bool, dIs_list_int, dIs_list_str, dIs_list_list, dIs_list_tuple, dIs_list_dict, ad_i, ad_l, ad_t, ad_s, sb_i, mu_i, fd_i, md_i, pw_10_6, pw_10_9, pw_10_12, pw_10_18, pw_10_59, pw_10_60, c_lt, c_le, c_gt, c_ge, c_eq_i, c_ne_i, c_eq_b, c_ne_b, c_isN, c_inN, c_isB, c_inB, c_in, c_ni, b_len_l, b_len_t, b_len_s, b_int_i, b_int_b, b_tup_l, b_tup_t, b_lst_l, b_lst_t, b_abs, b2_max, b2_min, ix_l, ix_t, sl_l, sl_t, rv_l, rv_t, getS_z, getS_s, ne_ok, seq_n, seq_r, evSs_n, evSs_c, outR_r, outR_n, bT_n, bT_t, bTs_n, bTs_c, asS, ofO_s]
  by_cases h : vs[8] = 1
  · simp only [h, decide_true, if_true]
    bv_omega
    rw [lmulK_ok rfl (by omega)]
    bv_omega
    refine ⟨List.replicate ((b : Int) + (s : Int)).toNat false, ?_, by rw [List.length_replicate]; omega⟩
    unfold bitsD
    rw [rep_oneB]
  · simp only [h, decide_false]
    bv_omega
    exact ⟨bs, rfl, hl⟩
theorem ssB_ok (h8 : 8 < vs.length) (hb : b + s ≤ 900000) (hl : bs.length = b + s) : ∃ bs', evS Φ ssB (envSS c p vs b s bs o6 o9) = .ok (.next (envSS c p vs b s bs' o6 o9)) ∧ bs'.length = b + s := by
  unfold ssB envSS
  bv_omega
  rw [show (8 : Int) = ((8 : Nat) : Int) from rfl, atI_map h8]
  try simp only [vE_var, vE_int, vE_bl, vE_non, vE_str, vE_cst, vE_bin, vE_cmp, vE_chain, vE_and, vE_or, vE_not, vE_neg, vE_ite, vE_isi, vE_tup, vE_lst, vE_lmul, vE_ix, vE_slice, vE_rev, vE_b1, vE_b2, vE_dm, vE_call, vE_call0, vE_comp, vEs_n, vEs_c, vO_n, vO_s, vC_n, vC_s, vI_1, vI_2, vI_3, vI_s, vI_z, vI_e, zR_l, zR_t, vS_asgT, vS_par, vS_app, vS_setIx, vS_aug, vS_ite, vS_whl, vS_for, vS_ret, vS_retN, vS_expr, vS_pass, aF_n, aF_r, uh_n, uh_c, ag_a, ag_s, cl_n, cl_c, List.getD_cons_zero, List.getD_cons_succ, R.ok_bind, R.exc_bind, R.bad_bind, R.pure_eq, List.length_cons, List.length_nil, List.map_cons, List.map_nil, List.cons_append, List.nil_append, List.replicate_succ, List.replicate_zero, List.set_cons_zero, List.set_cons_succ, Nat.reduceAdd, Nat.reduceSub, Nat.reduceEqDiff, Int.cast_ofNat_Int, Int.reduceEq, Int.reduceLT, Int.reduceLE, Int.reduceAdd, Int.reduceSub, Int.reduceMul, Int.reduceNeg, decide_true, decide_false, Bool.false_and, Bool.true_and, Bool.and_true, Bool.and_false, Bool.or_true, Bool.or_false, Bool.true_or, Bool.false_or, if_true, ite_true, ite_false, Bool.false_eq_true, reduceIte, Bool.not_true, Bool.not_false, asI_i, asB_b, asL_l, asL_t, asLst_l, dIs_int_none, dIs_int_bool, dIs_int_int, dIs_int_str, dIs_int_list, dIs_int_tuple, dIs_int_dict, dIs_bool_none, dIs_bool_bool, dIs_bool_int, dIs_bool_str, dIs_bool_list, dIs_bool_tuple, dIs_bool_dict, dIs_str_none, dIs_str_bool, dIs_str_int, dIs_str_str, dIs_str_list, dIs_str_tuple, dIs_str_dict, dIs_tuple_none, dIs_tuple_bool, dIs_tuple_int, dIs_tuple_str, dIs_tuple_list, dIs_tuple_tuple, dIs_tuple_dict, dIs_list_none, dIs_list_bool, dIs_list_int, dIs_list_str, dIs_list_list, dIs_list_tuple, dIs_list_dict, ad_i, ad_l, ad_t, ad_s, sb_i, mu_i, fd_i, md_i, pw_10_6, pw_10_9, pw_10_12, pw_10_18, pw_10_59, pw_10_60, c_lt, c_le, c_gt, c_ge, c_eq_i, c_ne_i, c_eq_b, c_ne_b, c_isN, c_inN, c_isB, c_inB, c_in, c_ni, b_len_l, b_len_t, b_len_s, b_int_i, b_int_b, b_tup_l, b_tup_t, b_lst_l, b_lst_t, b_abs, b2_max, b2_min, ix_l, ix_t, sl_l, sl_t, rv_l, rv_t, getS_z, getS_s, ne_ok, seq_n, seq_r, evSs_n, evSs_c, outR_r, outR_n, bT_n, bT_t, bTs_n, bTs_c, asS, ofO_s]
  by_cases h : vs[8] = 2
  · simp only [h, decide_true, if_true]
    bv_omega
    rw [lmulK_ok rfl (by omega)]
    bv_omega
    refine ⟨List.replicate ((b : Int) + (s : Int)).toNat true, ?_, by rw [List.length_replicate]; omega⟩
    unfold bitsD
    rw [rep_oneB]
  · simp only [h, decide_false]
    bv_omega
    exact ⟨bs, rfl, hl⟩
theorem ssE_ok (h8 : 8 < vs.length) (hb : b + s ≤ 900000) (hl : bs.length = b + s) : ∃ bs', evS Φ ssE (envSS c p vs b s bs o6 o9) = .ok (.next (envSS c p vs b s bs' o6 o9)) ∧ bs'.length = b + s := by
  unfold ssE envSS
  bv_omega
  rw [show (8 : Int) = ((8 : Nat) : Int) from rfl, atI_map h8]
  try simp only [vE_var, vE_int, vE_bl, vE_non, vE_str, vE_cst, vE_bin, vE_cmp, vE_chain, vE_and, vE_or, vE_not, vE_neg, vE_ite, vE_isi, vE_tup, vE_lst, vE_lmul, vE_ix, vE_slice, vE_rev, vE_b1, vE_b2, vE_dm, vE_call, vE_call0, vE_comp, vEs_n, vEs_c, vO_n, vO_s, vC_n, vC_s, vI_1, vI_2, vI_3, vI_s, vI_z, vI_e, zR_l, zR_t, vS_asgT, vS_par, vS_app, vS_setIx, vS_aug, vS_ite, vS_whl, vS_for, vS_ret, vS_retN, vS_expr, vS_pass, aF_n, aF_r, uh_n, uh_c, ag_a, ag_s, cl_n, cl_c, List.getD_cons_zero, List.getD_cons_succ, R.ok_bind, R.exc_bind, R.bad_bind, R.pure_eq, List.length_cons, List.length_nil, List.map_cons, List.map_nil, List.cons_append, List.nil_append, List.replicate_succ, List.replicate_zero, List.set_cons_zero, List.set_cons_succ, Nat.reduceAdd, Nat.reduceSub, Nat.reduceEqDiff, Int.cast_ofNat_Int, Int.reduceEq, Int.reduceLT, Int.reduceLE, Int.reduceAdd, Int.reduceSub, Int.reduceMul, Int.reduceNeg, decide_true, decide_false, Bool.false_and, Bool.true_and, Bool.and_true, Bool.and_false, Bool.or_true, Bool.or_false, Bool.true_or, Bool.false_or, if_true, ite_true, ite_false, Bool.false_eq_true, reduceIte, Bool.not_true, Bool.not_false, asI_i, asB_b, asL_l, asL_t, asLst_l, dIs_int_none, dIs_int_bool, dIs_int_int, dIs_int_str, dIs_int_list, dIs_int_tuple, dIs_int_dict, dIs_bool_none, dIs_bool_bool, dIs_bool_int, dIs_bool_str, dIs_bool_list, dIs_bool_tuple, dIs_bool_dict, dIs_str_none, dIs_str_bool, dIs_str_int, dIs_str_str, dIs_str_list, dIs_str_tuple, dIs_str_dict, dIs_tuple_none, dIs_tuple_bool, dIs_tuple_int, dIs_tuple_str, dIs_tuple_list, dIs_tuple_tuple, dIs_tuple_dict, dIs_list_none, dIs_list_bool, dIs_list_int, dIs_list_str, dIs_list_list, dIs_list_tuple, dIs_list_dict, ad_i, ad_l, ad_t, ad_s, sb_i, mu_i, fd_i, md_i, pw_10_6, pw_10_9, pw_10_12, pw_10_18, pw_10_59, pw_10_60, c_lt, c_le, c_gt, c_ge, c_eq_i, c_ne_i, c_eq_b, c_ne_b, c_isN, c_inN, c_isB, c_inB, c_in, c_ni, b_len_l, b_len_t, b_len_s, b_int_i, b_int_b, b_tup_l, b_tup_t, b_lst_l, b_lst_t, b_abs, b2_max, b2_min, ix_l, ix_t, sl_l, sl_t, rv_l, rv_t, getS_z, getS_s, ne_ok, seq_n, seq_r, evSs_n, evSs_c, outR_r, outR_n, bT_n, bT_t, bTs_n, bTs_c, asS, ofO_s]
  by_cases h : vs[8] = 5
  · simp only [h, decide_true, if_true, bitsD]
    bv_omega
    rw [lmulK_ok rfl (by omega)]
    bv_omega
    rw [cut_lo _ _ (by rw [bl_len]; omega), rep_oneB, ← List.map_take]
    rw [if_pos (lt_size (by rw [bl_len, bl_len, List.length_take, List.length_replicate]; omega))]
    bv_omega
    refine ⟨bs.take b ++ List.replicate s false, ?_, by rw [List.length_append, List.length_take, List.length_replicate]; omega⟩
    rw [List.map_append]
    rfl
  · simp only [h, decide_false]
    bv_omega
    exact ⟨bs, rfl, hl⟩
/-- max([1] + ..) is one of them -/
theorem maxI_in : ∀ (ns : List Int), ns ≠ [] → maxI ns ∈ ns
  | [], h => absurd rfl h
  | [x], _ => List.mem_cons_self
  | x :: y :: r, _ => by
    have ih := maxI_in (y :: r) (by simp)
    show max x (maxI (y :: r)) ∈ _
    rw [Int.max_def]
    split
    · exact List.mem_cons_of_mem _ ih
    · exact List.mem_cons_self
theorem mapR_ints (ns : List Int) : mapR asI (ns.map .int) = .ok ns := by
  induction ns with
  | nil => rfl
  | cons n ns ih => rw [List.map_cons, mapR, ih]; rfl
theorem b_max_ints (ns : List Int) (h : ns ≠ []) : dB1 .max (.list (ns.map .int)) = .ok (.int (maxI ns)) := by
  show (mapR asI (ns.map .int) >>= fun ns => if 0 < ns.length then R.ok (PyData.int (maxI ns)) else .bad) = _
  rw [mapR_ints, R.ok_bind, if_pos]
  exact List.length_pos_iff.mpr h
theorem ssC_ok (h8 : 8 < vs.length) (hb : b + s ≤ 900000) (hs : 1 ≤ s) (hl : bs.length = b + s) : ∃ bs' o6', evS Φ ssC (envSS c p vs b s bs o6 o9) = .ok (.next (envSS c p vs b s bs' o6' o9)) ∧ bs'.length = b + s := by
  unfold ssC envSS
  bv_omega
  rw [show (8 : Int) = ((8 : Nat) : Int) from rfl, atI_map h8]
  try simp only [vE_var, vE_int, vE_bl, vE_non, vE_str, vE_cst, vE_bin, vE_cmp, vE_chain, vE_and, vE_or, vE_not, vE_neg, vE_ite, vE_isi, vE_tup, vE_lst, vE_lmul, vE_ix, vE_slice, vE_rev, vE_b1, vE_b2, vE_dm, vE_call, vE_call0, vE_comp, vEs_n, vEs_c, vO_n, vO_s, vC_n, vC_s, vI_1, vI_2, vI_3, vI_s, vI_z, vI_e, zR_l, zR_t, vS_asgT, vS_par, vS_app, vS_setIx, vS_aug, vS_ite, vS_whl, vS_for, vS_ret, vS_retN, vS_expr, vS_pass, aF_n, aF_r, uh_n, uh_c, ag_a, ag_s, cl_n, cl_c, List.getD_cons_zero, List.getD_cons_succ, R.ok_bind, R.exc_bind, R.bad_bind, R.pure_eq, List.length_cons, List.length_nil, List.map_cons, List.map_nil, List.cons_append, List.nil_append, List.replicate_succ, List.replicate_zero, List.set_cons_zero, List.set_cons_succ, Nat.reduceAdd, Nat.reduceSub, Nat.reduceEqDiff, Int.cast_ofNat_Int, Int.reduceEq, Int.reduceLT, Int.reduceLE, Int.reduceAdd, Int.reduceSub, Int.reduceMul, Int.reduceNeg, decide_true, decide_false, Bool.false_and, Bool.true_and, Bool.and_true, Bool.and_false, Bool.or_true, Bool.or_false, Bool.true_or, Bool.false_or, if_true, ite_true, ite_false, Bool.false_eq_true, reduceIte, Bool.not_true, Bool.not_false, asI_i, asB_b, asL_l, asL_t, asLst_l, dIs_int_none, dIs_int_bool, dIs_int_int, dIs_int_str, dIs_int_list, dIs_int_tuple, dIs_int_dict, dIs_bool_none, dIs_bool_bool, dIs_bool_int, dIs_bool_str, dIs_bool_list, dIs_bool_tuple, dIs_bool_dict, dIs_str_none, dIs_str_bool, dIs_str_int, dIs_str_str, dIs_str_list, dIs_str_tuple, dIs_str_dict, dIs_tuple_none, dIs_tuple_bool, dIs_tuple_int, dIs_tuple_str, dIs_tuple_list, dIs_tuple_tuple, dIs_tuple_dict, dIs_list_none, dIs_list_bool, dIs_list_int, dIs_list_str, dIs_list_list, dIs_list_tuple, dIs_list_dict, ad_i, ad_l, ad_t, ad_s, sb_i, mu_i, fd_i, md_i, pw_10_6, pw_10_9, pw_10_12, pw_10_18, pw_10_59, pw_10_60, c_lt, c_le, c_gt, c_ge, c_eq_i, c_ne_i, c_eq_b, c_ne_b, c_isN, c_inN, c_isB, c_inB, c_in, c_ni, b_len_l, b_len_t, b_len_s, b_int_i, b_int_b, b_tup_l, b_tup_t, b_lst_l, b_lst_t, b_abs, b2_max, b2_min, ix_l, ix_t, sl_l, sl_t, rv_l, rv_t, getS_z, getS_s, ne_ok, seq_n, seq_r, evSs_n, evSs_c, outR_r, outR_n, bT_n, bT_t, bTs_n, bTs_c, asS, ofO_s]
  by_cases h : vs[8] = 3
  · simp only [h, decide_true, if_true]
    bv_omega
    rw [sized_ok (lt_size (by simp))]
    bv_omega
    rw [small62_of (by omega), small62_of (by omega)]
    bv_omega
    rw [compL_filterMap (g := fun d => match d with | .int x => if (s : Int) % x = 0 then some (.int x) else none | _ => none)]
    · bv_omega
      have key : ∃ qs : List Int, (rng 1 ((s : Int) - 1).toNat 1).filterMap (fun d => match d with | .int x => if (s : Int) % x = 0 then some (PyData.int x) else none | _ => none) = qs.map .int ∧ qs.length ≤ s ∧ ∀ q ∈ qs, 1 ≤ q ∧ q < s := by
        refine ⟨((List.range ((s : Int) - 1).toNat).map fun (i : Nat) => (1 : Int) + (i : Int) * 1).filter (fun x => decide ((s : Int) % x = 0)), ?_, ?_, fun q hq => ?_⟩
        · unfold rng
          generalize List.range ((s : Int) - 1).toNat = l
          induction l with
          | nil => rfl
          | cons a l ih =>
            rw [List.map_cons, List.map_cons, List.filterMap_cons, List.filter_cons]
            by_cases hz : (s : Int) % (1 + (a : Int) * 1) = 0
            · rw [decide_eq_true hz]
              simp only [hz, if_true, List.map_cons]
              rw [ih]
            · rw [decide_eq_false hz]
              simp only [hz, if_false]
              rw [ih]
              simp
        · refine Nat.le_trans (List.length_filter_le _ _) ?_
          rw [List.length_map, List.length_range]
          omega
        · obtain ⟨hq, _⟩ := List.mem_filter.mp hq
          obtain ⟨i, hi, rfl⟩ := List.mem_map.mp hq
          have := List.mem_range.mp hi
          omega
      obtain ⟨qs, e1, e2, e3⟩ := key
      rw [e1, sized_ok (lt_size (by rw [ints_len]; omega))]
      try simp only [vE_var, vE_int, vE_bl, vE_non, vE_str, vE_cst, vE_bin, vE_cmp, vE_chain, vE_and, vE_or, vE_not, vE_neg, vE_ite, vE_isi, vE_tup, vE_lst, vE_lmul, vE_ix, vE_slice, vE_rev, vE_b1, vE_b2, vE_dm, vE_call, vE_call0, vE_comp, vEs_n, vEs_c, vO_n, vO_s, vC_n, vC_s, vI_1, vI_2, vI_3, vI_s, vI_z, vI_e, zR_l, zR_t, vS_asgT, vS_par, vS_app, vS_setIx, vS_aug, vS_ite, vS_whl, vS_for, vS_ret, vS_retN, vS_expr, vS_pass, aF_n, aF_r, uh_n, uh_c, ag_a, ag_s, cl_n, cl_c, List.getD_cons_zero, List.getD_cons_succ, R.ok_bind, R.exc_bind, R.bad_bind, R.pure_eq, List.length_cons, List.length_nil, List.map_cons, List.map_nil, List.cons_append, List.nil_append, List.replicate_succ, List.replicate_zero, List.set_cons_zero, List.set_cons_succ, Nat.reduceAdd, Nat.reduceSub, Nat.reduceEqDiff, Int.cast_ofNat_Int, Int.reduceEq, Int.reduceLT, Int.reduceLE, Int.reduceAdd, Int.reduceSub, Int.reduceMul, Int.reduceNeg, decide_true, decide_false, Bool.false_and, Bool.true_and, Bool.and_true, Bool.and_false, Bool.or_true, Bool.or_false, Bool.true_or, Bool.false_or, if_true, ite_true, ite_false, Bool.false_eq_true, reduceIte, Bool.not_true, Bool.not_false, asI_i, asB_b, asL_l, asL_t, asLst_l, dIs_int_none, dIs_int_bool, dIs_int_int, dIs_int_str, dIs_int_list, dIs_int_tuple, dIs_int_dict, dIs_bool_none, dIs_bool_bool, dIs_bool_int, dIs_bool_str, dIs_bool_list, dIs_bool_tuple, dIs_bool_dict, dIs_str_none, dIs_str_bool, dIs_str_int, dIs_str_str, dIs_str_list, dIs_str_tuple, dIs_str_dict, dIs_tuple_none, dIs_tuple_bool, dIs_tuple_int, dIs_tuple_str, dIs_tuple_list, dIs_tuple_tuple, dIs_tuple_dict, dIs_list_none, dIs_list_bool, dIs_list_int, dIs_list_str, dIs_list_list, dIs_list_tuple, dIs_list_dict, ad_i, ad_l, ad_t, ad_s, sb_i, mu_i, fd_i, md_i, pw_10_6, pw_10_9, pw_10_12, pw_10_18, pw_10_59, pw_10_60, c_lt, c_le, c_gt, c_ge, c_eq_i, c_ne_i, c_eq_b, c_ne_b, c_isN, c_inN, c_isB, c_inB, c_in, c_ni, b_len_l, b_len_t, b_len_s, b_int_i, b_int_b, b_tup_l, b_tup_t, b_lst_l, b_lst_t, b_abs, b2_max, b2_min, ix_l, ix_t, sl_l, sl_t, rv_l, rv_t, getS_z, getS_s, ne_ok, seq_n, seq_r, evSs_n, evSs_c, outR_r, outR_n, bT_n, bT_t, bTs_n, bTs_c, asS, ints_len]
      rw [if_pos (lt_size (by omega))]
      bv_omega
      rw [show PyData.int 1 :: qs.map PyData.int = ((1 : Int) :: qs).map .int from rfl, b_max_ints _ (by simp)]
      bv_omega
      have hpart : 1 ≤ maxI (1 :: qs) ∧ maxI (1 :: qs) ≤ s := by
        rcases List.mem_cons.mp (maxI_in (1 :: qs) (by simp)) with e | e
        · rw [e]; omega
        · have := e3 _ e; omega
      obtain ⟨m, hm⟩ : ∃ m, m = maxI (1 :: qs) := ⟨_, rfl⟩
      rw [← hm] at hpart ⊢
      simp only [bitsD]
      bv_omega
      rw [small62_of (by omega)]
      bv_omega
      rw [cut_lo _ _ (by rw [bl_len]; omega), ← List.map_take]
      rw [compL_map (g := fun d => .bool (match d with | .int x => (bs[b + (x % m).toNat]?).getD false | _ => false))]
      · bv_omega
        rw [sized_ok (lt_size (by rw [List.length_map, rng_length]; omega))]
        bv_omega
        rw [if_pos (lt_size (by rw [bl_len, List.length_take, List.length_map, rng_length]; omega))]
        bv_omega
        refine ⟨bs.take b ++ (List.range s).map (fun (x : Nat) => (bs[b + (((0 + (x : Int) * 1)) % m).toNat]?).getD false), some (.int m), ?_, by rw [List.length_append, List.length_take, List.length_map, List.length_range]; omega⟩
        rw [List.map_append, List.map_map]
        unfold rng
        rw [List.map_map]
        rfl
      · intro d hd
        obtain ⟨i, hi⟩ := List.getElem?_of_mem hd
        obtain ⟨h3, rfl⟩ := rng_at hi
        rw [turnC_eq]
        bv_omega
        rw [if_pos (by omega)]
        bv_omega
        have h4 : 0 ≤ (0 + (i : Int) * 1) % m ∧ (0 + (i : Int) * 1) % m < m := ⟨Int.emod_nonneg _ (by omega), Int.emod_lt_of_pos _ (by omega)⟩
        have h5 : b + ((0 + (i : Int) * 1) % m).toNat < bs.length := by omega
        have e : (b : Int) + (0 + (i : Int) * 1) % m = ((b + ((0 + (i : Int) * 1) % m).toNat : Nat) : Int) := by omega
        rw [e, atI_bl h5]
        try simp only [vE_var, vE_int, vE_bl, vE_non, vE_str, vE_cst, vE_bin, vE_cmp, vE_chain, vE_and, vE_or, vE_not, vE_neg, vE_ite, vE_isi, vE_tup, vE_lst, vE_lmul, vE_ix, vE_slice, vE_rev, vE_b1, vE_b2, vE_dm, vE_call, vE_call0, vE_comp, vEs_n, vEs_c, vO_n, vO_s, vC_n, vC_s, vI_1, vI_2, vI_3, vI_s, vI_z, vI_e, zR_l, zR_t, vS_asgT, vS_par, vS_app, vS_setIx, vS_aug, vS_ite, vS_whl, vS_for, vS_ret, vS_retN, vS_expr, vS_pass, aF_n, aF_r, uh_n, uh_c, ag_a, ag_s, cl_n, cl_c, List.getD_cons_zero, List.getD_cons_succ, R.ok_bind, R.exc_bind, R.bad_bind, R.pure_eq, List.length_cons, List.length_nil, List.map_cons, List.map_nil, List.cons_append, List.nil_append, List.replicate_succ, List.replicate_zero, List.set_cons_zero, List.set_cons_succ, Nat.reduceAdd, Nat.reduceSub, Nat.reduceEqDiff, Int.cast_ofNat_Int, Int.reduceEq, Int.reduceLT, Int.reduceLE, Int.reduceAdd, Int.reduceSub, Int.reduceMul, Int.reduceNeg, decide_true, decide_false, Bool.false_and, Bool.true_and, Bool.and_true, Bool.and_false, Bool.or_true, Bool.or_false, Bool.true_or, Bool.false_or, if_true, ite_true, ite_false, Bool.false_eq_true, reduceIte, Bool.not_true, Bool.not_false, asI_i, asB_b, asL_l, asL_t, asLst_l, dIs_int_none, dIs_int_bool, dIs_int_int, dIs_int_str, dIs_int_list, dIs_int_tuple, dIs_int_dict, dIs_bool_none, dIs_bool_bool, dIs_bool_int, dIs_bool_str, dIs_bool_list, dIs_bool_tuple, dIs_bool_dict, dIs_str_none, dIs_str_bool, dIs_str_int, dIs_str_str, dIs_str_list, dIs_str_tuple, dIs_str_dict, dIs_tuple_none, dIs_tuple_bool, dIs_tuple_int, dIs_tuple_str, dIs_tuple_list, dIs_tuple_tuple, dIs_tuple_dict, dIs_list_none, dIs_list_bool, dIs_list_int, dIs_list_str, dIs_list_list, dIs_list_tuple, dIs_list_dict, ad_i, ad_l, ad_t, ad_s, sb_i, mu_i, fd_i, md_i, pw_10_6, pw_10_9, pw_10_12, pw_10_18, pw_10_59, pw_10_60, c_lt, c_le, c_gt, c_ge, c_eq_i, c_ne_i, c_eq_b, c_ne_b, c_isN, c_inN, c_isB, c_inB, c_in, c_ni, b_len_l, b_len_t, b_len_s, b_int_i, b_int_b, b_tup_l, b_tup_t, b_lst_l, b_lst_t, b_abs, b2_max, b2_min, ix_l, ix_t, sl_l, sl_t, rv_l, rv_t, getS_z, getS_s, ne_ok, seq_n, seq_r, evSs_n, evSs_c, outR_r, outR_n, bT_n, bT_t, bTs_n, bTs_c, asS, ofO_s]
        rw [List.getElem?_eq_getElem h5]
        rfl
    · intro d hd
      obtain ⟨i, hi⟩ := List.getElem?_of_mem hd
      obtain ⟨h3, rfl⟩ := rng_at hi
      rw [turnC_eq]
      bv_omega
      rw [if_pos (by omega)]
      bv_omega
      by_cases hz : (s : Int) % (1 + (i : Int) * 1) = 0
      · simp only [hz, decide_true, if_true]
        bv_omega
      · simp only [hz, decide_false, if_false]
        bv_omega
  · simp only [h, decide_false]
    bv_omega
    exact ⟨bs, o6, rfl, hl⟩
theorem setAt_ok {l : List D} {i : Nat} (h : i < l.length) (d : D) : setAt l (i : Int) d = .ok (l.set i d) := by
  have e : L2.ixN l.length (i : Int) = some i := by
    unfold L2.ixN
    simp
    omega
  unfold setAt
  rw [e]
theorem ssD_ok (h8 : 8 < vs.length) (hb : b + s ≤ 900000) (hl : bs.length = b + s) : ∃ bs' o9', evS Φ ssD (envSS c p vs b s bs o6 o9) = .ok (.next (envSS c p vs b s bs' o6 o9')) ∧ bs'.length = b + s := by
  unfold ssD envSS
  bv_omega
  rw [show (8 : Int) = ((8 : Nat) : Int) from rfl, atI_map h8]
  try simp only [vE_var, vE_int, vE_bl, vE_non, vE_str, vE_cst, vE_bin, vE_cmp, vE_chain, vE_and, vE_or, vE_not, vE_neg, vE_ite, vE_isi, vE_tup, vE_lst, vE_lmul, vE_ix, vE_slice, vE_rev, vE_b1, vE_b2, vE_dm, vE_call, vE_call0, vE_comp, vEs_n, vEs_c, vO_n, vO_s, vC_n, vC_s, vI_1, vI_2, vI_3, vI_s, vI_z, vI_e, zR_l, zR_t, vS_asgT, vS_par, vS_app, vS_setIx, vS_aug, vS_ite, vS_whl, vS_for, vS_ret, vS_retN, vS_expr, vS_pass, aF_n, aF_r, uh_n, uh_c, ag_a, ag_s, cl_n, cl_c, List.getD_cons_zero, List.getD_cons_succ, R.ok_bind, R.exc_bind, R.bad_bind, R.pure_eq, List.length_cons, List.length_nil, List.map_cons, List.map_nil, List.cons_append, List.nil_append, List.replicate_succ, List.replicate_zero, List.set_cons_zero, List.set_cons_succ, Nat.reduceAdd, Nat.reduceSub, Nat.reduceEqDiff, Int.cast_ofNat_Int, Int.reduceEq, Int.reduceLT, Int.reduceLE, Int.reduceAdd, Int.reduceSub, Int.reduceMul, Int.reduceNeg, decide_true, decide_false, Bool.false_and, Bool.true_and, Bool.and_true, Bool.and_false, Bool.or_true, Bool.or_false, Bool.true_or, Bool.false_or, if_true, ite_true, ite_false, Bool.false_eq_true, reduceIte, Bool.not_true, Bool.not_false, asI_i, asB_b, asL_l, asL_t, asLst_l, dIs_int_none, dIs_int_bool, dIs_int_int, dIs_int_str, dIs_int_list, dIs_int_tuple, dIs_int_dict, dIs_bool_none, dIs_bool_bool, dIs_bool_int, dIs_bool_str, dIs_bool_list, dIs_bool_tuple, dIs_bool_dict, dIs_str_none, dIs_str_bool, dIs_str_int, dIs_str_str, dIs_str_list, dIs_str_tuple, dIs_str_dict, dIs_tuple_none, dIs_tuple_bool, dIs_tuple_int, dIs_tuple_str, dIs_tuple_list, dIs_tuple_tuple, dIs_tuple_dict, dIs_list_none, dIs_list_bool, dIs_list_int, dIs_list_str, dIs_list_list, dIs_list_tuple, dIs_list_dict, ad_i, ad_l, ad_t, ad_s, sb_i, mu_i, fd_i, md_i, pw_10_6, pw_10_9, pw_10_12, pw_10_18, pw_10_59, pw_10_60, c_lt, c_le, c_gt, c_ge, c_eq_i, c_ne_i, c_eq_b, c_ne_b, c_isN, c_inN, c_isB, c_inB, c_in, c_ni, b_len_l, b_len_t, b_len_s, b_int_i, b_int_b, b_tup_l, b_tup_t, b_lst_l, b_lst_t, b_abs, b2_max, b2_min, ix_l, ix_t, sl_l, sl_t, rv_l, rv_t, getS_z, getS_s, ne_ok, seq_n, seq_r, evSs_n, evSs_c, outR_r, outR_n, bT_n, bT_t, bTs_n, bTs_c, asS, ofO_s]
  by_cases h : vs[8] = 4
  · simp only [h, decide_true, if_true]
    bv_omega
    rw [if_pos (by decide)]
    bv_omega
    rw [if_pos ⟨rfl, small62_of (by omega), small62_of (by omega)⟩, stepN_dn]
    bv_omega
    obtain ⟨e', h1, bs', o, h2, h3⟩ := forL_rng (f := stepF Φ (.name 9) f_law_some_stair_b1) (lo := (b : Int) - 1) (c := -1) (n := ((b : Int) - 1 - ((b : Int) / 2 - 1)).toNat) (e := envSS c p vs b s bs o6 o9)
      (Inv := fun i e => ∃ (bs' : List Bool) (o : Option D), e = envSS c p vs b s bs' o6 o ∧ bs'.length = b + s)
      (fun i e hi ⟨bs', o, he, hv⟩ => by
        subst he
        rw [stepF_eq]
        unfold f_law_some_stair_b1 envSS bitsD
        obtain ⟨x, hx⟩ : ∃ x : Nat, (b : Int) - 1 + (i : Int) * (-1) = (x : Int) ∧ x < b := ⟨b - 1 - i, by omega⟩
        rw [hx.1]
        bv_omega
        have h4 : x + s < bs'.length := by omega
        rw [show (x : Int) + (s : Int) = ((x + s : Nat) : Int) from rfl, atI_bl h4]
        try simp only [vE_var, vE_int, vE_bl, vE_non, vE_str, vE_cst, vE_bin, vE_cmp, vE_chain, vE_and, vE_or, vE_not, vE_neg, vE_ite, vE_isi, vE_tup, vE_lst, vE_lmul, vE_ix, vE_slice, vE_rev, vE_b1, vE_b2, vE_dm, vE_call, vE_call0, vE_comp, vEs_n, vEs_c, vO_n, vO_s, vC_n, vC_s, vI_1, vI_2, vI_3, vI_s, vI_z, vI_e, zR_l, zR_t, vS_asgT, vS_par, vS_app, vS_setIx, vS_aug, vS_ite, vS_whl, vS_for, vS_ret, vS_retN, vS_expr, vS_pass, aF_n, aF_r, uh_n, uh_c, ag_a, ag_s, cl_n, cl_c, List.getD_cons_zero, List.getD_cons_succ, R.ok_bind, R.exc_bind, R.bad_bind, R.pure_eq, List.length_cons, List.length_nil, List.map_cons, List.map_nil, List.cons_append, List.nil_append, List.replicate_succ, List.replicate_zero, List.set_cons_zero, List.set_cons_succ, Nat.reduceAdd, Nat.reduceSub, Nat.reduceEqDiff, Int.cast_ofNat_Int, Int.reduceEq, Int.reduceLT, Int.reduceLE, Int.reduceAdd, Int.reduceSub, Int.reduceMul, Int.reduceNeg, decide_true, decide_false, Bool.false_and, Bool.true_and, Bool.and_true, Bool.and_false, Bool.or_true, Bool.or_false, Bool.true_or, Bool.false_or, if_true, ite_true, ite_false, Bool.false_eq_true, reduceIte, Bool.not_true, Bool.not_false, asI_i, asB_b, asL_l, asL_t, asLst_l, dIs_int_none, dIs_int_bool, dIs_int_int, dIs_int_str, dIs_int_list, dIs_int_tuple, dIs_int_dict, dIs_bool_none, dIs_bool_bool, dIs_bool_int, dIs_bool_str, dIs_bool_list, dIs_bool_tuple, dIs_bool_dict, dIs_str_none, dIs_str_bool, dIs_str_int, dIs_str_str, dIs_str_list, dIs_str_tuple, dIs_str_dict, dIs_tuple_none, dIs_tuple_bool, dIs_tuple_int, dIs_tuple_str, dIs_tuple_list, dIs_tuple_tuple, dIs_tuple_dict, dIs_list_none, dIs_list_bool, dIs_list_int, dIs_list_str, dIs_list_list, dIs_list_tuple, dIs_list_dict, ad_i, ad_l, ad_t, ad_s, sb_i, mu_i, fd_i, md_i, pw_10_6, pw_10_9, pw_10_12, pw_10_18, pw_10_59, pw_10_60, c_lt, c_le, c_gt, c_ge, c_eq_i, c_ne_i, c_eq_b, c_ne_b, c_isN, c_inN, c_isB, c_inB, c_in, c_ni, b_len_l, b_len_t, b_len_s, b_int_i, b_int_b, b_tup_l, b_tup_t, b_lst_l, b_lst_t, b_abs, b2_max, b2_min, ix_l, ix_t, sl_l, sl_t, rv_l, rv_t, getS_z, getS_s, ne_ok, seq_n, seq_r, evSs_n, evSs_c, outR_r, outR_n, bT_n, bT_t, bTs_n, bTs_c, asS, ofO_s]
        rw [setAt_ok (by rw [bl_len]; omega)]
        bv_omega
        refine ⟨_, rfl, bs'.set x bs'[x + s], some (.int (x : Int)), ?_, by rw [List.length_set]; exact hv⟩
        rw [List.map_set])
      ⟨bs, o9, rfl, hl⟩
    unfold envSS at h1 h2
    rw [h1, h2]
    bv_omega
    exact ⟨bs', o, rfl, h3⟩
  · simp only [h, decide_false]
    bv_omega
    exact ⟨bs, o9, rfl, hl⟩
end
theorem InW.get : ∀ {vs ws : List Int} {i : Nat} (h : InW vs ws) (hi : i < ws.length), ∃ v, vs[i]? = some v ∧ 0 ≤ v ∧ v < ws[i]
  | v :: vs, w :: ws, 0, h, _ => ⟨v, rfl, h.1⟩
  | [], [], _, _, hi => absurd hi (Nat.not_lt_zero _)
  | v :: vs, w :: ws, i + 1, h, hi => InW.get (vs := vs) (ws := ws) (i := i) h.2 (Nat.lt_of_succ_lt_succ hi)
theorem law_some_stair_ok (c p : Int) (hp : 0 < p) : ∃ (bs : List Bool) (b s : Nat), run Tb N (k + 4) 12 [.int c, .int p] = .ok (stairOf bs b s) ∧ bs.length = b + s ∧ 1 ≤ s ∧ s ≤ 840 ∧ b ≤ 3000 := by
  obtain ⟨vs, h1, h2⟩ := law_draws_ok (N := N) (k := k + 1) c [8, 13, 61, 3001, 8, 12, 60, 14, 6] p (by decide) (by decide) hp
  have hlen := h2.len
  have h1' : run Tb N (k + 3) 5 [.int c, .list [.int 8, .int 13, .int 61, .int 3001, .int 8, .int 12, .int 60, .int 14, .int 6], .int p] = .ok (.list (vs.map .int)) := h1
  have hbody : f_law_some_stair.body = .cons (.asg 0 2 (.call 5 (.cons (.var 0) (.cons (.lst (.cons (.int 8) (.cons (.int 13) (.cons (.int 61) (.cons (.int 3001) (.cons (.int 8) (.cons (.int 12) (.cons (.int 60) (.cons (.int 14) (.cons (.int 6) .nil)))))))))) (.cons (.var 1) .nil)))) [])
    (.cons (.asg 0 3 (.ix (.var 2) (.int 1)) [])
    (.cons (.ite (.cmp .gt (.ix (.var 2) (.int 0)) (.int 5)) (.cons (.asg 0 3 (.ix (.var 2) (.bin .add (.int 2) (.b1 .int (.cmp .eq (.ix (.var 2) (.int 0)) (.int 7))))) []) .nil) .nil)
    (.cons (.asg 0 4 (.bin .add (.int 1) (.ix (.var 2) (.int 5))) [])
    (.cons (.ite (.cmp .eq (.ix (.var 2) (.int 4)) (.int 6)) (.cons (.asg 0 4 (.bin .add (.int 1) (.ix (.var 2) (.int 6))) []) .nil) .nil)
    (.cons (.ite (.cmp .eq (.ix (.var 2) (.int 4)) (.int 7)) (.cons (.asg 0 4 (.ix (.lst (.cons (.int 840) (.cons (.int 420) (.cons (.int 280) (.cons (.int 210) (.cons (.int 168) (.cons (.int 140) (.cons (.int 120) (.cons (.int 105) (.cons (.int 84) (.cons (.int 70) (.cons (.int 60) (.cons (.int 56) (.cons (.int 42) (.cons (.int 30) .nil))))))))))))))) (.ix (.var 2) (.int 7))) []) .nil) .nil)
    (.cons (.asg 1 5 (.call 10 (.cons (.call 6 (.cons (.var 0) (.cons (.int 9211512360960) .nil))) (.cons (.bin .add (.var 3) (.var 4)) (.cons (.var 1) .nil)))) [])
    (.cons ssA (.cons ssB (.cons ssC (.cons ssD (.cons ssE (.cons (.ret 0 (.call 11 (.cons (.var 5) (.cons (.var 3) (.cons (.var 4) .nil))))) .nil)))))))))))) := rfl
  rw [run_eq (fn := f_law_some_stair) rfl rfl, hbody, show f_law_some_stair.ns - f_law_some_stair.np = 8 from rfl]
  match vs, h2 with
  | [a0, a1, a2, a3, a4, a5, a6, a7, a8], h2 =>
    obtain ⟨⟨p0, q0⟩, ⟨p1, q1⟩, ⟨p2, q2⟩, ⟨p3, q3⟩, ⟨p4, q4⟩, ⟨p5, q5⟩, ⟨p6, q6⟩, ⟨p7, q7⟩, ⟨p8, q8⟩, _⟩ := h2
    obtain ⟨vs, hvs⟩ : ∃ vs : List Int, vs = [a0, a1, a2, a3, a4, a5, a6, a7, a8] := ⟨_, rfl⟩
    rw [← hvs] at h1'
    have hl : vs.length = 9 := by rw [hvs]; rfl
    have at_ : ∀ (i : Nat) (v : Int), vs[i]? = some v → L2.atI (vs.map PyData.int) (i : Int) = some (.int v) := fun i v h => L2.atI_nat (by rw [List.getElem?_map, h]; rfl)
    have g0 := at_ 0 a0 (by rw [hvs]; rfl)
    have g1 := at_ 1 a1 (by rw [hvs]; rfl)
    have g2 := at_ 2 a2 (by rw [hvs]; rfl)
    have g3 := at_ 3 a3 (by rw [hvs]; rfl)
    have g4 := at_ 4 a4 (by rw [hvs]; rfl)
    have g5 := at_ 5 a5 (by rw [hvs]; rfl)
    have g6 := at_ 6 a6 (by rw [hvs]; rfl)
    have g7 := at_ 7 a7 (by rw [hvs]; rfl)
    simp only [Int.cast_ofNat_Int] at g0 g1 g2 g3 g4 g5 g6 g7
    -- the stair's base and step, drawn
    have fin : ∀ (b s : Nat), b ≤ 3000 → 1 ≤ s → s ≤ 840 →
        ∃ (bs : List Bool) (b' s' : Nat), outR (evSs ⟨run Tb N (k + 3), N⟩ (.cons (.asg 1 5 (.call 10 (.cons (.call 6 (.cons (.var 0) (.cons (.int 9211512360960) .nil))) (.cons (.bin .add (.var 3) (.var 4)) (.cons (.var 1) .nil)))) [])
          (.cons ssA (.cons ssB (.cons ssC (.cons ssD (.cons ssE (.cons (.ret 0 (.call 11 (.cons (.var 5) (.cons (.var 3) (.cons (.var 4) .nil))))) .nil)))))))
          [some (.int c), some (.int p), some (.list (vs.map .int)), some (.int b), some (.int s), none, none, none, none, none]) = .ok (stairOf bs b' s') ∧ bs.length = b' + s' ∧ 1 ≤ s' ∧ s' ≤ 840 ∧ b' ≤ 3000 := by
      intro b s hb hs1 hs2
      obtain ⟨v, hv⟩ := law_spare_ok (N := N) (k := k + 2) c 9211512360960 (by decide)
      obtain ⟨bs0, hb1, hb2⟩ := law_bits_ok (N := N) (k := k) v ((b : Int) + (s : Int)) p (by omega) hp
      obtain ⟨bs1, e1, l1⟩ := ssA_ok (c := c) (p := p) (vs := vs) (b := b) (s := s) (bs := bs0) (o6 := none) (o9 := none) (Φ := ⟨run Tb N (k + 3), N⟩) (by omega) (by omega) (by omega)
      obtain ⟨bs2, e2, l2⟩ := ssB_ok (c := c) (p := p) (vs := vs) (b := b) (s := s) (bs := bs1) (o6 := none) (o9 := none) (Φ := ⟨run Tb N (k + 3), N⟩) (by omega) (by omega) l1
      obtain ⟨bs3, o6, e3, l3⟩ := ssC_ok (c := c) (p := p) (vs := vs) (b := b) (s := s) (bs := bs2) (o6 := none) (o9 := none) (Φ := ⟨run Tb N (k + 3), N⟩) (by omega) (by omega) hs1 l2
      obtain ⟨bs4, o9, e4, l4⟩ := ssD_ok (c := c) (p := p) (vs := vs) (b := b) (s := s) (bs := bs3) (o6 := o6) (o9 := none) (Φ := ⟨run Tb N (k + 3), N⟩) (by omega) (by omega) l3
      obtain ⟨bs5, e5, l5⟩ := ssE_ok (c := c) (p := p) (vs := vs) (b := b) (s := s) (bs := bs4) (o6 := o6) (o9 := o9) (Φ := ⟨run Tb N (k + 3), N⟩) (by omega) (by omega) l4
      have e6 := law_stair_of_ok (N := N) (k := k + 2) bs5 b s (by omega) (by omega)
      refine ⟨bs5, b, s, ?_, l5, hs1, hs2, hb⟩
      try simp only [vE_var, vE_int, vE_bl, vE_non, vE_str, vE_cst, vE_bin, vE_cmp, vE_chain, vE_and, vE_or, vE_not, vE_neg, vE_ite, vE_isi, vE_tup, vE_lst, vE_lmul, vE_ix, vE_slice, vE_rev, vE_b1, vE_b2, vE_dm, vE_call, vE_call0, vE_comp, vEs_n, vEs_c, vO_n, vO_s, vC_n, vC_s, vI_1, vI_2, vI_3, vI_s, vI_z, vI_e, zR_l, zR_t, vS_asgT, vS_par, vS_app, vS_setIx, vS_aug, vS_ite, vS_whl, vS_for, vS_ret, vS_retN, vS_expr, vS_pass, aF_n, aF_r, uh_n, uh_c, ag_a, ag_s, cl_n, cl_c, List.getD_cons_zero, List.getD_cons_succ, R.ok_bind, R.exc_bind, R.bad_bind, R.pure_eq, List.length_cons, List.length_nil, List.map_cons, List.map_nil, List.cons_append, List.nil_append, List.replicate_succ, List.replicate_zero, List.set_cons_zero, List.set_cons_succ, Nat.reduceAdd, Nat.reduceSub, Nat.reduceEqDiff, Int.cast_ofNat_Int, Int.reduceEq, Int.reduceLT, Int.reduceLE, Int.reduceAdd, Int.reduceSub, Int.reduceMul, Int.reduceNeg, decide_true, decide_false, Bool.false_and, Bool.true_and, Bool.and_true, Bool.and_false, Bool.or_true, Bool.or_false, Bool.true_or, Bool.false_or, if_true, ite_true, ite_false, Bool.false_eq_true, reduceIte, Bool.not_true, Bool.not_false, asI_i, asB_b, asL_l, asL_t, asLst_l, dIs_int_none, dIs_int_bool, dIs_int_int, dIs_int_str, dIs_int_list, dIs_int_tuple, dIs_int_dict, dIs_bool_none, dIs_bool_bool, dIs_bool_int, dIs_bool_str, dIs_bool_list, dIs_bool_tuple, dIs_bool_dict, dIs_str_none, dIs_str_bool, dIs_str_int, dIs_str_str, dIs_str_list, dIs_str_tuple, dIs_str_dict, dIs_tuple_none, dIs_tuple_bool, dIs_tuple_int, dIs_tuple_str, dIs_tuple_list, dIs_tuple_tuple, dIs_tuple_dict, dIs_list_none, dIs_list_bool, dIs_list_int, dIs_list_str, dIs_list_list, dIs_list_tuple, dIs_list_dict, ad_i, ad_l, ad_t, ad_s, sb_i, mu_i, fd_i, md_i, pw_10_6, pw_10_9, pw_10_12, pw_10_18, pw_10_59, pw_10_60, c_lt, c_le, c_gt, c_ge, c_eq_i, c_ne_i, c_eq_b, c_ne_b, c_isN, c_inN, c_isB, c_inB, c_in, c_ni, b_len_l, b_len_t, b_len_s, b_int_i, b_int_b, b_tup_l, b_tup_t, b_lst_l, b_lst_t, b_abs, b2_max, b2_min, ix_l, ix_t, sl_l, sl_t, rv_l, rv_t, getS_z, getS_s, ne_ok, seq_n, seq_r, evSs_n, evSs_c, outR_r, outR_n, bT_n, bT_t, bTs_n, bTs_c, asS, hv, hb1]
      unfold envSS at e1 e2 e3 e4 e5
      rw [e1]
      bv_omega
      rw [e2]
      bv_omega
      rw [e3]
      bv_omega
      rw [e4]
      bv_omega
      rw [e5]
      try simp only [vE_var, vE_int, vE_bl, vE_non, vE_str, vE_cst, vE_bin, vE_cmp, vE_chain, vE_and, vE_or, vE_not, vE_neg, vE_ite, vE_isi, vE_tup, vE_lst, vE_lmul, vE_ix, vE_slice, vE_rev, vE_b1, vE_b2, vE_dm, vE_call, vE_call0, vE_comp, vEs_n, vEs_c, vO_n, vO_s, vC_n, vC_s, vI_1, vI_2, vI_3, vI_s, vI_z, vI_e, zR_l, zR_t, vS_asgT, vS_par, vS_app, vS_setIx, vS_aug, vS_ite, vS_whl, vS_for, vS_ret, vS_retN, vS_expr, vS_pass, aF_n, aF_r, uh_n, uh_c, ag_a, ag_s, cl_n, cl_c, List.getD_cons_zero, List.getD_cons_succ, R.ok_bind, R.exc_bind, R.bad_bind, R.pure_eq, List.length_cons, List.length_nil, List.map_cons, List.map_nil, List.cons_append, List.nil_append, List.replicate_succ, List.replicate_zero, List.set_cons_zero, List.set_cons_succ, Nat.reduceAdd, Nat.reduceSub, Nat.reduceEqDiff, Int.cast_ofNat_Int, Int.reduceEq, Int.reduceLT, Int.reduceLE, Int.reduceAdd, Int.reduceSub, Int.reduceMul, Int.reduceNeg, decide_true, decide_false, Bool.false_and, Bool.true_and, Bool.and_true, Bool.and_false, Bool.or_true, Bool.or_false, Bool.true_or, Bool.false_or, if_true, ite_true, ite_false, Bool.false_eq_true, reduceIte, Bool.not_true, Bool.not_false, asI_i, asB_b, asL_l, asL_t, asLst_l, dIs_int_none, dIs_int_bool, dIs_int_int, dIs_int_str, dIs_int_list, dIs_int_tuple, dIs_int_dict, dIs_bool_none, dIs_bool_bool, dIs_bool_int, dIs_bool_str, dIs_bool_list, dIs_bool_tuple, dIs_bool_dict, dIs_str_none, dIs_str_bool, dIs_str_int, dIs_str_str, dIs_str_list, dIs_str_tuple, dIs_str_dict, dIs_tuple_none, dIs_tuple_bool, dIs_tuple_int, dIs_tuple_str, dIs_tuple_list, dIs_tuple_tuple, dIs_tuple_dict, dIs_list_none, dIs_list_bool, dIs_list_int, dIs_list_str, dIs_list_list, dIs_list_tuple, dIs_list_dict, ad_i, ad_l, ad_t, ad_s, sb_i, mu_i, fd_i, md_i, pw_10_6, pw_10_9, pw_10_12, pw_10_18, pw_10_59, pw_10_60, c_lt, c_le, c_gt, c_ge, c_eq_i, c_ne_i, c_eq_b, c_ne_b, c_isN, c_inN, c_isB, c_inB, c_in, c_ni, b_len_l, b_len_t, b_len_s, b_int_i, b_int_b, b_tup_l, b_tup_t, b_lst_l, b_lst_t, b_abs, b2_max, b2_min, ix_l, ix_t, sl_l, sl_t, rv_l, rv_t, getS_z, getS_s, ne_ok, seq_n, seq_r, evSs_n, evSs_c, outR_r, outR_n, bT_n, bT_t, bTs_n, bTs_c, asS, e6]
    have fin2 : ∀ (b : Nat), b ≤ 3000 → ∃ (bs : List Bool) (b' s' : Nat), outR (evSs ⟨run Tb N (k + 3), N⟩ (.cons (.asg 0 4 (.bin .add (.int 1) (.ix (.var 2) (.int 5))) [])
        (.cons (.ite (.cmp .eq (.ix (.var 2) (.int 4)) (.int 6)) (.cons (.asg 0 4 (.bin .add (.int 1) (.ix (.var 2) (.int 6))) []) .nil) .nil)
        (.cons (.ite (.cmp .eq (.ix (.var 2) (.int 4)) (.int 7)) (.cons (.asg 0 4 (.ix (.lst (.cons (.int 840) (.cons (.int 420) (.cons (.int 280) (.cons (.int 210) (.cons (.int 168) (.cons (.int 140) (.cons (.int 120) (.cons (.int 105) (.cons (.int 84) (.cons (.int 70) (.cons (.int 60) (.cons (.int 56) (.cons (.int 42) (.cons (.int 30) .nil))))))))))))))) (.ix (.var 2) (.int 7))) []) .nil) .nil)
        (.cons (.asg 1 5 (.call 10 (.cons (.call 6 (.cons (.var 0) (.cons (.int 9211512360960) .nil))) (.cons (.bin .add (.var 3) (.var 4)) (.cons (.var 1) .nil)))) [])
          (.cons ssA (.cons ssB (.cons ssC (.cons ssD (.cons ssE (.cons (.ret 0 (.call 11 (.cons (.var 5) (.cons (.var 3) (.cons (.var 4) .nil))))) .nil))))))))))
          [some (.int c), some (.int p), some (.list (vs.map .int)), some (.int b), none, none, none, none, none, none]) = .ok (stairOf bs b' s') ∧ bs.length = b' + s' ∧ 1 ≤ s' ∧ s' ≤ 840 ∧ b' ≤ 3000 := by
      intro b hb
      try simp only [vE_var, vE_int, vE_bl, vE_non, vE_str, vE_cst, vE_bin, vE_cmp, vE_chain, vE_and, vE_or, vE_not, vE_neg, vE_ite, vE_isi, vE_tup, vE_lst, vE_lmul, vE_ix, vE_slice, vE_rev, vE_b1, vE_b2, vE_dm, vE_call, vE_call0, vE_comp, vEs_n, vEs_c, vO_n, vO_s, vC_n, vC_s, vI_1, vI_2, vI_3, vI_s, vI_z, vI_e, zR_l, zR_t, vS_asgT, vS_par, vS_app, vS_setIx, vS_aug, vS_ite, vS_whl, vS_for, vS_ret, vS_retN, vS_expr, vS_pass, aF_n, aF_r, uh_n, uh_c, ag_a, ag_s, cl_n, cl_c, List.getD_cons_zero, List.getD_cons_succ, R.ok_bind, R.exc_bind, R.bad_bind, R.pure_eq, List.length_cons, List.length_nil, List.map_cons, List.map_nil, List.cons_append, List.nil_append, List.replicate_succ, List.replicate_zero, List.set_cons_zero, List.set_cons_succ, Nat.reduceAdd, Nat.reduceSub, Nat.reduceEqDiff, Int.cast_ofNat_Int, Int.reduceEq, Int.reduceLT, Int.reduceLE, Int.reduceAdd, Int.reduceSub, Int.reduceMul, Int.reduceNeg, decide_true, decide_false, Bool.false_and, Bool.true_and, Bool.and_true, Bool.and_false, Bool.or_true, Bool.or_false, Bool.true_or, Bool.false_or, if_true, ite_true, ite_false, Bool.false_eq_true, reduceIte, Bool.not_true, Bool.not_false, asI_i, asB_b, asL_l, asL_t, asLst_l, dIs_int_none, dIs_int_bool, dIs_int_int, dIs_int_str, dIs_int_list, dIs_int_tuple, dIs_int_dict, dIs_bool_none, dIs_bool_bool, dIs_bool_int, dIs_bool_str, dIs_bool_list, dIs_bool_tuple, dIs_bool_dict, dIs_str_none, dIs_str_bool, dIs_str_int, dIs_str_str, dIs_str_list, dIs_str_tuple, dIs_str_dict, dIs_tuple_none, dIs_tuple_bool, dIs_tuple_int, dIs_tuple_str, dIs_tuple_list, dIs_tuple_tuple, dIs_tuple_dict, dIs_list_none, dIs_list_bool, dIs_list_int, dIs_list_str, dIs_list_list, dIs_list_tuple, dIs_list_dict, ad_i, ad_l, ad_t, ad_s, sb_i, mu_i, fd_i, md_i, pw_10_6, pw_10_9, pw_10_12, pw_10_18, pw_10_59, pw_10_60, c_lt, c_le, c_gt, c_ge, c_eq_i, c_ne_i, c_eq_b, c_ne_b, c_isN, c_inN, c_isB, c_inB, c_in, c_ni, b_len_l, b_len_t, b_len_s, b_int_i, b_int_b, b_tup_l, b_tup_t, b_lst_l, b_lst_t, b_abs, b2_max, b2_min, ix_l, ix_t, sl_l, sl_t, rv_l, rv_t, getS_z, getS_s, ne_ok, seq_n, seq_r, evSs_n, evSs_c, outR_r, outR_n, bT_n, bT_t, bTs_n, bTs_c, asS, g5, g4, g6, g7, ofO_s]
      by_cases h6 : a4 = 6
      · simp only [h6, decide_true, if_true]
        try simp only [vE_var, vE_int, vE_bl, vE_non, vE_str, vE_cst, vE_bin, vE_cmp, vE_chain, vE_and, vE_or, vE_not, vE_neg, vE_ite, vE_isi, vE_tup, vE_lst, vE_lmul, vE_ix, vE_slice, vE_rev, vE_b1, vE_b2, vE_dm, vE_call, vE_call0, vE_comp, vEs_n, vEs_c, vO_n, vO_s, vC_n, vC_s, vI_1, vI_2, vI_3, vI_s, vI_z, vI_e, zR_l, zR_t, vS_asgT, vS_par, vS_app, vS_setIx, vS_aug, vS_ite, vS_whl, vS_for, vS_ret, vS_retN, vS_expr, vS_pass, aF_n, aF_r, uh_n, uh_c, ag_a, ag_s, cl_n, cl_c, List.getD_cons_zero, List.getD_cons_succ, R.ok_bind, R.exc_bind, R.bad_bind, R.pure_eq, List.length_cons, List.length_nil, List.map_cons, List.map_nil, List.cons_append, List.nil_append, List.replicate_succ, List.replicate_zero, List.set_cons_zero, List.set_cons_succ, Nat.reduceAdd, Nat.reduceSub, Nat.reduceEqDiff, Int.cast_ofNat_Int, Int.reduceEq, Int.reduceLT, Int.reduceLE, Int.reduceAdd, Int.reduceSub, Int.reduceMul, Int.reduceNeg, decide_true, decide_false, Bool.false_and, Bool.true_and, Bool.and_true, Bool.and_false, Bool.or_true, Bool.or_false, Bool.true_or, Bool.false_or, if_true, ite_true, ite_false, Bool.false_eq_true, reduceIte, Bool.not_true, Bool.not_false, asI_i, asB_b, asL_l, asL_t, asLst_l, dIs_int_none, dIs_int_bool, dIs_int_int, dIs_int_str, dIs_int_list, dIs_int_tuple, dIs_int_dict, dIs_bool_none, dIs_bool_bool, dIs_bool_int, dIs_bool_str, dIs_bool_list, dIs_bool_tuple, dIs_bool_dict, dIs_str_none, dIs_str_bool, dIs_str_int, dIs_str_str, dIs_str_list, dIs_str_tuple, dIs_str_dict, dIs_tuple_none, dIs_tuple_bool, dIs_tuple_int, dIs_tuple_str, dIs_tuple_list, dIs_tuple_tuple, dIs_tuple_dict, dIs_list_none, dIs_list_bool, dIs_list_int, dIs_list_str, dIs_list_list, dIs_list_tuple, dIs_list_dict, ad_i, ad_l, ad_t, ad_s, sb_i, mu_i, fd_i, md_i, pw_10_6, pw_10_9, pw_10_12, pw_10_18, pw_10_59, pw_10_60, c_lt, c_le, c_gt, c_ge, c_eq_i, c_ne_i, c_eq_b, c_ne_b, c_isN, c_inN, c_isB, c_inB, c_in, c_ni, b_len_l, b_len_t, b_len_s, b_int_i, b_int_b, b_tup_l, b_tup_t, b_lst_l, b_lst_t, b_abs, b2_max, b2_min, ix_l, ix_t, sl_l, sl_t, rv_l, rv_t, getS_z, getS_s, ne_ok, seq_n, seq_r, evSs_n, evSs_c, outR_r, outR_n, bT_n, bT_t, bTs_n, bTs_c, asS, g5, g4, g6, g7, ofO_s]
        rw [decide_eq_false (p := a4 = 7) (by omega)]
        bv_omega
        have := fin b (1 + a6).toNat hb (by omega) (by omega)
        rw [show (((1 + a6).toNat : Nat) : Int) = 1 + a6 by omega] at this
        exact this
      · simp only [h6, decide_false]
        try simp only [vE_var, vE_int, vE_bl, vE_non, vE_str, vE_cst, vE_bin, vE_cmp, vE_chain, vE_and, vE_or, vE_not, vE_neg, vE_ite, vE_isi, vE_tup, vE_lst, vE_lmul, vE_ix, vE_slice, vE_rev, vE_b1, vE_b2, vE_dm, vE_call, vE_call0, vE_comp, vEs_n, vEs_c, vO_n, vO_s, vC_n, vC_s, vI_1, vI_2, vI_3, vI_s, vI_z, vI_e, zR_l, zR_t, vS_asgT, vS_par, vS_app, vS_setIx, vS_aug, vS_ite, vS_whl, vS_for, vS_ret, vS_retN, vS_expr, vS_pass, aF_n, aF_r, uh_n, uh_c, ag_a, ag_s, cl_n, cl_c, List.getD_cons_zero, List.getD_cons_succ, R.ok_bind, R.exc_bind, R.bad_bind, R.pure_eq, List.length_cons, List.length_nil, List.map_cons, List.map_nil, List.cons_append, List.nil_append, List.replicate_succ, List.replicate_zero, List.set_cons_zero, List.set_cons_succ, Nat.reduceAdd, Nat.reduceSub, Nat.reduceEqDiff, Int.cast_ofNat_Int, Int.reduceEq, Int.reduceLT, Int.reduceLE, Int.reduceAdd, Int.reduceSub, Int.reduceMul, Int.reduceNeg, decide_true, decide_false, Bool.false_and, Bool.true_and, Bool.and_true, Bool.and_false, Bool.or_true, Bool.or_false, Bool.true_or, Bool.false_or, if_true, ite_true, ite_false, Bool.false_eq_true, reduceIte, Bool.not_true, Bool.not_false, asI_i, asB_b, asL_l, asL_t, asLst_l, dIs_int_none, dIs_int_bool, dIs_int_int, dIs_int_str, dIs_int_list, dIs_int_tuple, dIs_int_dict, dIs_bool_none, dIs_bool_bool, dIs_bool_int, dIs_bool_str, dIs_bool_list, dIs_bool_tuple, dIs_bool_dict, dIs_str_none, dIs_str_bool, dIs_str_int, dIs_str_str, dIs_str_list, dIs_str_tuple, dIs_str_dict, dIs_tuple_none, dIs_tuple_bool, dIs_tuple_int, dIs_tuple_str, dIs_tuple_list, dIs_tuple_tuple, dIs_tuple_dict, dIs_list_none, dIs_list_bool, dIs_list_int, dIs_list_str, dIs_list_list, dIs_list_tuple, dIs_list_dict, ad_i, ad_l, ad_t, ad_s, sb_i, mu_i, fd_i, md_i, pw_10_6, pw_10_9, pw_10_12, pw_10_18, pw_10_59, pw_10_60, c_lt, c_le, c_gt, c_ge, c_eq_i, c_ne_i, c_eq_b, c_ne_b, c_isN, c_inN, c_isB, c_inB, c_in, c_ni, b_len_l, b_len_t, b_len_s, b_int_i, b_int_b, b_tup_l, b_tup_t, b_lst_l, b_lst_t, b_abs, b2_max, b2_min, ix_l, ix_t, sl_l, sl_t, rv_l, rv_t, getS_z, getS_s, ne_ok, seq_n, seq_r, evSs_n, evSs_c, outR_r, outR_n, bT_n, bT_t, bTs_n, bTs_c, asS, g5, g4, g6, g7, ofO_s]
        by_cases h7 : a4 = 7
        · simp only [h7, decide_true, if_true]
          try simp only [vE_var, vE_int, vE_bl, vE_non, vE_str, vE_cst, vE_bin, vE_cmp, vE_chain, vE_and, vE_or, vE_not, vE_neg, vE_ite, vE_isi, vE_tup, vE_lst, vE_lmul, vE_ix, vE_slice, vE_rev, vE_b1, vE_b2, vE_dm, vE_call, vE_call0, vE_comp, vEs_n, vEs_c, vO_n, vO_s, vC_n, vC_s, vI_1, vI_2, vI_3, vI_s, vI_z, vI_e, zR_l, zR_t, vS_asgT, vS_par, vS_app, vS_setIx, vS_aug, vS_ite, vS_whl, vS_for, vS_ret, vS_retN, vS_expr, vS_pass, aF_n, aF_r, uh_n, uh_c, ag_a, ag_s, cl_n, cl_c, List.getD_cons_zero, List.getD_cons_succ, R.ok_bind, R.exc_bind, R.bad_bind, R.pure_eq, List.length_cons, List.length_nil, List.map_cons, List.map_nil, List.cons_append, List.nil_append, List.replicate_succ, List.replicate_zero, List.set_cons_zero, List.set_cons_succ, Nat.reduceAdd, Nat.reduceSub, Nat.reduceEqDiff, Int.cast_ofNat_Int, Int.reduceEq, Int.reduceLT, Int.reduceLE, Int.reduceAdd, Int.reduceSub, Int.reduceMul, Int.reduceNeg, decide_true, decide_false, Bool.false_and, Bool.true_and, Bool.and_true, Bool.and_false, Bool.or_true, Bool.or_false, Bool.true_or, Bool.false_or, if_true, ite_true, ite_false, Bool.false_eq_true, reduceIte, Bool.not_true, Bool.not_false, asI_i, asB_b, asL_l, asL_t, asLst_l, dIs_int_none, dIs_int_bool, dIs_int_int, dIs_int_str, dIs_int_list, dIs_int_tuple, dIs_int_dict, dIs_bool_none, dIs_bool_bool, dIs_bool_int, dIs_bool_str, dIs_bool_list, dIs_bool_tuple, dIs_bool_dict, dIs_str_none, dIs_str_bool, dIs_str_int, dIs_str_str, dIs_str_list, dIs_str_tuple, dIs_str_dict, dIs_tuple_none, dIs_tuple_bool, dIs_tuple_int, dIs_tuple_str, dIs_tuple_list, dIs_tuple_tuple, dIs_tuple_dict, dIs_list_none, dIs_list_bool, dIs_list_int, dIs_list_str, dIs_list_list, dIs_list_tuple, dIs_list_dict, ad_i, ad_l, ad_t, ad_s, sb_i, mu_i, fd_i, md_i, pw_10_6, pw_10_9, pw_10_12, pw_10_18, pw_10_59, pw_10_60, c_lt, c_le, c_gt, c_ge, c_eq_i, c_ne_i, c_eq_b, c_ne_b, c_isN, c_inN, c_isB, c_inB, c_in, c_ni, b_len_l, b_len_t, b_len_s, b_int_i, b_int_b, b_tup_l, b_tup_t, b_lst_l, b_lst_t, b_abs, b2_max, b2_min, ix_l, ix_t, sl_l, sl_t, rv_l, rv_t, getS_z, getS_s, ne_ok, seq_n, seq_r, evSs_n, evSs_c, outR_r, outR_n, bT_n, bT_t, bTs_n, bTs_c, asS, g5, g4, g6, g7, ofO_s]
          rw [sized_ok (lt_size (by simp))]
          try simp only [vE_var, vE_int, vE_bl, vE_non, vE_str, vE_cst, vE_bin, vE_cmp, vE_chain, vE_and, vE_or, vE_not, vE_neg, vE_ite, vE_isi, vE_tup, vE_lst, vE_lmul, vE_ix, vE_slice, vE_rev, vE_b1, vE_b2, vE_dm, vE_call, vE_call0, vE_comp, vEs_n, vEs_c, vO_n, vO_s, vC_n, vC_s, vI_1, vI_2, vI_3, vI_s, vI_z, vI_e, zR_l, zR_t, vS_asgT, vS_par, vS_app, vS_setIx, vS_aug, vS_ite, vS_whl, vS_for, vS_ret, vS_retN, vS_expr, vS_pass, aF_n, aF_r, uh_n, uh_c, ag_a, ag_s, cl_n, cl_c, List.getD_cons_zero, List.getD_cons_succ, R.ok_bind, R.exc_bind, R.bad_bind, R.pure_eq, List.length_cons, List.length_nil, List.map_cons, List.map_nil, List.cons_append, List.nil_append, List.replicate_succ, List.replicate_zero, List.set_cons_zero, List.set_cons_succ, Nat.reduceAdd, Nat.reduceSub, Nat.reduceEqDiff, Int.cast_ofNat_Int, Int.reduceEq, Int.reduceLT, Int.reduceLE, Int.reduceAdd, Int.reduceSub, Int.reduceMul, Int.reduceNeg, decide_true, decide_false, Bool.false_and, Bool.true_and, Bool.and_true, Bool.and_false, Bool.or_true, Bool.or_false, Bool.true_or, Bool.false_or, if_true, ite_true, ite_false, Bool.false_eq_true, reduceIte, Bool.not_true, Bool.not_false, asI_i, asB_b, asL_l, asL_t, asLst_l, dIs_int_none, dIs_int_bool, dIs_int_int, dIs_int_str, dIs_int_list, dIs_int_tuple, dIs_int_dict, dIs_bool_none, dIs_bool_bool, dIs_bool_int, dIs_bool_str, dIs_bool_list, dIs_bool_tuple, dIs_bool_dict, dIs_str_none, dIs_str_bool, dIs_str_int, dIs_str_str, dIs_str_list, dIs_str_tuple, dIs_str_dict, dIs_tuple_none, dIs_tuple_bool, dIs_tuple_int, dIs_tuple_str, dIs_tuple_list, dIs_tuple_tuple, dIs_tuple_dict, dIs_list_none, dIs_list_bool, dIs_list_int, dIs_list_str, dIs_list_list, dIs_list_tuple, dIs_list_dict, ad_i, ad_l, ad_t, ad_s, sb_i, mu_i, fd_i, md_i, pw_10_6, pw_10_9, pw_10_12, pw_10_18, pw_10_59, pw_10_60, c_lt, c_le, c_gt, c_ge, c_eq_i, c_ne_i, c_eq_b, c_ne_b, c_isN, c_inN, c_isB, c_inB, c_in, c_ni, b_len_l, b_len_t, b_len_s, b_int_i, b_int_b, b_tup_l, b_tup_t, b_lst_l, b_lst_t, b_abs, b2_max, b2_min, ix_l, ix_t, sl_l, sl_t, rv_l, rv_t, getS_z, getS_s, ne_ok, seq_n, seq_r, evSs_n, evSs_c, outR_r, outR_n, bT_n, bT_t, bTs_n, bTs_c, asS, g7, ofO_s]
          obtain ⟨n, hn⟩ : ∃ n : Nat, a7 = (n : Int) ∧ n < 14 := ⟨a7.toNat, by omega⟩
          have hst : ∃ s : Nat, [840, 420, 280, 210, 168, 140, 120, 105, 84, 70, 60, 56, 42, 30][n]? = some s ∧ 1 ≤ s ∧ s ≤ 840 := by
            have : ∀ n < 14, ∃ s : Nat, [840, 420, 280, 210, 168, 140, 120, 105, 84, 70, 60, 56, 42, 30][n]? = some s ∧ 1 ≤ s ∧ s ≤ 840 := by
              intro n hn
              match n, hn with
              | 0, _ => exact ⟨_, rfl, by decide, by decide⟩
              | 1, _ => exact ⟨_, rfl, by decide, by decide⟩
              | 2, _ => exact ⟨_, rfl, by decide, by decide⟩
              | 3, _ => exact ⟨_, rfl, by decide, by decide⟩
              | 4, _ => exact ⟨_, rfl, by decide, by decide⟩
              | 5, _ => exact ⟨_, rfl, by decide, by decide⟩
              | 6, _ => exact ⟨_, rfl, by decide, by decide⟩
              | 7, _ => exact ⟨_, rfl, by decide, by decide⟩
              | 8, _ => exact ⟨_, rfl, by decide, by decide⟩
              | 9, _ => exact ⟨_, rfl, by decide, by decide⟩
              | 10, _ => exact ⟨_, rfl, by decide, by decide⟩
              | 11, _ => exact ⟨_, rfl, by decide, by decide⟩
              | 12, _ => exact ⟨_, rfl, by decide, by decide⟩
              | 13, _ => exact ⟨_, rfl, by decide, by decide⟩
            exact this n hn.2
          obtain ⟨s, hs0, hs1, hs2⟩ := hst
          have hat : L2.atI [PyData.int 840, .int 420, .int 280, .int 210, .int 168, .int 140, .int 120, .int 105, .int 84, .int 70, .int 60, .int 56, .int 42, .int 30] a7 = some (.int (s : Int)) := by
            rw [hn.1]
            refine L2.atI_nat ?_
            have e : [PyData.int 840, .int 420, .int 280, .int 210, .int 168, .int 140, .int 120, .int 105, .int 84, .int 70, .int 60, .int 56, .int 42, .int 30] = ([840, 420, 280, 210, 168, 140, 120, 105, 84, 70, 60, 56, 42, 30] : List Nat).map fun (x : Nat) => PyData.int (x : Int) := rfl
            rw [e, List.getElem?_map, hs0]
            rfl
          rw [hat]
          try simp only [vE_var, vE_int, vE_bl, vE_non, vE_str, vE_cst, vE_bin, vE_cmp, vE_chain, vE_and, vE_or, vE_not, vE_neg, vE_ite, vE_isi, vE_tup, vE_lst, vE_lmul, vE_ix, vE_slice, vE_rev, vE_b1, vE_b2, vE_dm, vE_call, vE_call0, vE_comp, vEs_n, vEs_c, vO_n, vO_s, vC_n, vC_s, vI_1, vI_2, vI_3, vI_s, vI_z, vI_e, zR_l, zR_t, vS_asgT, vS_par, vS_app, vS_setIx, vS_aug, vS_ite, vS_whl, vS_for, vS_ret, vS_retN, vS_expr, vS_pass, aF_n, aF_r, uh_n, uh_c, ag_a, ag_s, cl_n, cl_c, List.getD_cons_zero, List.getD_cons_succ, R.ok_bind, R.exc_bind, R.bad_bind, R.pure_eq, List.length_cons, List.length_nil, List.map_cons, List.map_nil, List.cons_append, List.nil_append, List.replicate_succ, List.replicate_zero, List.set_cons_zero, List.set_cons_succ, Nat.reduceAdd, Nat.reduceSub, Nat.reduceEqDiff, Int.cast_ofNat_Int, Int.reduceEq, Int.reduceLT, Int.reduceLE, Int.reduceAdd, Int.reduceSub, Int.reduceMul, Int.reduceNeg, decide_true, decide_false, Bool.false_and, Bool.true_and, Bool.and_true, Bool.and_false, Bool.or_true, Bool.or_false, Bool.true_or, Bool.false_or, if_true, ite_true, ite_false, Bool.false_eq_true, reduceIte, Bool.not_true, Bool.not_false, asI_i, asB_b, asL_l, asL_t, asLst_l, dIs_int_none, dIs_int_bool, dIs_int_int, dIs_int_str, dIs_int_list, dIs_int_tuple, dIs_int_dict, dIs_bool_none, dIs_bool_bool, dIs_bool_int, dIs_bool_str, dIs_bool_list, dIs_bool_tuple, dIs_bool_dict, dIs_str_none, dIs_str_bool, dIs_str_int, dIs_str_str, dIs_str_list, dIs_str_tuple, dIs_str_dict, dIs_tuple_none, dIs_tuple_bool, dIs_tuple_int, dIs_tuple_str, dIs_tuple_list, dIs_tuple_tuple, dIs_tuple_dict, dIs_list_none, dIs_list_bool, dIs_list_int, dIs_list_str, dIs_list_list, dIs_list_tuple, dIs_list_dict, ad_i, ad_l, ad_t, ad_s, sb_i, mu_i, fd_i, md_i, pw_10_6, pw_10_9, pw_10_12, pw_10_18, pw_10_59, pw_10_60, c_lt, c_le, c_gt, c_ge, c_eq_i, c_ne_i, c_eq_b, c_ne_b, c_isN, c_inN, c_isB, c_inB, c_in, c_ni, b_len_l, b_len_t, b_len_s, b_int_i, b_int_b, b_tup_l, b_tup_t, b_lst_l, b_lst_t, b_abs, b2_max, b2_min, ix_l, ix_t, sl_l, sl_t, rv_l, rv_t, getS_z, getS_s, ne_ok, seq_n, seq_r, evSs_n, evSs_c, outR_r, outR_n, bT_n, bT_t, bTs_n, bTs_c, asS, ofO_s]
          exact fin b s hb hs1 hs2
        · simp only [h7, decide_false]
          bv_omega
          have := fin b (1 + a5).toNat hb (by omega) (by omega)
          rw [show (((1 + a5).toNat : Nat) : Int) = 1 + a5 by omega] at this
          exact this
    bv_omega
    rw [sized_ok (lt_size (by simp))]
    try simp only [vE_var, vE_int, vE_bl, vE_non, vE_str, vE_cst, vE_bin, vE_cmp, vE_chain, vE_and, vE_or, vE_not, vE_neg, vE_ite, vE_isi, vE_tup, vE_lst, vE_lmul, vE_ix, vE_slice, vE_rev, vE_b1, vE_b2, vE_dm, vE_call, vE_call0, vE_comp, vEs_n, vEs_c, vO_n, vO_s, vC_n, vC_s, vI_1, vI_2, vI_3, vI_s, vI_z, vI_e, zR_l, zR_t, vS_asgT, vS_par, vS_app, vS_setIx, vS_aug, vS_ite, vS_whl, vS_for, vS_ret, vS_retN, vS_expr, vS_pass, aF_n, aF_r, uh_n, uh_c, ag_a, ag_s, cl_n, cl_c, List.getD_cons_zero, List.getD_cons_succ, R.ok_bind, R.exc_bind, R.bad_bind, R.pure_eq, List.length_cons, List.length_nil, List.map_cons, List.map_nil, List.cons_append, List.nil_append, List.replicate_succ, List.replicate_zero, List.set_cons_zero, List.set_cons_succ, Nat.reduceAdd, Nat.reduceSub, Nat.reduceEqDiff, Int.cast_ofNat_Int, Int.reduceEq, Int.reduceLT, Int.reduceLE, Int.reduceAdd, Int.reduceSub, Int.reduceMul, Int.reduceNeg, decide_true, decide_false, Bool.false_and, Bool.true_and, Bool.and_true, Bool.and_false, Bool.or_true, Bool.or_false, Bool.true_or, Bool.false_or, if_true, ite_true, ite_false, Bool.false_eq_true, reduceIte, Bool.not_true, Bool.not_false, asI_i, asB_b, asL_l, asL_t, asLst_l, dIs_int_none, dIs_int_bool, dIs_int_int, dIs_int_str, dIs_int_list, dIs_int_tuple, dIs_int_dict, dIs_bool_none, dIs_bool_bool, dIs_bool_int, dIs_bool_str, dIs_bool_list, dIs_bool_tuple, dIs_bool_dict, dIs_str_none, dIs_str_bool, dIs_str_int, dIs_str_str, dIs_str_list, dIs_str_tuple, dIs_str_dict, dIs_tuple_none, dIs_tuple_bool, dIs_tuple_int, dIs_tuple_str, dIs_tuple_list, dIs_tuple_tuple, dIs_tuple_dict, dIs_list_none, dIs_list_bool, dIs_list_int, dIs_list_str, dIs_list_list, dIs_list_tuple, dIs_list_dict, ad_i, ad_l, ad_t, ad_s, sb_i, mu_i, fd_i, md_i, pw_10_6, pw_10_9, pw_10_12, pw_10_18, pw_10_59, pw_10_60, c_lt, c_le, c_gt, c_ge, c_eq_i, c_ne_i, c_eq_b, c_ne_b, c_isN, c_inN, c_isB, c_inB, c_in, c_ni, b_len_l, b_len_t, b_len_s, b_int_i, b_int_b, b_tup_l, b_tup_t, b_lst_l, b_lst_t, b_abs, b2_max, b2_min, ix_l, ix_t, sl_l, sl_t, rv_l, rv_t, getS_z, getS_s, ne_ok, seq_n, seq_r, evSs_n, evSs_c, outR_r, outR_n, bT_n, bT_t, bTs_n, bTs_c, asS, h1', g1, g0, ofO_s]
    by_cases h5 : 5 < a0
    · simp only [h5, decide_true, if_true]
      try simp only [vE_var, vE_int, vE_bl, vE_non, vE_str, vE_cst, vE_bin, vE_cmp, vE_chain, vE_and, vE_or, vE_not, vE_neg, vE_ite, vE_isi, vE_tup, vE_lst, vE_lmul, vE_ix, vE_slice, vE_rev, vE_b1, vE_b2, vE_dm, vE_call, vE_call0, vE_comp, vEs_n, vEs_c, vO_n, vO_s, vC_n, vC_s, vI_1, vI_2, vI_3, vI_s, vI_z, vI_e, zR_l, zR_t, vS_asgT, vS_par, vS_app, vS_setIx, vS_aug, vS_ite, vS_whl, vS_for, vS_ret, vS_retN, vS_expr, vS_pass, aF_n, aF_r, uh_n, uh_c, ag_a, ag_s, cl_n, cl_c, List.getD_cons_zero, List.getD_cons_succ, R.ok_bind, R.exc_bind, R.bad_bind, R.pure_eq, List.length_cons, List.length_nil, List.map_cons, List.map_nil, List.cons_append, List.nil_append, List.replicate_succ, List.replicate_zero, List.set_cons_zero, List.set_cons_succ, Nat.reduceAdd, Nat.reduceSub, Nat.reduceEqDiff, Int.cast_ofNat_Int, Int.reduceEq, Int.reduceLT, Int.reduceLE, Int.reduceAdd, Int.reduceSub, Int.reduceMul, Int.reduceNeg, decide_true, decide_false, Bool.false_and, Bool.true_and, Bool.and_true, Bool.and_false, Bool.or_true, Bool.or_false, Bool.true_or, Bool.false_or, if_true, ite_true, ite_false, Bool.false_eq_true, reduceIte, Bool.not_true, Bool.not_false, asI_i, asB_b, asL_l, asL_t, asLst_l, dIs_int_none, dIs_int_bool, dIs_int_int, dIs_int_str, dIs_int_list, dIs_int_tuple, dIs_int_dict, dIs_bool_none, dIs_bool_bool, dIs_bool_int, dIs_bool_str, dIs_bool_list, dIs_bool_tuple, dIs_bool_dict, dIs_str_none, dIs_str_bool, dIs_str_int, dIs_str_str, dIs_str_list, dIs_str_tuple, dIs_str_dict, dIs_tuple_none, dIs_tuple_bool, dIs_tuple_int, dIs_tuple_str, dIs_tuple_list, dIs_tuple_tuple, dIs_tuple_dict, dIs_list_none, dIs_list_bool, dIs_list_int, dIs_list_str, dIs_list_list, dIs_list_tuple, dIs_list_dict, ad_i, ad_l, ad_t, ad_s, sb_i, mu_i, fd_i, md_i, pw_10_6, pw_10_9, pw_10_12, pw_10_18, pw_10_59, pw_10_60, c_lt, c_le, c_gt, c_ge, c_eq_i, c_ne_i, c_eq_b, c_ne_b, c_isN, c_inN, c_isB, c_inB, c_in, c_ni, b_len_l, b_len_t, b_len_s, b_int_i, b_int_b, b_tup_l, b_tup_t, b_lst_l, b_lst_t, b_abs, b2_max, b2_min, ix_l, ix_t, sl_l, sl_t, rv_l, rv_t, getS_z, getS_s, ne_ok, seq_n, seq_r, evSs_n, evSs_c, outR_r, outR_n, bT_n, bT_t, bTs_n, bTs_c, asS, g0, ofO_s]
      by_cases h7 : a0 = 7
      · simp only [h7, decide_true, if_true]
        try simp only [vE_var, vE_int, vE_bl, vE_non, vE_str, vE_cst, vE_bin, vE_cmp, vE_chain, vE_and, vE_or, vE_not, vE_neg, vE_ite, vE_isi, vE_tup, vE_lst, vE_lmul, vE_ix, vE_slice, vE_rev, vE_b1, vE_b2, vE_dm, vE_call, vE_call0, vE_comp, vEs_n, vEs_c, vO_n, vO_s, vC_n, vC_s, vI_1, vI_2, vI_3, vI_s, vI_z, vI_e, zR_l, zR_t, vS_asgT, vS_par, vS_app, vS_setIx, vS_aug, vS_ite, vS_whl, vS_for, vS_ret, vS_retN, vS_expr, vS_pass, aF_n, aF_r, uh_n, uh_c, ag_a, ag_s, cl_n, cl_c, List.getD_cons_zero, List.getD_cons_succ, R.ok_bind, R.exc_bind, R.bad_bind, R.pure_eq, List.length_cons, List.length_nil, List.map_cons, List.map_nil, List.cons_append, List.nil_append, List.replicate_succ, List.replicate_zero, List.set_cons_zero, List.set_cons_succ, Nat.reduceAdd, Nat.reduceSub, Nat.reduceEqDiff, Int.cast_ofNat_Int, Int.reduceEq, Int.reduceLT, Int.reduceLE, Int.reduceAdd, Int.reduceSub, Int.reduceMul, Int.reduceNeg, decide_true, decide_false, Bool.false_and, Bool.true_and, Bool.and_true, Bool.and_false, Bool.or_true, Bool.or_false, Bool.true_or, Bool.false_or, if_true, ite_true, ite_false, Bool.false_eq_true, reduceIte, Bool.not_true, Bool.not_false, asI_i, asB_b, asL_l, asL_t, asLst_l, dIs_int_none, dIs_int_bool, dIs_int_int, dIs_int_str, dIs_int_list, dIs_int_tuple, dIs_int_dict, dIs_bool_none, dIs_bool_bool, dIs_bool_int, dIs_bool_str, dIs_bool_list, dIs_bool_tuple, dIs_bool_dict, dIs_str_none, dIs_str_bool, dIs_str_int, dIs_str_str, dIs_str_list, dIs_str_tuple, dIs_str_dict, dIs_tuple_none, dIs_tuple_bool, dIs_tuple_int, dIs_tuple_str, dIs_tuple_list, dIs_tuple_tuple, dIs_tuple_dict, dIs_list_none, dIs_list_bool, dIs_list_int, dIs_list_str, dIs_list_list, dIs_list_tuple, dIs_list_dict, ad_i, ad_l, ad_t, ad_s, sb_i, mu_i, fd_i, md_i, pw_10_6, pw_10_9, pw_10_12, pw_10_18, pw_10_59, pw_10_60, c_lt, c_le, c_gt, c_ge, c_eq_i, c_ne_i, c_eq_b, c_ne_b, c_isN, c_inN, c_isB, c_inB, c_in, c_ni, b_len_l, b_len_t, b_len_s, b_int_i, b_int_b, b_tup_l, b_tup_t, b_lst_l, b_lst_t, b_abs, b2_max, b2_min, ix_l, ix_t, sl_l, sl_t, rv_l, rv_t, getS_z, getS_s, ne_ok, seq_n, seq_r, evSs_n, evSs_c, outR_r, outR_n, bT_n, bT_t, bTs_n, bTs_c, asS, g3, ofO_s]
        have := fin2 a3.toNat (by omega)
        rw [show ((a3.toNat : Nat) : Int) = a3 by omega] at this
        exact this
      · simp only [h7, decide_false, if_false]
        try simp only [vE_var, vE_int, vE_bl, vE_non, vE_str, vE_cst, vE_bin, vE_cmp, vE_chain, vE_and, vE_or, vE_not, vE_neg, vE_ite, vE_isi, vE_tup, vE_lst, vE_lmul, vE_ix, vE_slice, vE_rev, vE_b1, vE_b2, vE_dm, vE_call, vE_call0, vE_comp, vEs_n, vEs_c, vO_n, vO_s, vC_n, vC_s, vI_1, vI_2, vI_3, vI_s, vI_z, vI_e, zR_l, zR_t, vS_asgT, vS_par, vS_app, vS_setIx, vS_aug, vS_ite, vS_whl, vS_for, vS_ret, vS_retN, vS_expr, vS_pass, aF_n, aF_r, uh_n, uh_c, ag_a, ag_s, cl_n, cl_c, List.getD_cons_zero, List.getD_cons_succ, R.ok_bind, R.exc_bind, R.bad_bind, R.pure_eq, List.length_cons, List.length_nil, List.map_cons, List.map_nil, List.cons_append, List.nil_append, List.replicate_succ, List.replicate_zero, List.set_cons_zero, List.set_cons_succ, Nat.reduceAdd, Nat.reduceSub, Nat.reduceEqDiff, Int.cast_ofNat_Int, Int.reduceEq, Int.reduceLT, Int.reduceLE, Int.reduceAdd, Int.reduceSub, Int.reduceMul, Int.reduceNeg, decide_true, decide_false, Bool.false_and, Bool.true_and, Bool.and_true, Bool.and_false, Bool.or_true, Bool.or_false, Bool.true_or, Bool.false_or, if_true, ite_true, ite_false, Bool.false_eq_true, reduceIte, Bool.not_true, Bool.not_false, asI_i, asB_b, asL_l, asL_t, asLst_l, dIs_int_none, dIs_int_bool, dIs_int_int, dIs_int_str, dIs_int_list, dIs_int_tuple, dIs_int_dict, dIs_bool_none, dIs_bool_bool, dIs_bool_int, dIs_bool_str, dIs_bool_list, dIs_bool_tuple, dIs_bool_dict, dIs_str_none, dIs_str_bool, dIs_str_int, dIs_str_str, dIs_str_list, dIs_str_tuple, dIs_str_dict, dIs_tuple_none, dIs_tuple_bool, dIs_tuple_int, dIs_tuple_str, dIs_tuple_list, dIs_tuple_tuple, dIs_tuple_dict, dIs_list_none, dIs_list_bool, dIs_list_int, dIs_list_str, dIs_list_list, dIs_list_tuple, dIs_list_dict, ad_i, ad_l, ad_t, ad_s, sb_i, mu_i, fd_i, md_i, pw_10_6, pw_10_9, pw_10_12, pw_10_18, pw_10_59, pw_10_60, c_lt, c_le, c_gt, c_ge, c_eq_i, c_ne_i, c_eq_b, c_ne_b, c_isN, c_inN, c_isB, c_inB, c_in, c_ni, b_len_l, b_len_t, b_len_s, b_int_i, b_int_b, b_tup_l, b_tup_t, b_lst_l, b_lst_t, b_abs, b2_max, b2_min, ix_l, ix_t, sl_l, sl_t, rv_l, rv_t, getS_z, getS_s, ne_ok, seq_n, seq_r, evSs_n, evSs_c, outR_r, outR_n, bT_n, bT_t, bTs_n, bTs_c, asS, g2, ofO_s]
        have := fin2 a2.toNat (by omega)
        rw [show ((a2.toNat : Nat) : Int) = a2 by omega] at this
        exact this
    · simp only [h5, decide_false]
      bv_omega
      have := fin2 a1.toNat (by omega)
      rw [show ((a1.toNat : Nat) : Int) = a1 by omega] at this
      exact this
end Ev
set_option Elab.async false
set_option linter.all false
set_option maxRecDepth 100000
set_option maxHeartbeats 4000000
namespace Ev
open PySem
local macro_rules | `(tactic| bv_omega) => `(tactic| try simp only [vE_var, vE_int, vE_bl, vE_non, vE_str, vE_cst, vE_bin, vE_cmp, vE_chain, vE_and, vE_or, vE_not, vE_neg, vE_ite, vE_isi, vE_tup, vE_lst, vE_lmul, vE_ix, vE_slice, vE_rev, vE_b1, vE_b2, vE_dm, vE_call, vE_call0, vE_comp, vEs_n, vEs_c, vO_n, vO_s, vC_n, vC_s, vI_1, vI_2, vI_3, vI_s, vI_z, vI_e, zR_l, zR_t, vS_asgT, vS_par, vS_app, vS_setIx, vS_aug, vS_ite, vS_whl, vS_for, vS_ret, vS_retN, vS_expr, vS_pass, aF_n, aF_r, uh_n, uh_c, ag_a, ag_s, cl_n, cl_c, List.getD_cons_zero, List.getD_cons_succ, R.ok_bind, R.exc_bind, R.bad_bind, R.pure_eq, List.length_cons, List.length_nil, List.map_cons, List.map_nil, List.cons_append, List.nil_append, List.replicate_succ, List.replicate_zero, List.set_cons_zero, List.set_cons_succ, Nat.reduceAdd, Nat.reduceSub, Nat.reduceEqDiff, Int.cast_ofNat_Int, Int.reduceEq, Int.reduceLT, Int.reduceLE, Int.reduceAdd, Int.reduceSub, Int.reduceMul, Int.reduceNeg, decide_true, decide_false, Bool.false_and, Bool.true_and, Bool.and_true, Bool.and_false, Bool.or_true, Bool.or_false, Bool.true_or, Bool.false_or, if_true, ite_true, ite_false, Bool.false_eq_true, reduceIte, Bool.not_true, Bool.not_false, asI_i, asB_b, asL_l, asL_t, asLst_l, dIs_int_none, dIs_int_bool, dIs_int_int, dIs_int_str, dIs_int_list, dIs_int_tuple, dIs_int_dict, dIs_bool_none, dIs_bool_bool, dIs_bool_int, dIs_bool_str, dIs_bool_list, dIs_bool_tuple, dIs_bool_dict, dIs_str_none, dIs_str_bool, dIs_str_int, dIs_str_str, dIs_str_list, dIs_str_tuple, dIs_str_dict, dIs_tuple_none, dIs_tuple_bool, dIs_tuple_int, dIs_tuple_str, dIs_tuple_list, dIs_tuple_tuple, dIs_tuple_dict, dIs_list_none, dIs_list_bool, dIs_list_int, dIs_list_str, dIs_list_list, dIs_list_tuple, dIs_list_dict, ad_i, ad_l, ad_t, ad_s, sb_i, mu_i, fd_i, md_i, pw_10_6, pw_10_9, pw_10_12, pw_10_18, pw_10_59, pw_10_60, c_lt, c_le, c_gt, c_ge, c_eq_i, c_ne_i, c_eq_b, c_ne_b, c_isN, c_inN, c_isB, c_inB, c_in, c_ni, b_len_l, b_len_t, b_len_s, b_int_i, b_int_b, b_tup_l, b_tup_t, b_lst_l, b_lst_t, b_abs, b2_max, b2_min, ix_l, ix_t, sl_l, sl_t, rv_l, rv_t, getS_z, getS_s, ne_ok, seq_n, seq_r, evSs_n, evSs_c, outR_r, outR_n, bT_n, bT_t, bTs_n, bTs_c, asS])
variable {N k : Nat}
def okRow : D → Prop
  | .tuple l => l.length ≤ 900000
  | _ => True
theorem okRow.sz {d : D} (h : okRow d) : szRow d := fun l e => by subst e; exact lt_size (Nat.le_trans h (by decide))
theorem cut_len {α : Type} (l : List α) (a b : Option Int) : (cut l a b).length ≤ l.length := by
  unfold cut
  rw [List.length_take, List.length_drop]
  omega
theorem okRow_getD {ds : List D} (hk : ∀ d ∈ ds, okRow d) (i : Nat) : okRow ((ds[i]?).getD .none) := by
  cases q : ds[i]? with
  | none => exact True.intro
  | some y => exact hk y (List.mem_of_getElem? q)
abbrev envRS (ns : List Int) (lo hi c j : Int) (ds : List D) (o6 o7 : Option D) : Env := [some (.tuple (ns.map .int)), some (.int lo), some (.int hi), some (.int c), some (.int j), some (.list ds), o6, o7, none]
theorem rows_loop {ns : List Int} {lo hi c j : Int} {ds : List D} {o6 o7 : Option D} {Φ : Cfg} (hn : ns.length ≤ 100000) (hd : ds.length ≤ 14) (ho : ∀ d ∈ ds, okRow d) (items : List D) (h8 : items.length ≤ 8) :
    ∃ ds' o6', forL (stepF Φ (.name 6) f_law_rows_spoilt_b1) items (envRS ns lo hi c j ds o6 o7) = .ok (.next (envRS ns lo hi c j ds' o6' o7)) ∧ ds'.length ≤ 22 ∧ 1 ≤ ds'.length + (8 - items.length) ∧ (∀ d ∈ ds', okRow d) ∧ ds.length ≤ ds'.length := by
  have c1 := cut_len (ns.map PyData.int) none (some j)
  have c2 := cut_len (ns.map PyData.int) (some j) none
  rw [ints_len] at c1 c2
  obtain ⟨e', h1, ds', o, h2, h3, h4⟩ := forL_lst (f := stepF Φ (.name 6) f_law_rows_spoilt_b1) (l := items) (e := envRS ns lo hi c j ds o6 o7)
    (Inv := fun i e => ∃ (ds' : List D) (o : Option D), e = envRS ns lo hi c j ds' o o7 ∧ ds'.length = ds.length + i ∧ ∀ d ∈ ds', okRow d)
    (fun i d e hi ⟨ds', o, he, hv, hk⟩ => by
      subst he
      have hlt := (List.getElem?_eq_some_iff.mp hi).1
      rw [stepF_eq]
      unfold f_law_rows_spoilt_b1 envRS
      bv_omega
      rw [mkTup_ok (lt_size (by simp))]
      bv_omega
      rw [if_pos (lt_size (by (try simp only [List.length_cons, List.length_nil]); omega))]
      bv_omega
      rw [if_pos (lt_size (by (try simp only [List.length_append, List.length_cons, List.length_nil]); omega))]
      bv_omega
      rw [sizedApp_ok (Nat.lt_of_lt_of_le (by omega) sizeLine_ge)]
      bv_omega
      refine ⟨_, rfl, _, _, rfl, by rw [List.length_append, hv]; rfl, fun x hx => ?_⟩
      rcases List.mem_append.mp hx with hx | hx
      · exact hk x hx
      · rw [List.mem_singleton.mp hx]
        show (_ : List D).length ≤ 900000
        simp only [List.length_append, List.length_cons, List.length_nil]
        omega)
    ⟨ds, o6, rfl, rfl, ho⟩
  exact ⟨ds', o, by rw [h1, h2], by omega, by omega, h4, by omega⟩
theorem law_rows_spoilt_ok (ns : List Int) (lo hi c : Int) (hn : ns.length ≤ 100000) : ∃ ds : List D, run Tb N (k + 1) 13 [.tuple (ns.map .int), .int lo, .int hi, .int c] = .ok (.list ds) ∧ ds.length ≤ 30 ∧ ∀ d ∈ ds, okRow d := by
  rw [run_eq (fn := f_law_rows_spoilt) rfl rfl]
  unfold f_law_rows_spoilt
  try simp only [vE_var, vE_int, vE_bl, vE_non, vE_str, vE_cst, vE_bin, vE_cmp, vE_chain, vE_and, vE_or, vE_not, vE_neg, vE_ite, vE_isi, vE_tup, vE_lst, vE_lmul, vE_ix, vE_slice, vE_rev, vE_b1, vE_b2, vE_dm, vE_call, vE_call0, vE_comp, vEs_n, vEs_c, vO_n, vO_s, vC_n, vC_s, vI_1, vI_2, vI_3, vI_s, vI_z, vI_e, zR_l, zR_t, vS_asgT, vS_par, vS_app, vS_setIx, vS_aug, vS_ite, vS_whl, vS_for, vS_ret, vS_retN, vS_expr, vS_pass, aF_n, aF_r, uh_n, uh_c, ag_a, ag_s, cl_n, cl_c, List.getD_cons_zero, List.getD_cons_succ, R.ok_bind, R.exc_bind, R.bad_bind, R.pure_eq, List.length_cons, List.length_nil, List.map_cons, List.map_nil, List.cons_append, List.nil_append, List.replicate_succ, List.replicate_zero, List.set_cons_zero, List.set_cons_succ, Nat.reduceAdd, Nat.reduceSub, Nat.reduceEqDiff, Int.cast_ofNat_Int, Int.reduceEq, Int.reduceLT, Int.reduceLE, Int.reduceAdd, Int.reduceSub, Int.reduceMul, Int.reduceNeg, decide_true, decide_false, Bool.false_and, Bool.true_and, Bool.and_true, Bool.and_false, Bool.or_true, Bool.or_false, Bool.true_or, Bool.false_or, if_true, ite_true, ite_false, Bool.false_eq_true, reduceIte, Bool.not_true, Bool.not_false, asI_i, asB_b, asL_l, asL_t, asLst_l, dIs_int_none, dIs_int_bool, dIs_int_int, dIs_int_str, dIs_int_list, dIs_int_tuple, dIs_int_dict, dIs_bool_none, dIs_bool_bool, dIs_bool_int, dIs_bool_str, dIs_bool_list, dIs_bool_tuple, dIs_bool_dict, dIs_str_none, dIs_str_bool, dIs_str_int, dIs_str_str, dIs_str_list, dIs_str_tuple, dIs_str_dict, dIs_tuple_none, dIs_tuple_bool, dIs_tuple_int, dIs_tuple_str, dIs_tuple_list, dIs_tuple_tuple, dIs_tuple_dict, dIs_list_none, dIs_list_bool, dIs_list_int, dIs_list_str, dIs_list_list, dIs_list_tuple, dIs_list_dict, ad_i, ad_l, ad_t, ad_s, sb_i, mu_i, fd_i, md_i, pw_10_6, pw_10_9, pw_10_12, pw_10_18, pw_10_59, pw_10_60, c_lt, c_le, c_gt, c_ge, c_eq_i, c_ne_i, c_eq_b, c_ne_b, c_isN, c_inN, c_isB, c_inB, c_in, c_ni, b_len_l, b_len_t, b_len_s, b_int_i, b_int_b, b_tup_l, b_tup_t, b_lst_l, b_lst_t, b_abs, b2_max, b2_min, ix_l, ix_t, sl_l, sl_t, rv_l, rv_t, getS_z, getS_s, ne_ok, seq_n, seq_r, evSs_n, evSs_c, outR_r, outR_n, bT_n, bT_t, bTs_n, bTs_c, asS, ints_len]
  rw [if_pos (by omega)]
  bv_omega
  obtain ⟨j, hj⟩ : ∃ j, j = c % ((ns.length : Int) + 1) := ⟨_, rfl⟩
  rw [← hj]
  have c1 := cut_len (ns.map PyData.int) none (some 900)
  have c2 := cut_len (ns.map PyData.int) (some 1) none
  have c3 := cut_len (ns.map PyData.int) none (some (-1))
  have c4 := cut_len (ns.map PyData.int) none (some j)
  have c5 := cut_len (ns.map PyData.int) (some (j + 1)) none
  have c6 := cut_len (ns.map PyData.int) (some j) none
  rw [ints_len] at c1 c2 c3 c4 c5 c6
  rw [if_pos (lt_size (by rw [ints_len]; omega))]
  bv_omega
  rw [mkTup_ok (lt_size (by simp))]
  try simp only [vE_var, vE_int, vE_bl, vE_non, vE_str, vE_cst, vE_bin, vE_cmp, vE_chain, vE_and, vE_or, vE_not, vE_neg, vE_ite, vE_isi, vE_tup, vE_lst, vE_lmul, vE_ix, vE_slice, vE_rev, vE_b1, vE_b2, vE_dm, vE_call, vE_call0, vE_comp, vEs_n, vEs_c, vO_n, vO_s, vC_n, vC_s, vI_1, vI_2, vI_3, vI_s, vI_z, vI_e, zR_l, zR_t, vS_asgT, vS_par, vS_app, vS_setIx, vS_aug, vS_ite, vS_whl, vS_for, vS_ret, vS_retN, vS_expr, vS_pass, aF_n, aF_r, uh_n, uh_c, ag_a, ag_s, cl_n, cl_c, List.getD_cons_zero, List.getD_cons_succ, R.ok_bind, R.exc_bind, R.bad_bind, R.pure_eq, List.length_cons, List.length_nil, List.map_cons, List.map_nil, List.cons_append, List.nil_append, List.replicate_succ, List.replicate_zero, List.set_cons_zero, List.set_cons_succ, Nat.reduceAdd, Nat.reduceSub, Nat.reduceEqDiff, Int.cast_ofNat_Int, Int.reduceEq, Int.reduceLT, Int.reduceLE, Int.reduceAdd, Int.reduceSub, Int.reduceMul, Int.reduceNeg, decide_true, decide_false, Bool.false_and, Bool.true_and, Bool.and_true, Bool.and_false, Bool.or_true, Bool.or_false, Bool.true_or, Bool.false_or, if_true, ite_true, ite_false, Bool.false_eq_true, reduceIte, Bool.not_true, Bool.not_false, asI_i, asB_b, asL_l, asL_t, asLst_l, dIs_int_none, dIs_int_bool, dIs_int_int, dIs_int_str, dIs_int_list, dIs_int_tuple, dIs_int_dict, dIs_bool_none, dIs_bool_bool, dIs_bool_int, dIs_bool_str, dIs_bool_list, dIs_bool_tuple, dIs_bool_dict, dIs_str_none, dIs_str_bool, dIs_str_int, dIs_str_str, dIs_str_list, dIs_str_tuple, dIs_str_dict, dIs_tuple_none, dIs_tuple_bool, dIs_tuple_int, dIs_tuple_str, dIs_tuple_list, dIs_tuple_tuple, dIs_tuple_dict, dIs_list_none, dIs_list_bool, dIs_list_int, dIs_list_str, dIs_list_list, dIs_list_tuple, dIs_list_dict, ad_i, ad_l, ad_t, ad_s, sb_i, mu_i, fd_i, md_i, pw_10_6, pw_10_9, pw_10_12, pw_10_18, pw_10_59, pw_10_60, c_lt, c_le, c_gt, c_ge, c_eq_i, c_ne_i, c_eq_b, c_ne_b, c_isN, c_inN, c_isB, c_inB, c_in, c_ni, b_len_l, b_len_t, b_len_s, b_int_i, b_int_b, b_tup_l, b_tup_t, b_lst_l, b_lst_t, b_abs, b2_max, b2_min, ix_l, ix_t, sl_l, sl_t, rv_l, rv_t, getS_z, getS_s, ne_ok, seq_n, seq_r, evSs_n, evSs_c, outR_r, outR_n, bT_n, bT_t, bTs_n, bTs_c, asS, ints_len]
  rw [if_pos (lt_size (by omega))]
  bv_omega
  rw [mkTup_ok (lt_size (by simp))]
  try simp only [vE_var, vE_int, vE_bl, vE_non, vE_str, vE_cst, vE_bin, vE_cmp, vE_chain, vE_and, vE_or, vE_not, vE_neg, vE_ite, vE_isi, vE_tup, vE_lst, vE_lmul, vE_ix, vE_slice, vE_rev, vE_b1, vE_b2, vE_dm, vE_call, vE_call0, vE_comp, vEs_n, vEs_c, vO_n, vO_s, vC_n, vC_s, vI_1, vI_2, vI_3, vI_s, vI_z, vI_e, zR_l, zR_t, vS_asgT, vS_par, vS_app, vS_setIx, vS_aug, vS_ite, vS_whl, vS_for, vS_ret, vS_retN, vS_expr, vS_pass, aF_n, aF_r, uh_n, uh_c, ag_a, ag_s, cl_n, cl_c, List.getD_cons_zero, List.getD_cons_succ, R.ok_bind, R.exc_bind, R.bad_bind, R.pure_eq, List.length_cons, List.length_nil, List.map_cons, List.map_nil, List.cons_append, List.nil_append, List.replicate_succ, List.replicate_zero, List.set_cons_zero, List.set_cons_succ, Nat.reduceAdd, Nat.reduceSub, Nat.reduceEqDiff, Int.cast_ofNat_Int, Int.reduceEq, Int.reduceLT, Int.reduceLE, Int.reduceAdd, Int.reduceSub, Int.reduceMul, Int.reduceNeg, decide_true, decide_false, Bool.false_and, Bool.true_and, Bool.and_true, Bool.and_false, Bool.or_true, Bool.or_false, Bool.true_or, Bool.false_or, if_true, ite_true, ite_false, Bool.false_eq_true, reduceIte, Bool.not_true, Bool.not_false, asI_i, asB_b, asL_l, asL_t, asLst_l, dIs_int_none, dIs_int_bool, dIs_int_int, dIs_int_str, dIs_int_list, dIs_int_tuple, dIs_int_dict, dIs_bool_none, dIs_bool_bool, dIs_bool_int, dIs_bool_str, dIs_bool_list, dIs_bool_tuple, dIs_bool_dict, dIs_str_none, dIs_str_bool, dIs_str_int, dIs_str_str, dIs_str_list, dIs_str_tuple, dIs_str_dict, dIs_tuple_none, dIs_tuple_bool, dIs_tuple_int, dIs_tuple_str, dIs_tuple_list, dIs_tuple_tuple, dIs_tuple_dict, dIs_list_none, dIs_list_bool, dIs_list_int, dIs_list_str, dIs_list_list, dIs_list_tuple, dIs_list_dict, ad_i, ad_l, ad_t, ad_s, sb_i, mu_i, fd_i, md_i, pw_10_6, pw_10_9, pw_10_12, pw_10_18, pw_10_59, pw_10_60, c_lt, c_le, c_gt, c_ge, c_eq_i, c_ne_i, c_eq_b, c_ne_b, c_isN, c_inN, c_isB, c_inB, c_in, c_ni, b_len_l, b_len_t, b_len_s, b_int_i, b_int_b, b_tup_l, b_tup_t, b_lst_l, b_lst_t, b_abs, b2_max, b2_min, ix_l, ix_t, sl_l, sl_t, rv_l, rv_t, getS_z, getS_s, ne_ok, seq_n, seq_r, evSs_n, evSs_c, outR_r, outR_n, bT_n, bT_t, bTs_n, bTs_c, asS, ints_len]
  rw [if_pos (lt_size (by omega))]
  bv_omega
  rw [mkTup_ok (lt_size (by simp))]
  try simp only [vE_var, vE_int, vE_bl, vE_non, vE_str, vE_cst, vE_bin, vE_cmp, vE_chain, vE_and, vE_or, vE_not, vE_neg, vE_ite, vE_isi, vE_tup, vE_lst, vE_lmul, vE_ix, vE_slice, vE_rev, vE_b1, vE_b2, vE_dm, vE_call, vE_call0, vE_comp, vEs_n, vEs_c, vO_n, vO_s, vC_n, vC_s, vI_1, vI_2, vI_3, vI_s, vI_z, vI_e, zR_l, zR_t, vS_asgT, vS_par, vS_app, vS_setIx, vS_aug, vS_ite, vS_whl, vS_for, vS_ret, vS_retN, vS_expr, vS_pass, aF_n, aF_r, uh_n, uh_c, ag_a, ag_s, cl_n, cl_c, List.getD_cons_zero, List.getD_cons_succ, R.ok_bind, R.exc_bind, R.bad_bind, R.pure_eq, List.length_cons, List.length_nil, List.map_cons, List.map_nil, List.cons_append, List.nil_append, List.replicate_succ, List.replicate_zero, List.set_cons_zero, List.set_cons_succ, Nat.reduceAdd, Nat.reduceSub, Nat.reduceEqDiff, Int.cast_ofNat_Int, Int.reduceEq, Int.reduceLT, Int.reduceLE, Int.reduceAdd, Int.reduceSub, Int.reduceMul, Int.reduceNeg, decide_true, decide_false, Bool.false_and, Bool.true_and, Bool.and_true, Bool.and_false, Bool.or_true, Bool.or_false, Bool.true_or, Bool.false_or, if_true, ite_true, ite_false, Bool.false_eq_true, reduceIte, Bool.not_true, Bool.not_false, asI_i, asB_b, asL_l, asL_t, asLst_l, dIs_int_none, dIs_int_bool, dIs_int_int, dIs_int_str, dIs_int_list, dIs_int_tuple, dIs_int_dict, dIs_bool_none, dIs_bool_bool, dIs_bool_int, dIs_bool_str, dIs_bool_list, dIs_bool_tuple, dIs_bool_dict, dIs_str_none, dIs_str_bool, dIs_str_int, dIs_str_str, dIs_str_list, dIs_str_tuple, dIs_str_dict, dIs_tuple_none, dIs_tuple_bool, dIs_tuple_int, dIs_tuple_str, dIs_tuple_list, dIs_tuple_tuple, dIs_tuple_dict, dIs_list_none, dIs_list_bool, dIs_list_int, dIs_list_str, dIs_list_list, dIs_list_tuple, dIs_list_dict, ad_i, ad_l, ad_t, ad_s, sb_i, mu_i, fd_i, md_i, pw_10_6, pw_10_9, pw_10_12, pw_10_18, pw_10_59, pw_10_60, c_lt, c_le, c_gt, c_ge, c_eq_i, c_ne_i, c_eq_b, c_ne_b, c_isN, c_inN, c_isB, c_inB, c_in, c_ni, b_len_l, b_len_t, b_len_s, b_int_i, b_int_b, b_tup_l, b_tup_t, b_lst_l, b_lst_t, b_abs, b2_max, b2_min, ix_l, ix_t, sl_l, sl_t, rv_l, rv_t, getS_z, getS_s, ne_ok, seq_n, seq_r, evSs_n, evSs_c, outR_r, outR_n, bT_n, bT_t, bTs_n, bTs_c, asS, ints_len]
  rw [if_pos (lt_size (by omega))]
  bv_omega
  rw [mkTup_ok (lt_size (by simp))]
  try simp only [vE_var, vE_int, vE_bl, vE_non, vE_str, vE_cst, vE_bin, vE_cmp, vE_chain, vE_and, vE_or, vE_not, vE_neg, vE_ite, vE_isi, vE_tup, vE_lst, vE_lmul, vE_ix, vE_slice, vE_rev, vE_b1, vE_b2, vE_dm, vE_call, vE_call0, vE_comp, vEs_n, vEs_c, vO_n, vO_s, vC_n, vC_s, vI_1, vI_2, vI_3, vI_s, vI_z, vI_e, zR_l, zR_t, vS_asgT, vS_par, vS_app, vS_setIx, vS_aug, vS_ite, vS_whl, vS_for, vS_ret, vS_retN, vS_expr, vS_pass, aF_n, aF_r, uh_n, uh_c, ag_a, ag_s, cl_n, cl_c, List.getD_cons_zero, List.getD_cons_succ, R.ok_bind, R.exc_bind, R.bad_bind, R.pure_eq, List.length_cons, List.length_nil, List.map_cons, List.map_nil, List.cons_append, List.nil_append, List.replicate_succ, List.replicate_zero, List.set_cons_zero, List.set_cons_succ, Nat.reduceAdd, Nat.reduceSub, Nat.reduceEqDiff, Int.cast_ofNat_Int, Int.reduceEq, Int.reduceLT, Int.reduceLE, Int.reduceAdd, Int.reduceSub, Int.reduceMul, Int.reduceNeg, decide_true, decide_false, Bool.false_and, Bool.true_and, Bool.and_true, Bool.and_false, Bool.or_true, Bool.or_false, Bool.true_or, Bool.false_or, if_true, ite_true, ite_false, Bool.false_eq_true, reduceIte, Bool.not_true, Bool.not_false, asI_i, asB_b, asL_l, asL_t, asLst_l, dIs_int_none, dIs_int_bool, dIs_int_int, dIs_int_str, dIs_int_list, dIs_int_tuple, dIs_int_dict, dIs_bool_none, dIs_bool_bool, dIs_bool_int, dIs_bool_str, dIs_bool_list, dIs_bool_tuple, dIs_bool_dict, dIs_str_none, dIs_str_bool, dIs_str_int, dIs_str_str, dIs_str_list, dIs_str_tuple, dIs_str_dict, dIs_tuple_none, dIs_tuple_bool, dIs_tuple_int, dIs_tuple_str, dIs_tuple_list, dIs_tuple_tuple, dIs_tuple_dict, dIs_list_none, dIs_list_bool, dIs_list_int, dIs_list_str, dIs_list_list, dIs_list_tuple, dIs_list_dict, ad_i, ad_l, ad_t, ad_s, sb_i, mu_i, fd_i, md_i, pw_10_6, pw_10_9, pw_10_12, pw_10_18, pw_10_59, pw_10_60, c_lt, c_le, c_gt, c_ge, c_eq_i, c_ne_i, c_eq_b, c_ne_b, c_isN, c_inN, c_isB, c_inB, c_in, c_ni, b_len_l, b_len_t, b_len_s, b_int_i, b_int_b, b_tup_l, b_tup_t, b_lst_l, b_lst_t, b_abs, b2_max, b2_min, ix_l, ix_t, sl_l, sl_t, rv_l, rv_t, getS_z, getS_s, ne_ok, seq_n, seq_r, evSs_n, evSs_c, outR_r, outR_n, bT_n, bT_t, bTs_n, bTs_c, asS, ints_len]
  rw [if_pos (lt_size (by omega))]
  bv_omega
  rw [sized_ok (lt_size (by simp))]
  bv_omega
  rw [mkTup_ok (lt_size (by simp))]
  try simp only [vE_var, vE_int, vE_bl, vE_non, vE_str, vE_cst, vE_bin, vE_cmp, vE_chain, vE_and, vE_or, vE_not, vE_neg, vE_ite, vE_isi, vE_tup, vE_lst, vE_lmul, vE_ix, vE_slice, vE_rev, vE_b1, vE_b2, vE_dm, vE_call, vE_call0, vE_comp, vEs_n, vEs_c, vO_n, vO_s, vC_n, vC_s, vI_1, vI_2, vI_3, vI_s, vI_z, vI_e, zR_l, zR_t, vS_asgT, vS_par, vS_app, vS_setIx, vS_aug, vS_ite, vS_whl, vS_for, vS_ret, vS_retN, vS_expr, vS_pass, aF_n, aF_r, uh_n, uh_c, ag_a, ag_s, cl_n, cl_c, List.getD_cons_zero, List.getD_cons_succ, R.ok_bind, R.exc_bind, R.bad_bind, R.pure_eq, List.length_cons, List.length_nil, List.map_cons, List.map_nil, List.cons_append, List.nil_append, List.replicate_succ, List.replicate_zero, List.set_cons_zero, List.set_cons_succ, Nat.reduceAdd, Nat.reduceSub, Nat.reduceEqDiff, Int.cast_ofNat_Int, Int.reduceEq, Int.reduceLT, Int.reduceLE, Int.reduceAdd, Int.reduceSub, Int.reduceMul, Int.reduceNeg, decide_true, decide_false, Bool.false_and, Bool.true_and, Bool.and_true, Bool.and_false, Bool.or_true, Bool.or_false, Bool.true_or, Bool.false_or, if_true, ite_true, ite_false, Bool.false_eq_true, reduceIte, Bool.not_true, Bool.not_false, asI_i, asB_b, asL_l, asL_t, asLst_l, dIs_int_none, dIs_int_bool, dIs_int_int, dIs_int_str, dIs_int_list, dIs_int_tuple, dIs_int_dict, dIs_bool_none, dIs_bool_bool, dIs_bool_int, dIs_bool_str, dIs_bool_list, dIs_bool_tuple, dIs_bool_dict, dIs_str_none, dIs_str_bool, dIs_str_int, dIs_str_str, dIs_str_list, dIs_str_tuple, dIs_str_dict, dIs_tuple_none, dIs_tuple_bool, dIs_tuple_int, dIs_tuple_str, dIs_tuple_list, dIs_tuple_tuple, dIs_tuple_dict, dIs_list_none, dIs_list_bool, dIs_list_int, dIs_list_str, dIs_list_list, dIs_list_tuple, dIs_list_dict, ad_i, ad_l, ad_t, ad_s, sb_i, mu_i, fd_i, md_i, pw_10_6, pw_10_9, pw_10_12, pw_10_18, pw_10_59, pw_10_60, c_lt, c_le, c_gt, c_ge, c_eq_i, c_ne_i, c_eq_b, c_ne_b, c_isN, c_inN, c_isB, c_inB, c_in, c_ni, b_len_l, b_len_t, b_len_s, b_int_i, b_int_b, b_tup_l, b_tup_t, b_lst_l, b_lst_t, b_abs, b2_max, b2_min, ix_l, ix_t, sl_l, sl_t, rv_l, rv_t, getS_z, getS_s, ne_ok, seq_n, seq_r, evSs_n, evSs_c, outR_r, outR_n, bT_n, bT_t, bTs_n, bTs_c, asS, ints_len]
  rw [if_pos (lt_size (by omega))]
  bv_omega
  rw [mkTup_ok (lt_size (by simp))]
  bv_omega
  rw [if_pos (lt_size (by omega))]
  bv_omega
  rw [sized_ok (lt_size (by simp))]
  bv_omega
  rw [if_pos (lt_size (by decide))]
  bv_omega
  rw [mkTup_ok (lt_size (by simp))]
  bv_omega
  have hmx : (0 : Int) < if hi - lo > 1 then hi - lo else 1 := by split <;> omega
  rw [if_pos hmx]
  bv_omega
  rw [sized_ok (lt_size (by simp))]
  bv_omega
  have ok1 : ∀ d ∈ [PyData.list (ns.map .int), .tuple (ns.map PyData.int).reverse, .tuple (ns.map .int ++ cut (ns.map .int) none (some 900)), .tuple (ns.map .int ++ [.int hi]), .tuple (ns.map .int ++ [.int (hi - 1)]),
      .tuple (.int (lo - 1) :: ns.map .int), .tuple (.int lo :: ns.map .int), .tuple (ns.map .int ++ [.bool true]), .tuple [.tuple (ns.map .int)], .none, .int 7, .tuple (cut (ns.map .int) (some 1) none), .tuple (cut (ns.map .int) none (some (-1))),
      .tuple (cut (ns.map .int) none (some j) ++ cut (ns.map .int) (some (j + 1)) none)], okRow d := by
    simp only [List.forall_mem_cons, okRow, List.length_append, List.length_reverse, List.length_cons, List.length_nil, ints_len, true_and]
    refine ⟨?_, ?_, ?_, ?_, ?_, ?_, ?_, ?_, ?_, ?_, ?_, fun _ h => nomatch h⟩ <;> omega
  obtain ⟨ds, o6, h1, h2, h3, h4, h5⟩ := rows_loop (ns := ns) (lo := lo) (hi := hi) (c := c) (j := j) (o6 := none) (o7 := none) (Φ := ⟨run Tb N k, N⟩) hn (by simp) ok1
    [.bool true, .str "1", .none, .int lo, .int hi, .int (lo - 1), .tuple [.int lo], .int (lo + c % if hi - lo > 1 then hi - lo else 1)] (by simp)
  unfold envRS at h1
  rw [h1]
  try simp only [vE_var, vE_int, vE_bl, vE_non, vE_str, vE_cst, vE_bin, vE_cmp, vE_chain, vE_and, vE_or, vE_not, vE_neg, vE_ite, vE_isi, vE_tup, vE_lst, vE_lmul, vE_ix, vE_slice, vE_rev, vE_b1, vE_b2, vE_dm, vE_call, vE_call0, vE_comp, vEs_n, vEs_c, vO_n, vO_s, vC_n, vC_s, vI_1, vI_2, vI_3, vI_s, vI_z, vI_e, zR_l, zR_t, vS_asgT, vS_par, vS_app, vS_setIx, vS_aug, vS_ite, vS_whl, vS_for, vS_ret, vS_retN, vS_expr, vS_pass, aF_n, aF_r, uh_n, uh_c, ag_a, ag_s, cl_n, cl_c, List.getD_cons_zero, List.getD_cons_succ, R.ok_bind, R.exc_bind, R.bad_bind, R.pure_eq, List.length_cons, List.length_nil, List.map_cons, List.map_nil, List.cons_append, List.nil_append, List.replicate_succ, List.replicate_zero, List.set_cons_zero, List.set_cons_succ, Nat.reduceAdd, Nat.reduceSub, Nat.reduceEqDiff, Int.cast_ofNat_Int, Int.reduceEq, Int.reduceLT, Int.reduceLE, Int.reduceAdd, Int.reduceSub, Int.reduceMul, Int.reduceNeg, decide_true, decide_false, Bool.false_and, Bool.true_and, Bool.and_true, Bool.and_false, Bool.or_true, Bool.or_false, Bool.true_or, Bool.false_or, if_true, ite_true, ite_false, Bool.false_eq_true, reduceIte, Bool.not_true, Bool.not_false, asI_i, asB_b, asL_l, asL_t, asLst_l, dIs_int_none, dIs_int_bool, dIs_int_int, dIs_int_str, dIs_int_list, dIs_int_tuple, dIs_int_dict, dIs_bool_none, dIs_bool_bool, dIs_bool_int, dIs_bool_str, dIs_bool_list, dIs_bool_tuple, dIs_bool_dict, dIs_str_none, dIs_str_bool, dIs_str_int, dIs_str_str, dIs_str_list, dIs_str_tuple, dIs_str_dict, dIs_tuple_none, dIs_tuple_bool, dIs_tuple_int, dIs_tuple_str, dIs_tuple_list, dIs_tuple_tuple, dIs_tuple_dict, dIs_list_none, dIs_list_bool, dIs_list_int, dIs_list_str, dIs_list_list, dIs_list_tuple, dIs_list_dict, ad_i, ad_l, ad_t, ad_s, sb_i, mu_i, fd_i, md_i, pw_10_6, pw_10_9, pw_10_12, pw_10_18, pw_10_59, pw_10_60, c_lt, c_le, c_gt, c_ge, c_eq_i, c_ne_i, c_eq_b, c_ne_b, c_isN, c_inN, c_isB, c_inB, c_in, c_ni, b_len_l, b_len_t, b_len_s, b_int_i, b_int_b, b_tup_l, b_tup_t, b_lst_l, b_lst_t, b_abs, b2_max, b2_min, ix_l, ix_t, sl_l, sl_t, rv_l, rv_t, getS_z, getS_s, ne_ok, seq_n, seq_r, evSs_n, evSs_c, outR_r, outR_n, bT_n, bT_t, bTs_n, bTs_c, asS, ints_len]
  -- the last item, of a long row only four of the rows
  have fin : ∀ (ds : List D) (o7 : Option D), ds.length ≤ 23 → 1 ≤ ds.length → (∀ d ∈ ds, okRow d) → ∃ ds' : List D, outR (evSs ⟨run Tb N k, N⟩ (.cons (.ite (.cmp .gt (.b1 .len (.var 0)) (.int 400))
      (.cons (.asg 1 5 (.comp [8] (.ix (.var 5) (.bin .mod (.bin .add (.var 3) (.bin .mul (.int 5) (.var 8))) (.b1 .len (.var 5)))) (.name 8) (.rng1 (.int 4)) .none) []) .nil) .nil) (.cons (.ret 0 (.var 5)) .nil))
      [some (.tuple (ns.map .int)), some (.int lo), some (.int hi), some (.int c), some (.int j), some (.list ds), o6, o7, none]) = .ok (.list ds') ∧ ds'.length ≤ 30 ∧ ∀ d ∈ ds', okRow d := by
    intro ds o7 hl1 hl2 hk
    try simp only [vE_var, vE_int, vE_bl, vE_non, vE_str, vE_cst, vE_bin, vE_cmp, vE_chain, vE_and, vE_or, vE_not, vE_neg, vE_ite, vE_isi, vE_tup, vE_lst, vE_lmul, vE_ix, vE_slice, vE_rev, vE_b1, vE_b2, vE_dm, vE_call, vE_call0, vE_comp, vEs_n, vEs_c, vO_n, vO_s, vC_n, vC_s, vI_1, vI_2, vI_3, vI_s, vI_z, vI_e, zR_l, zR_t, vS_asgT, vS_par, vS_app, vS_setIx, vS_aug, vS_ite, vS_whl, vS_for, vS_ret, vS_retN, vS_expr, vS_pass, aF_n, aF_r, uh_n, uh_c, ag_a, ag_s, cl_n, cl_c, List.getD_cons_zero, List.getD_cons_succ, R.ok_bind, R.exc_bind, R.bad_bind, R.pure_eq, List.length_cons, List.length_nil, List.map_cons, List.map_nil, List.cons_append, List.nil_append, List.replicate_succ, List.replicate_zero, List.set_cons_zero, List.set_cons_succ, Nat.reduceAdd, Nat.reduceSub, Nat.reduceEqDiff, Int.cast_ofNat_Int, Int.reduceEq, Int.reduceLT, Int.reduceLE, Int.reduceAdd, Int.reduceSub, Int.reduceMul, Int.reduceNeg, decide_true, decide_false, Bool.false_and, Bool.true_and, Bool.and_true, Bool.and_false, Bool.or_true, Bool.or_false, Bool.true_or, Bool.false_or, if_true, ite_true, ite_false, Bool.false_eq_true, reduceIte, Bool.not_true, Bool.not_false, asI_i, asB_b, asL_l, asL_t, asLst_l, dIs_int_none, dIs_int_bool, dIs_int_int, dIs_int_str, dIs_int_list, dIs_int_tuple, dIs_int_dict, dIs_bool_none, dIs_bool_bool, dIs_bool_int, dIs_bool_str, dIs_bool_list, dIs_bool_tuple, dIs_bool_dict, dIs_str_none, dIs_str_bool, dIs_str_int, dIs_str_str, dIs_str_list, dIs_str_tuple, dIs_str_dict, dIs_tuple_none, dIs_tuple_bool, dIs_tuple_int, dIs_tuple_str, dIs_tuple_list, dIs_tuple_tuple, dIs_tuple_dict, dIs_list_none, dIs_list_bool, dIs_list_int, dIs_list_str, dIs_list_list, dIs_list_tuple, dIs_list_dict, ad_i, ad_l, ad_t, ad_s, sb_i, mu_i, fd_i, md_i, pw_10_6, pw_10_9, pw_10_12, pw_10_18, pw_10_59, pw_10_60, c_lt, c_le, c_gt, c_ge, c_eq_i, c_ne_i, c_eq_b, c_ne_b, c_isN, c_inN, c_isB, c_inB, c_in, c_ni, b_len_l, b_len_t, b_len_s, b_int_i, b_int_b, b_tup_l, b_tup_t, b_lst_l, b_lst_t, b_abs, b2_max, b2_min, ix_l, ix_t, sl_l, sl_t, rv_l, rv_t, getS_z, getS_s, ne_ok, seq_n, seq_r, evSs_n, evSs_c, outR_r, outR_n, bT_n, bT_t, bTs_n, bTs_c, asS, ints_len]
    by_cases h400 : (400 : Int) < ns.length
    · simp only [h400, decide_true, if_true]
      bv_omega
      rw [if_pos (by decide)]
      bv_omega
      rw [compL_map (g := fun d => (ds[((c + 5 * (match d with | .int x => x | _ => 0)) % (ds.length : Int)).toNat]?).getD .none)]
      · bv_omega
        rw [sized_ok (lt_size (by rw [List.length_map, rng_length]; decide))]
        bv_omega
        refine ⟨_, rfl, by rw [List.length_map, rng_length]; decide, fun d hd => ?_⟩
        obtain ⟨x, _, rfl⟩ := List.mem_map.mp hd
        exact okRow_getD hk _
      · intro d hd
        obtain ⟨i, hi2⟩ := List.getElem?_of_mem hd
        obtain ⟨h3, rfl⟩ := rng_at hi2
        rw [turnC_eq]
        bv_omega
        rw [mulOk_l (by omega)]
        bv_omega
        rw [if_pos (by omega)]
        bv_omega
        have h4 : 0 ≤ (c + 5 * (0 + (i : Int) * 1)) % (ds.length : Int) ∧ (c + 5 * (0 + (i : Int) * 1)) % (ds.length : Int) < ds.length := ⟨Int.emod_nonneg _ (by omega), Int.emod_lt_of_pos _ (by omega)⟩
        have h5 : ((c + 5 * (0 + (i : Int) * 1)) % (ds.length : Int)).toNat < ds.length := by omega
        have e : L2.atI ds ((c + 5 * (0 + (i : Int) * 1)) % (ds.length : Int)) = some ds[((c + 5 * (0 + (i : Int) * 1)) % (ds.length : Int)).toNat] := by
          have := L2.atI_nat (List.getElem?_eq_getElem h5)
          rw [Int.toNat_of_nonneg h4.1] at this
          exact this
        rw [e]
        try simp only [vE_var, vE_int, vE_bl, vE_non, vE_str, vE_cst, vE_bin, vE_cmp, vE_chain, vE_and, vE_or, vE_not, vE_neg, vE_ite, vE_isi, vE_tup, vE_lst, vE_lmul, vE_ix, vE_slice, vE_rev, vE_b1, vE_b2, vE_dm, vE_call, vE_call0, vE_comp, vEs_n, vEs_c, vO_n, vO_s, vC_n, vC_s, vI_1, vI_2, vI_3, vI_s, vI_z, vI_e, zR_l, zR_t, vS_asgT, vS_par, vS_app, vS_setIx, vS_aug, vS_ite, vS_whl, vS_for, vS_ret, vS_retN, vS_expr, vS_pass, aF_n, aF_r, uh_n, uh_c, ag_a, ag_s, cl_n, cl_c, List.getD_cons_zero, List.getD_cons_succ, R.ok_bind, R.exc_bind, R.bad_bind, R.pure_eq, List.length_cons, List.length_nil, List.map_cons, List.map_nil, List.cons_append, List.nil_append, List.replicate_succ, List.replicate_zero, List.set_cons_zero, List.set_cons_succ, Nat.reduceAdd, Nat.reduceSub, Nat.reduceEqDiff, Int.cast_ofNat_Int, Int.reduceEq, Int.reduceLT, Int.reduceLE, Int.reduceAdd, Int.reduceSub, Int.reduceMul, Int.reduceNeg, decide_true, decide_false, Bool.false_and, Bool.true_and, Bool.and_true, Bool.and_false, Bool.or_true, Bool.or_false, Bool.true_or, Bool.false_or, if_true, ite_true, ite_false, Bool.false_eq_true, reduceIte, Bool.not_true, Bool.not_false, asI_i, asB_b, asL_l, asL_t, asLst_l, dIs_int_none, dIs_int_bool, dIs_int_int, dIs_int_str, dIs_int_list, dIs_int_tuple, dIs_int_dict, dIs_bool_none, dIs_bool_bool, dIs_bool_int, dIs_bool_str, dIs_bool_list, dIs_bool_tuple, dIs_bool_dict, dIs_str_none, dIs_str_bool, dIs_str_int, dIs_str_str, dIs_str_list, dIs_str_tuple, dIs_str_dict, dIs_tuple_none, dIs_tuple_bool, dIs_tuple_int, dIs_tuple_str, dIs_tuple_list, dIs_tuple_tuple, dIs_tuple_dict, dIs_list_none, dIs_list_bool, dIs_list_int, dIs_list_str, dIs_list_list, dIs_list_tuple, dIs_list_dict, ad_i, ad_l, ad_t, ad_s, sb_i, mu_i, fd_i, md_i, pw_10_6, pw_10_9, pw_10_12, pw_10_18, pw_10_59, pw_10_60, c_lt, c_le, c_gt, c_ge, c_eq_i, c_ne_i, c_eq_b, c_ne_b, c_isN, c_inN, c_isB, c_inB, c_in, c_ni, b_len_l, b_len_t, b_len_s, b_int_i, b_int_b, b_tup_l, b_tup_t, b_lst_l, b_lst_t, b_abs, b2_max, b2_min, ix_l, ix_t, sl_l, sl_t, rv_l, rv_t, getS_z, getS_s, ne_ok, seq_n, seq_r, evSs_n, evSs_c, outR_r, outR_n, bT_n, bT_t, bTs_n, bTs_c, asS, ofO_s]
        rw [List.getElem?_eq_getElem h5]
        rfl
    · simp only [h400, decide_false]
      bv_omega
      exact ⟨ds, rfl, by omega, hk⟩
  by_cases h0 : (0 : Int) < ns.length
  · simp only [h0, decide_true, if_true]
    try simp only [vE_var, vE_int, vE_bl, vE_non, vE_str, vE_cst, vE_bin, vE_cmp, vE_chain, vE_and, vE_or, vE_not, vE_neg, vE_ite, vE_isi, vE_tup, vE_lst, vE_lmul, vE_ix, vE_slice, vE_rev, vE_b1, vE_b2, vE_dm, vE_call, vE_call0, vE_comp, vEs_n, vEs_c, vO_n, vO_s, vC_n, vC_s, vI_1, vI_2, vI_3, vI_s, vI_z, vI_e, zR_l, zR_t, vS_asgT, vS_par, vS_app, vS_setIx, vS_aug, vS_ite, vS_whl, vS_for, vS_ret, vS_retN, vS_expr, vS_pass, aF_n, aF_r, uh_n, uh_c, ag_a, ag_s, cl_n, cl_c, List.getD_cons_zero, List.getD_cons_succ, R.ok_bind, R.exc_bind, R.bad_bind, R.pure_eq, List.length_cons, List.length_nil, List.map_cons, List.map_nil, List.cons_append, List.nil_append, List.replicate_succ, List.replicate_zero, List.set_cons_zero, List.set_cons_succ, Nat.reduceAdd, Nat.reduceSub, Nat.reduceEqDiff, Int.cast_ofNat_Int, Int.reduceEq, Int.reduceLT, Int.reduceLE, Int.reduceAdd, Int.reduceSub, Int.reduceMul, Int.reduceNeg, decide_true, decide_false, Bool.false_and, Bool.true_and, Bool.and_true, Bool.and_false, Bool.or_true, Bool.or_false, Bool.true_or, Bool.false_or, if_true, ite_true, ite_false, Bool.false_eq_true, reduceIte, Bool.not_true, Bool.not_false, asI_i, asB_b, asL_l, asL_t, asLst_l, dIs_int_none, dIs_int_bool, dIs_int_int, dIs_int_str, dIs_int_list, dIs_int_tuple, dIs_int_dict, dIs_bool_none, dIs_bool_bool, dIs_bool_int, dIs_bool_str, dIs_bool_list, dIs_bool_tuple, dIs_bool_dict, dIs_str_none, dIs_str_bool, dIs_str_int, dIs_str_str, dIs_str_list, dIs_str_tuple, dIs_str_dict, dIs_tuple_none, dIs_tuple_bool, dIs_tuple_int, dIs_tuple_str, dIs_tuple_list, dIs_tuple_tuple, dIs_tuple_dict, dIs_list_none, dIs_list_bool, dIs_list_int, dIs_list_str, dIs_list_list, dIs_list_tuple, dIs_list_dict, ad_i, ad_l, ad_t, ad_s, sb_i, mu_i, fd_i, md_i, pw_10_6, pw_10_9, pw_10_12, pw_10_18, pw_10_59, pw_10_60, c_lt, c_le, c_gt, c_ge, c_eq_i, c_ne_i, c_eq_b, c_ne_b, c_isN, c_inN, c_isB, c_inB, c_in, c_ni, b_len_l, b_len_t, b_len_s, b_int_i, b_int_b, b_tup_l, b_tup_t, b_lst_l, b_lst_t, b_abs, b2_max, b2_min, ix_l, ix_t, sl_l, sl_t, rv_l, rv_t, getS_z, getS_s, ne_ok, seq_n, seq_r, evSs_n, evSs_c, outR_r, outR_n, bT_n, bT_t, bTs_n, bTs_c, asS, ints_len]
    have h6 : 0 ≤ c % (ns.length : Int) ∧ c % (ns.length : Int) < ns.length := ⟨Int.emod_nonneg _ (by omega), Int.emod_lt_of_pos _ h0⟩
    have h7 : (c % (ns.length : Int)).toNat < ns.length := by omega
    have e : L2.atI (ns.map PyData.int) (c % (ns.length : Int)) = some (.int ns[(c % (ns.length : Int)).toNat]) := by
      have := atI_map h7
      rw [Int.toNat_of_nonneg h6.1] at this
      exact this
    rw [e]
    try simp only [vE_var, vE_int, vE_bl, vE_non, vE_str, vE_cst, vE_bin, vE_cmp, vE_chain, vE_and, vE_or, vE_not, vE_neg, vE_ite, vE_isi, vE_tup, vE_lst, vE_lmul, vE_ix, vE_slice, vE_rev, vE_b1, vE_b2, vE_dm, vE_call, vE_call0, vE_comp, vEs_n, vEs_c, vO_n, vO_s, vC_n, vC_s, vI_1, vI_2, vI_3, vI_s, vI_z, vI_e, zR_l, zR_t, vS_asgT, vS_par, vS_app, vS_setIx, vS_aug, vS_ite, vS_whl, vS_for, vS_ret, vS_retN, vS_expr, vS_pass, aF_n, aF_r, uh_n, uh_c, ag_a, ag_s, cl_n, cl_c, List.getD_cons_zero, List.getD_cons_succ, R.ok_bind, R.exc_bind, R.bad_bind, R.pure_eq, List.length_cons, List.length_nil, List.map_cons, List.map_nil, List.cons_append, List.nil_append, List.replicate_succ, List.replicate_zero, List.set_cons_zero, List.set_cons_succ, Nat.reduceAdd, Nat.reduceSub, Nat.reduceEqDiff, Int.cast_ofNat_Int, Int.reduceEq, Int.reduceLT, Int.reduceLE, Int.reduceAdd, Int.reduceSub, Int.reduceMul, Int.reduceNeg, decide_true, decide_false, Bool.false_and, Bool.true_and, Bool.and_true, Bool.and_false, Bool.or_true, Bool.or_false, Bool.true_or, Bool.false_or, if_true, ite_true, ite_false, Bool.false_eq_true, reduceIte, Bool.not_true, Bool.not_false, asI_i, asB_b, asL_l, asL_t, asLst_l, dIs_int_none, dIs_int_bool, dIs_int_int, dIs_int_str, dIs_int_list, dIs_int_tuple, dIs_int_dict, dIs_bool_none, dIs_bool_bool, dIs_bool_int, dIs_bool_str, dIs_bool_list, dIs_bool_tuple, dIs_bool_dict, dIs_str_none, dIs_str_bool, dIs_str_int, dIs_str_str, dIs_str_list, dIs_str_tuple, dIs_str_dict, dIs_tuple_none, dIs_tuple_bool, dIs_tuple_int, dIs_tuple_str, dIs_tuple_list, dIs_tuple_tuple, dIs_tuple_dict, dIs_list_none, dIs_list_bool, dIs_list_int, dIs_list_str, dIs_list_list, dIs_list_tuple, dIs_list_dict, ad_i, ad_l, ad_t, ad_s, sb_i, mu_i, fd_i, md_i, pw_10_6, pw_10_9, pw_10_12, pw_10_18, pw_10_59, pw_10_60, c_lt, c_le, c_gt, c_ge, c_eq_i, c_ne_i, c_eq_b, c_ne_b, c_isN, c_inN, c_isB, c_inB, c_in, c_ni, b_len_l, b_len_t, b_len_s, b_int_i, b_int_b, b_tup_l, b_tup_t, b_lst_l, b_lst_t, b_abs, b2_max, b2_min, ix_l, ix_t, sl_l, sl_t, rv_l, rv_t, getS_z, getS_s, ne_ok, seq_n, seq_r, evSs_n, evSs_c, outR_r, outR_n, bT_n, bT_t, bTs_n, bTs_c, asS, ofO_s]
    rw [mkTup_ok (lt_size (by simp))]
    bv_omega
    rw [if_pos (lt_size (by (try simp only [List.length_cons, List.length_nil]); omega))]
    bv_omega
    rw [if_pos (lt_size (by (try simp only [List.length_append, List.length_cons, List.length_nil]); omega))]
    bv_omega
    rw [sizedApp_ok (Nat.lt_of_lt_of_le (by omega) sizeLine_ge)]
    bv_omega
    refine fin _ _ (by rw [List.length_append]; simp only [List.length_cons, List.length_nil]; omega) (by rw [List.length_append]; simp only [List.length_cons, List.length_nil]; omega) fun x hx => ?_
    rcases List.mem_append.mp hx with hx | hx
    · exact h4 x hx
    · rw [List.mem_singleton.mp hx]
      show (_ : List D).length ≤ 900000
      simp only [List.length_append, List.length_cons, List.length_nil]
      omega
  · simp only [h0, decide_false]
    bv_omega
    have hl14 : 14 ≤ ds.length := h5
    exact fin ds none (by omega) (by omega) h4
end Ev
set_option Elab.async false
set_option linter.all false
set_option maxRecDepth 100000
set_option maxHeartbeats 4000000
namespace Ev
open PySem
local macro_rules | `(tactic| bv_omega) => `(tactic| try simp only [vE_var, vE_int, vE_bl, vE_non, vE_str, vE_cst, vE_bin, vE_cmp, vE_chain, vE_and, vE_or, vE_not, vE_neg, vE_ite, vE_isi, vE_tup, vE_lst, vE_lmul, vE_ix, vE_slice, vE_rev, vE_b1, vE_b2, vE_dm, vE_call, vE_call0, vE_comp, vEs_n, vEs_c, vO_n, vO_s, vC_n, vC_s, vI_1, vI_2, vI_3, vI_s, vI_z, vI_e, zR_l, zR_t, vS_asgT, vS_par, vS_app, vS_setIx, vS_aug, vS_ite, vS_whl, vS_for, vS_ret, vS_retN, vS_expr, vS_pass, aF_n, aF_r, uh_n, uh_c, ag_a, ag_s, cl_n, cl_c, List.getD_cons_zero, List.getD_cons_succ, R.ok_bind, R.exc_bind, R.bad_bind, R.pure_eq, List.length_cons, List.length_nil, List.map_cons, List.map_nil, List.cons_append, List.nil_append, List.replicate_succ, List.replicate_zero, List.set_cons_zero, List.set_cons_succ, Nat.reduceAdd, Nat.reduceSub, Nat.reduceEqDiff, Int.cast_ofNat_Int, Int.reduceEq, Int.reduceLT, Int.reduceLE, Int.reduceAdd, Int.reduceSub, Int.reduceMul, Int.reduceNeg, decide_true, decide_false, Bool.false_and, Bool.true_and, Bool.and_true, Bool.and_false, Bool.or_true, Bool.or_false, Bool.true_or, Bool.false_or, if_true, ite_true, ite_false, Bool.false_eq_true, reduceIte, Bool.not_true, Bool.not_false, asI_i, asB_b, asL_l, asL_t, asLst_l, dIs_int_none, dIs_int_bool, dIs_int_int, dIs_int_str, dIs_int_list, dIs_int_tuple, dIs_int_dict, dIs_bool_none, dIs_bool_bool, dIs_bool_int, dIs_bool_str, dIs_bool_list, dIs_bool_tuple, dIs_bool_dict, dIs_str_none, dIs_str_bool, dIs_str_int, dIs_str_str, dIs_str_list, dIs_str_tuple, dIs_str_dict, dIs_tuple_none, dIs_tuple_bool, dIs_tuple_int, dIs_tuple_str, dIs_tuple_list, dIs_tuple_tuple, dIs_tuple_dict, dIs_list_none, dIs_list_bool, dIs_list_int, dIs_list_str, dIs_list_list, dIs_list_tuple, dIs_list_dict, ad_i, ad_l, ad_t, ad_s, sb_i, mu_i, fd_i, md_i, pw_10_6, pw_10_9, pw_10_12, pw_10_18, pw_10_59, pw_10_60, c_lt, c_le, c_gt, c_ge, c_eq_i, c_ne_i, c_eq_b, c_ne_b, c_isN, c_inN, c_isB, c_inB, c_in, c_ni, b_len_l, b_len_t, b_len_s, b_int_i, b_int_b, b_tup_l, b_tup_t, b_lst_l, b_lst_t, b_abs, b2_max, b2_min, ix_l, ix_t, sl_l, sl_t, rv_l, rv_t, getS_z, getS_s, ne_ok, seq_n, seq_r, evSs_n, evSs_c, outR_r, outR_n, bT_n, bT_t, bTs_n, bTs_c, asS])
variable {N k : Nat}
/-- of what is asked: a tuple's rows within sizes -/
def okTh : D → Prop
  | .tuple l => ∀ x ∈ l, okRow x
  | _ => True
theorem okTh.sz {d : D} (h : okTh d) : szSt d := fun l e x hx => by subst e; exact (h x hx).sz
abbrev envSp (st : D) (c : Int) (b s o a : D) (ds : List D) (o7 : Option D) : Env := [some st, some (.int c), some b, some s, some o, some a, some (.list ds), o7]
section
variable {Φ : Cfg} {st : D} {c : Int} {b s o a : D} {ds : List D} {o7 : Option D}
/-- a loop that appends one thing for each item -/
theorem app_loop {body : Ss} {mk : D → D} (hstep : ∀ (ds : List D) (o7 : Option D) (d : D), ds.length < 900000 → evSs Φ body (envSp st c b s o a ds (some d)) = .ok (.next (envSp st c b s o a (ds ++ [mk d]) (some d))))
    (items : List D) (hi : items.length ≤ 1000) (hd : ds.length ≤ 10000) (hk : ∀ d ∈ ds, okTh d) (hm : ∀ d ∈ items, okTh (mk d)) :
    ∃ ds' o7', forL (stepF Φ (.name 7) body) items (envSp st c b s o a ds o7) = .ok (.next (envSp st c b s o a ds' o7')) ∧ ds'.length = ds.length + items.length ∧ ∀ d ∈ ds', okTh d := by
  obtain ⟨e', h1, ds', o, h2, h3, h4⟩ := forL_lst (f := stepF Φ (.name 7) body) (l := items) (e := envSp st c b s o a ds o7)
    (Inv := fun i e => ∃ (ds' : List D) (o7 : Option D), e = envSp st c b s o a ds' o7 ∧ ds'.length = ds.length + i ∧ ∀ d ∈ ds', okTh d)
    (fun i d e hi2 ⟨ds', o, he, hv, hk'⟩ => by
      subst he
      have hlt := (List.getElem?_eq_some_iff.mp hi2).1
      rw [stepF_eq, bT_n, R.ok_bind]
      refine ⟨_, hstep ds' o d (by omega), _, _, rfl, by rw [List.length_append, hv]; rfl, fun x hx => ?_⟩
      rcases List.mem_append.mp hx with hx | hx
      · exact hk' x hx
      · rw [List.mem_singleton.mp hx]
        exact hm d (List.mem_of_getElem? hi2))
    ⟨ds, o7, rfl, rfl, hk⟩
  exact ⟨ds', o, by rw [h1, h2], h3, h4⟩
theorem okTh4 {x y z w : D} (h1 : okRow x) (h2 : okRow y) (h3 : okRow z) (h4 : okRow w) : okTh (.tuple [x, y, z, w]) := by
  intro d hd
  simp only [List.mem_cons, List.not_mem_nil, or_false] at hd
  rcases hd with rfl | rfl | rfl | rfl <;> assumption
end
theorem law_spoilt_ok (b s : Nat) (os as : List Int) (c : Int) (ho : os.length ≤ 100000) (ha : as.length ≤ 100000) :
    ∃ ds : List D, run Tb N (k + 2) 14 [.tuple [.int b, .int s, .tuple (os.map .int), .tuple (as.map .int)], .int c] = .ok (.list ds) ∧ ds.length ≤ 200 ∧ ∀ d ∈ ds, okTh d := by
  rw [run_eq (fn := f_law_spoilt) rfl rfl]
  unfold f_law_spoilt
  have r1 : okRow (.tuple (os.map .int)) := by show (_ : List D).length ≤ 900000; rw [ints_len]; omega
  have r2 : okRow (.tuple (as.map .int)) := by show (_ : List D).length ≤ 900000; rw [ints_len]; omega
  obtain ⟨st, hst⟩ : ∃ st, st = PyData.tuple [.int b, .int s, .tuple (os.map .int), .tuple (as.map .int)] := ⟨_, rfl⟩
  bv_omega
  rw [mkTup_ok (lt_size (by simp))]
  bv_omega
  rw [if_pos (lt_size (by simp))]
  bv_omega
  rw [mkTup_ok (lt_size (by simp))]
  bv_omega
  rw [sized_ok (lt_size (by simp))]
  bv_omega
  rw [mkTup_ok (lt_size (by simp))]
  bv_omega
  rw [mkTup_ok (lt_size (by simp))]
  bv_omega
  rw [sized_ok (lt_size (by simp))]
  bv_omega
  rw [if_pos (lt_size (by decide))]
  bv_omega
  rw [mkTup_ok (lt_size (by simp))]
  bv_omega
  rw [sized_ok (lt_size (by simp))]
  bv_omega
  have cm : ∀ (lo hi : Option Int), ∀ x ∈ cut [PyData.int b, .int s, .tuple (os.map .int), .tuple (as.map .int)] lo hi, okRow x := fun lo hi x hx => by
    unfold cut at hx
    have hx := List.mem_of_mem_drop (List.mem_of_mem_take hx)
    simp only [List.mem_cons, List.not_mem_nil, or_false] at hx
    rcases hx with rfl | rfl | rfl | rfl
    · exact True.intro
    · exact True.intro
    · exact r1
    · exact r2
  have k0 : ∀ d ∈ [PyData.list [.int b, .int s, .tuple (os.map .int), .tuple (as.map .int)], .tuple (cut [.int b, .int s, .tuple (os.map .int), .tuple (as.map .int)] none (some 3)),
      .tuple [.int b, .int s, .tuple (os.map .int), .tuple (as.map .int), .int 0], .tuple (cut [.int b, .int s, .tuple (os.map .int), .tuple (as.map .int)] (some 1) none),
      .tuple [.tuple [.int b, .int s, .tuple (os.map .int), .tuple (as.map .int)]], .tuple [.int b, .int s, .tuple (as.map .int), .tuple (os.map .int)], .tuple [.int s, .int b, .tuple (os.map .int), .tuple (as.map .int)]], okTh d := by
    intro d hd
    simp only [List.mem_cons, List.not_mem_nil, or_false] at hd
    rcases hd with rfl | rfl | rfl | rfl | rfl | rfl | rfl
    · exact True.intro
    · exact cm _ _
    · intro x hx
      simp only [List.mem_cons, List.not_mem_nil, or_false] at hx
      rcases hx with rfl | rfl | rfl | rfl | rfl
      · exact True.intro
      · exact True.intro
      · exact r1
      · exact r2
      · exact True.intro
    · exact cm _ _
    · intro x hx
      rw [List.mem_singleton.mp hx]
      show (_ : List D).length ≤ 900000
      simp
    · exact okTh4 True.intro True.intro r2 r1
    · exact okTh4 True.intro True.intro r1 r2
  have st1 : ∀ (ds : List D) (o7 : Option D) (d : D), ds.length < 900000 → evSs ⟨run Tb N (k + 1), N⟩ f_law_spoilt_b1 (envSp (.tuple [.int b, .int s, .tuple (os.map .int), .tuple (as.map .int)]) c (.int b) (.int s) (.tuple (os.map .int)) (.tuple (as.map .int)) ds (some d)) =
      .ok (.next (envSp (.tuple [.int b, .int s, .tuple (os.map .int), .tuple (as.map .int)]) c (.int b) (.int s) (.tuple (os.map .int)) (.tuple (as.map .int)) (ds ++ [.tuple [d, .int s, .tuple (os.map .int), .tuple (as.map .int)]]) (some d))) := fun ds o7 d hl => by
    unfold f_law_spoilt_b1 envSp
    bv_omega
    rw [mkTup_ok (lt_size (by simp))]
    bv_omega
    rw [sizedApp_ok (Nat.lt_of_lt_of_le (by omega) sizeLine_ge)]
    bv_omega
  have st2 : ∀ (ds : List D) (o7 : Option D) (d : D), ds.length < 900000 → evSs ⟨run Tb N (k + 1), N⟩ f_law_spoilt_b2 (envSp (.tuple [.int b, .int s, .tuple (os.map .int), .tuple (as.map .int)]) c (.int b) (.int s) (.tuple (os.map .int)) (.tuple (as.map .int)) ds (some d)) =
      .ok (.next (envSp (.tuple [.int b, .int s, .tuple (os.map .int), .tuple (as.map .int)]) c (.int b) (.int s) (.tuple (os.map .int)) (.tuple (as.map .int)) (ds ++ [.tuple [.int b, d, .tuple (os.map .int), .tuple (as.map .int)]]) (some d))) := fun ds o7 d hl => by
    unfold f_law_spoilt_b2 envSp
    bv_omega
    rw [mkTup_ok (lt_size (by simp))]
    bv_omega
    rw [sizedApp_ok (Nat.lt_of_lt_of_le (by omega) sizeLine_ge)]
    bv_omega
  have st3 : ∀ (ds : List D) (o7 : Option D) (d : D), ds.length < 900000 → evSs ⟨run Tb N (k + 1), N⟩ f_law_spoilt_b3 (envSp (.tuple [.int b, .int s, .tuple (os.map .int), .tuple (as.map .int)]) c (.int b) (.int s) (.tuple (os.map .int)) (.tuple (as.map .int)) ds (some d)) =
      .ok (.next (envSp (.tuple [.int b, .int s, .tuple (os.map .int), .tuple (as.map .int)]) c (.int b) (.int s) (.tuple (os.map .int)) (.tuple (as.map .int)) (ds ++ [.tuple [.int b, .int s, d, .tuple (as.map .int)]]) (some d))) := fun ds o7 d hl => by
    unfold f_law_spoilt_b3 envSp
    bv_omega
    rw [mkTup_ok (lt_size (by simp))]
    bv_omega
    rw [sizedApp_ok (Nat.lt_of_lt_of_le (by omega) sizeLine_ge)]
    bv_omega
  have st4 : ∀ (ds : List D) (o7 : Option D) (d : D), ds.length < 900000 → evSs ⟨run Tb N (k + 1), N⟩ f_law_spoilt_b4 (envSp (.tuple [.int b, .int s, .tuple (os.map .int), .tuple (as.map .int)]) c (.int b) (.int s) (.tuple (os.map .int)) (.tuple (as.map .int)) ds (some d)) =
      .ok (.next (envSp (.tuple [.int b, .int s, .tuple (os.map .int), .tuple (as.map .int)]) c (.int b) (.int s) (.tuple (os.map .int)) (.tuple (as.map .int)) (ds ++ [.tuple [.int b, .int s, .tuple (os.map .int), d]]) (some d))) := fun ds o7 d hl => by
    unfold f_law_spoilt_b4 envSp
    bv_omega
    rw [mkTup_ok (lt_size (by simp))]
    bv_omega
    rw [sizedApp_ok (Nat.lt_of_lt_of_le (by omega) sizeLine_ge)]
    bv_omega
  obtain ⟨d1, o1, h1, l1, k1⟩ := app_loop (o7 := none) st1 [.int (-1), .int ((b : Int) + 1), .int ((b : Int) - 1), .bool true, .str "0", .none, .int 100000000000000000000000000000000000000000000000000000000000, .tuple [.int b]] (by simp)
    (by simp) k0 (fun d hd => okTh4 (by
      simp only [List.mem_cons, List.not_mem_nil, or_false] at hd
      rcases hd with rfl | rfl | rfl | rfl | rfl | rfl | rfl | rfl <;> first | exact True.intro | (show (_ : List D).length ≤ 900000; simp)) True.intro r1 r2)
  unfold envSp at h1
  rw [h1]
  bv_omega
  rw [mkTup_ok (lt_size (by simp))]
  bv_omega
  rw [sized_ok (lt_size (by simp))]
  bv_omega
  simp only [List.length_cons, List.length_nil] at l1
  obtain ⟨d2, o2, h2, l2, k2⟩ := app_loop (o7 := o1) (ds := d1) st2 [.int 0, .int (-1), .int ((s : Int) + 1), .int ((s : Int) - 1), .bool true, .str "1", .none, .int 100000000000000000000000000000000000000000000000000000000000, .tuple [.int s]] (by simp)
    (by omega) k1 (fun d hd => okTh4 True.intro (by
      simp only [List.mem_cons, List.not_mem_nil, or_false] at hd
      rcases hd with rfl | rfl | rfl | rfl | rfl | rfl | rfl | rfl | rfl <;> first | exact True.intro | (show (_ : List D).length ≤ 900000; simp)) r1 r2)
  unfold envSp at h2
  rw [h2]
  bv_omega
  simp only [List.length_cons, List.length_nil] at l2
  obtain ⟨w1, g1, m1, p1⟩ := law_rows_spoilt_ok (N := N) (k := k) os 0 (b : Int) c ho
  rw [g1]
  bv_omega
  obtain ⟨d3, o3, h3, l3, k3⟩ := app_loop (o7 := o2) (ds := d2) st3 w1 (by omega) (by omega) k2 (fun d hd => okTh4 True.intro True.intro (p1 d hd) r2)
  unfold envSp at h3
  rw [h3]
  bv_omega
  obtain ⟨w2, g2, m2, p2⟩ := law_rows_spoilt_ok (N := N) (k := k) as (b : Int) ((b : Int) + (s : Int)) c ha
  rw [g2]
  bv_omega
  obtain ⟨d4, o4, h4, l4, k4⟩ := app_loop (o7 := o3) (ds := d3) st4 w2 (by omega) (by omega) k3 (fun d hd => okTh4 True.intro True.intro r1 (p2 d hd))
  unfold envSp at h4
  rw [h4]
  bv_omega
  exact ⟨d4, rfl, by omega, k4⟩
end Ev
set_option Elab.async false
set_option linter.all false
set_option maxRecDepth 100000
/-! == on plain data -/
namespace Ev
open PySem
/-- at most n deep, of what has an order of its own -/
def shN : Nat → D → Bool
  | _, .none => true
  | _, .bool _ => true
  | _, .int _ => true
  | n + 1, .list l => l.all (shN n)
  | n + 1, .tuple l => l.all (shN n)
  | _, _ => false
theorem layAll : ∀ {l : List D}, (∀ d ∈ l, d.canLay0 = true) → PyData.canLayAll0 l = true
  | [], _ => by rw [PyData.canLayAll0]
  | d :: l, h => by rw [PyData.canLayAll0, h d List.mem_cons_self, layAll fun x hx => h x (List.mem_cons_of_mem _ hx)]; rfl
theorem depAll {n : Nat} : ∀ {l : List D}, (∀ d ∈ l, d.depth ≤ n) → PyData.depthAll l ≤ n
  | [], _ => by rw [PyData.depthAll]; exact Nat.zero_le _
  | d :: l, h => by
    rw [PyData.depthAll]
    have h1 := h d List.mem_cons_self
    have h2 := depAll fun x hx => h x (List.mem_cons_of_mem _ hx)
    omega
theorem shN_ok : ∀ (n : Nat) (d : D), shN n d = true → d.canLay0 = true ∧ d.depth ≤ n
  | _, .none, _ => ⟨by rw [PyData.canLay0], by rw [PyData.depth]; exact Nat.zero_le _⟩
  | _, .bool _, _ => ⟨by rw [PyData.canLay0], by rw [PyData.depth]; exact Nat.zero_le _⟩
  | _, .int _, _ => ⟨by rw [PyData.canLay0], by rw [PyData.depth]; exact Nat.zero_le _⟩
  | n + 1, .list l, h => by
    have h : l.all (shN n) = true := by unfold shN at h; exact h
    rw [List.all_eq_true] at h
    have k := fun d hd => shN_ok n d (h d hd)
    exact ⟨by rw [PyData.canLay0]; exact layAll fun d hd => (k d hd).1, by rw [PyData.depth]; exact Nat.succ_le_succ (depAll fun d hd => (k d hd).2)⟩
  | n + 1, .tuple l, h => by
    have h : l.all (shN n) = true := by unfold shN at h; exact h
    rw [List.all_eq_true] at h
    have k := fun d hd => shN_ok n d (h d hd)
    exact ⟨by rw [PyData.canLay0]; exact layAll fun d hd => (k d hd).1, by rw [PyData.depth]; exact Nat.succ_le_succ (depAll fun d hd => (k d hd).2)⟩
  | 0, .list _, h => by unfold shN at h; cases h
  | 0, .tuple _, h => by unfold shN at h; cases h
  | 0, .str _, h => by unfold shN at h; cases h
  | _ + 1, .str _, h => by unfold shN at h; cases h
  | 0, .dict _, h => by unfold shN at h; cases h
  | _ + 1, .dict _, h => by unfold shN at h; cases h
theorem shaped_of {n : Nat} {d : D} (h : shN n d = true) (hn : n ≤ 64) : SeqAt.shaped d = true := by
  obtain ⟨h1, h2⟩ := shN_ok n d h
  unfold SeqAt.shaped
  rw [h1, decide_eq_true (Nat.le_trans h2 hn)]
  rfl
theorem eqv_self {n : Nat} {d : D} (h : shN n d = true) : PyData.eqv d d = true := SeqAt.eqv_refl d (shN_ok n d h).1
theorem eq_self {n : Nat} {d : D} (h : shN n d = true) (hn : n ≤ 64) : dCmp .eq d d = .ok (.bool true) := by
  rw [c_eq, shaped_of h hn, eqv_self h]
  rfl
theorem eqvAll_bools : ∀ a b : List Bool, PyData.eqvAll (a.map .bool) (b.map .bool) = decide (a = b)
  | [], [] => by simp [PyData.eqvAll]
  | [], _ :: _ => by simp [PyData.eqvAll]
  | _ :: _, [] => by simp [PyData.eqvAll]
  | x :: a, y :: b => by
    rw [List.map_cons, List.map_cons, PyData.eqvAll, eqvAll_bools a b, PyData.eqv]
    by_cases h : x = y
    · subst h
      by_cases g : a = b
      · subst g; simp
      · simp [g]
    · simp [h]
theorem sh_bools (a : List Bool) : shN 1 (.list (a.map .bool)) = true := by
  show (a.map PyData.bool).all (shN 0) = true
  rw [List.all_eq_true]
  intro d hd
  obtain ⟨b, _, rfl⟩ := List.mem_map.mp hd
  rfl
theorem sh_intsT (a : List Int) (n : Nat) : shN (n + 1) (.tuple (a.map .int)) = true := by
  show (a.map PyData.int).all (shN n) = true
  rw [List.all_eq_true]
  intro d hd
  obtain ⟨b, _, rfl⟩ := List.mem_map.mp hd
  unfold shN
  rfl
theorem eq_bools (a b : List Bool) : dCmp .eq (.list (a.map .bool)) (.list (b.map .bool)) = .ok (.bool (decide (a = b))) := by
  rw [c_eq, shaped_of (sh_bools a) (by decide), shaped_of (sh_bools b) (by decide)]
  show R.ok (PyData.bool (PyData.eqv (.list (a.map .bool)) (.list (b.map .bool)))) = _
  rw [PyData.eqv, eqvAll_bools]
end Ev
set_option Elab.async false
set_option linter.all false
set_option maxRecDepth 100000
/-! stairs as sequences of truths: the least form is one -/
namespace Ev
abbrev Sq := Nat → Bool
/-- f goes on by q from B on -/
def Per (f : Sq) (B q : Nat) : Prop := ∀ x, B ≤ x → f (x + q) = f x
theorem Per.up {f : Sq} {B B' q : Nat} (h : Per f B q) (hb : B ≤ B') : Per f B' q := fun x hx => h x (Nat.le_trans hb hx)
theorem Per.mul {f : Sq} {B q : Nat} (h : Per f B q) : ∀ (n x : Nat), B ≤ x → f (x + q * n) = f x
  | 0, _, _ => rfl
  | n + 1, x, hx => by
    rw [show x + q * (n + 1) = x + q * n + q by rw [Nat.mul_succ]; omega, h _ (by omega)]
    exact h.mul n x hx
theorem Per.mod {f : Sq} {B a b : Nat} (ha : Per f B a) (hb : Per f B b) : Per f B (b % a) := fun x hx => by
  have e := ha.mul (b / a) (x + b % a) (by omega)
  rw [show x + b % a + a * (b / a) = x + b by have := Nat.mod_add_div b a; omega, hb x hx] at e
  exact e.symm
theorem Per.gcd {f : Sq} {B : Nat} : ∀ (a b : Nat), Per f B a → Per f B b → Per f B (Nat.gcd a b) := fun a b => by
  induction a, b using Nat.gcd.induction with
  | H0 n => intro _ h; rw [Nat.gcd_zero_left]; exact h
  | H1 m n hm ih =>
    intro h1 h2
    rw [Nat.gcd_rec]
    exact ih (h1.mod h2) h1
/-- a later turn is a turn from B on, where f goes on by S from B on -/
theorem Per.down {f : Sq} {B S B' q : Nat} (hS : Per f B S) (h1 : 1 ≤ S) (hq : Per f B' q) : Per f B q := fun x hx => by
  have e1 := hS.mul B' (x + q) (by omega)
  have e2 := hS.mul B' x hx
  have e3 := hq (x + S * B') (by have : 1 * B' ≤ S * B' := Nat.mul_le_mul_right _ h1; omega)
  rw [show x + S * B' + q = x + q + S * B' by omega] at e3
  rw [← e1, e3, e2]
structure Canon (f : Sq) (b p : Nat) : Prop where
  one : 1 ≤ p
  per : Per f b p
  min : ∀ q B, 1 ≤ q → Per f B q → p ≤ q
  base : b = 0 ∨ f (b - 1) ≠ f (b - 1 + p)
theorem Canon.uniq {f : Sq} {b p b' p' : Nat} (h : Canon f b p) (h' : Canon f b' p') : b = b' ∧ p = p' := by
  have hp : p = p' := Nat.le_antisymm (h.min p' b' h'.one h'.per) (h'.min p b h.one h.per)
  subst hp
  refine ⟨?_, rfl⟩
  have key : ∀ {b b' : Nat}, Canon f b p → Canon f b' p → ¬ b < b' := fun {b b'} h h' lt => by
    rcases h'.base with e | e
    · omega
    · exact e (h.per (b' - 1) (by omega)).symm
  have k1 := key h h'
  have k2 := key h' h
  omega
/-- the least part of S by which f goes on is the least turn of all -/
theorem least_div {f : Sq} {B S p : Nat} (hS : Per f B S) (h1 : 1 ≤ S) (hp : Per f B p) (hmin : ∀ q, 1 ≤ q → q ∣ S → Per f B q → p ≤ q) : ∀ q B', 1 ≤ q → Per f B' q → p ≤ q := fun q B' hq hper => by
  have g := Per.gcd q S (hS.down h1 hper) hS
  have g1 : 1 ≤ Nat.gcd q S := Nat.gcd_pos_of_pos_left _ hq
  exact Nat.le_trans (hmin _ g1 (Nat.gcd_dvd_right q S) g) (Nat.gcd_le_left _ hq)
/-- going down with the base -/
def downB (f : Sq) (p : Nat) : Nat → Nat
  | 0 => 0
  | b + 1 => if f b = f (b + p) then downB f p b else b + 1
theorem downB_le (f : Sq) (p : Nat) : ∀ B, downB f p B ≤ B
  | 0 => Nat.le_refl _
  | b + 1 => by
    unfold downB
    split
    · exact Nat.le_succ_of_le (downB_le f p b)
    · exact Nat.le_refl _
theorem downB_per {f : Sq} {p : Nat} : ∀ {B : Nat}, Per f B p → Per f (downB f p B) p
  | 0, h => h
  | b + 1, h => by
    unfold downB
    split
    · rename_i e
      refine downB_per fun x hx => ?_
      by_cases hb : x = b
      · rw [hb]; exact e.symm
      · exact h x (by omega)
    · exact h
theorem downB_base (f : Sq) (p : Nat) : ∀ B, downB f p B = 0 ∨ f (downB f p B - 1) ≠ f (downB f p B - 1 + p)
  | 0 => .inl rfl
  | b + 1 => by
    unfold downB
    split
    · exact downB_base f p b
    · rename_i e
      exact .inr e
theorem canon_of {f : Sq} {B S p : Nat} (hS : Per f B S) (h1 : 1 ≤ S) (p1 : 1 ≤ p) (hp : Per f B p) (hmin : ∀ q, 1 ≤ q → q ∣ S → Per f B q → p ≤ q) : Canon f (downB f p B) p :=
  ⟨p1, downB_per hp, least_div hS h1 hp hmin, downB_base f p B⟩
/-- within one round of S, a part q of S is a turn -/
theorem per_round {f : Sq} {B S q : Nat} (hS : Per f B S) (h1 : 1 ≤ S) (hq : q ∣ S) (h : ∀ k, k + q < S → f (B + k + q) = f (B + k)) : Per f B q := by
  have hle := Nat.le_of_dvd h1 hq
  have hq1 : 1 ≤ q := Nat.pos_of_dvd_of_pos hq h1
  -- all of a round is told by k % q
  have r : ∀ k, k < S → f (B + k) = f (B + k % q) := by
    intro k
    induction k using Nat.strongRecOn with
    | _ k ih =>
      intro hk
      by_cases hkq : k < q
      · rw [Nat.mod_eq_of_lt hkq]
      · have e := h (k - q) (by omega)
        rw [show B + (k - q) + q = B + k by omega] at e
        rw [e, ih (k - q) (by omega) (by omega), Nat.mod_eq_sub_mod (show k ≥ q by omega)]
  have all : ∀ k, f (B + k) = f (B + k % q) := fun k => by
    have e := hS.mul (k / S) (B + k % S) (by omega)
    rw [show B + k % S + S * (k / S) = B + k by have := Nat.mod_add_div k S; omega] at e
    rw [e, r (k % S) (Nat.mod_lt _ (by omega)), Nat.mod_mod_of_dvd k hq]
  intro x hx
  have e1 := all (x - B + q)
  have e2 := all (x - B)
  rw [show B + (x - B + q) = x + q by omega, Nat.add_mod_right] at e1
  rw [show B + (x - B) = x by omega] at e2
  rw [e1, e2]
end Ev
set_option Elab.async false
set_option linter.all false
set_option maxRecDepth 100000
set_option maxHeartbeats 4000000
namespace Ev
open PySem
local macro_rules | `(tactic| bv_omega) => `(tactic| try simp only [vE_var, vE_int, vE_bl, vE_non, vE_str, vE_cst, vE_bin, vE_cmp, vE_chain, vE_and, vE_or, vE_not, vE_neg, vE_ite, vE_isi, vE_tup, vE_lst, vE_lmul, vE_ix, vE_slice, vE_rev, vE_b1, vE_b2, vE_dm, vE_call, vE_call0, vE_comp, vEs_n, vEs_c, vO_n, vO_s, vC_n, vC_s, vI_1, vI_2, vI_3, vI_s, vI_z, vI_e, zR_l, zR_t, vS_asgT, vS_par, vS_app, vS_setIx, vS_aug, vS_ite, vS_whl, vS_for, vS_ret, vS_retN, vS_expr, vS_pass, aF_n, aF_r, uh_n, uh_c, ag_a, ag_s, cl_n, cl_c, List.getD_cons_zero, List.getD_cons_succ, R.ok_bind, R.exc_bind, R.bad_bind, R.pure_eq, List.length_cons, List.length_nil, List.map_cons, List.map_nil, List.cons_append, List.nil_append, List.replicate_succ, List.replicate_zero, List.set_cons_zero, List.set_cons_succ, Nat.reduceAdd, Nat.reduceSub, Nat.reduceEqDiff, Int.cast_ofNat_Int, Int.reduceEq, Int.reduceLT, Int.reduceLE, Int.reduceAdd, Int.reduceSub, Int.reduceMul, Int.reduceNeg, decide_true, decide_false, Bool.false_and, Bool.true_and, Bool.and_true, Bool.and_false, Bool.or_true, Bool.or_false, Bool.true_or, Bool.false_or, if_true, ite_true, ite_false, Bool.false_eq_true, reduceIte, Bool.not_true, Bool.not_false, asI_i, asB_b, asL_l, asL_t, asLst_l, dIs_int_none, dIs_int_bool, dIs_int_int, dIs_int_str, dIs_int_list, dIs_int_tuple, dIs_int_dict, dIs_bool_none, dIs_bool_bool, dIs_bool_int, dIs_bool_str, dIs_bool_list, dIs_bool_tuple, dIs_bool_dict, dIs_str_none, dIs_str_bool, dIs_str_int, dIs_str_str, dIs_str_list, dIs_str_tuple, dIs_str_dict, dIs_tuple_none, dIs_tuple_bool, dIs_tuple_int, dIs_tuple_str, dIs_tuple_list, dIs_tuple_tuple, dIs_tuple_dict, dIs_list_none, dIs_list_bool, dIs_list_int, dIs_list_str, dIs_list_list, dIs_list_tuple, dIs_list_dict, ad_i, ad_l, ad_t, ad_s, sb_i, mu_i, fd_i, md_i, pw_10_6, pw_10_9, pw_10_12, pw_10_18, pw_10_59, pw_10_60, c_lt, c_le, c_gt, c_ge, c_eq_i, c_ne_i, c_eq_b, c_ne_b, c_isN, c_inN, c_isB, c_inB, c_in, c_ni, b_len_l, b_len_t, b_len_s, b_int_i, b_int_b, b_tup_l, b_tup_t, b_lst_l, b_lst_t, b_abs, b2_max, b2_min, ix_l, ix_t, sl_l, sl_t, rv_l, rv_t, getS_z, getS_s, ne_ok, seq_n, seq_r, evSs_n, evSs_c, outR_r, outR_n, bT_n, bT_t, bTs_n, bTs_c, asS])
variable {N k : Nat}
/-- the first m truths of f -/
def bitsF (f : Sq) (m : Nat) : List Bool := (List.range m).map f
/-- the places from lo on, n of them, at which f is true -/
def onF (f : Sq) (lo n : Nat) : List Int := onBits lo ((List.range n).map fun i => f (lo + i))
def stD (f : Sq) (B S : Nat) : D := .tuple [.int B, .int S, .tuple ((onF f 0 B).map .int), .tuple ((onF f B S).map .int)]
theorem bitsF_len (f : Sq) (m : Nat) : (bitsF f m).length = m := by unfold bitsF; rw [List.length_map, List.length_range]
theorem bitsF_get (f : Sq) {m x : Nat} (h : x < (bitsF f m).length) : (bitsF f m)[x] = f x := by
  have e : (bitsF f m)[x]? = some (f x) := by
    rw [bitsF_len] at h
    unfold bitsF
    rw [List.getElem?_map, List.getElem?_range h]
    rfl
  rw [List.getElem?_eq_getElem h] at e
  exact Option.some.inj e
theorem bitsF_at (f : Sq) {m x : Nat} (h : x < m) : L2.atI ((bitsF f m).map PyData.bool) (x : Int) = some (.bool (f x)) := by
  have h' : x < (bitsF f m).length := by rw [bitsF_len]; exact h
  rw [atI_bl h', bitsF_get f h']
theorem bitsF_cut (f : Sq) {m lo n : Nat} (h : lo + n ≤ m) : ((bitsF f m).drop lo).take n = (List.range n).map fun i => f (lo + i) := by
  apply List.ext_getElem
  · rw [List.length_take, List.length_drop, bitsF_len, List.length_map, List.length_range]; omega
  · intro i h1 h2
    rw [List.getElem_take, List.getElem_drop, bitsF_get, List.getElem_map, List.getElem_range]
theorem mem_onBits : ∀ (bs : List Bool) (lo : Nat) (x : Int), x ∈ onBits lo bs ↔ ∃ i, ∃ h : i < bs.length, bs[i] = true ∧ x = (lo : Int) + (i : Int)
  | [], _, _ => ⟨(fun h => nomatch h), fun ⟨_, h, _⟩ => absurd h (Nat.not_lt_zero _)⟩
  | b :: r, lo, x => by
    have ih := mem_onBits r (lo + 1) x
    have step : (∃ i, ∃ h : i < (b :: r).length, (b :: r)[i] = true ∧ x = (lo : Int) + (i : Int)) ↔ (b = true ∧ x = lo) ∨ ∃ i, ∃ h : i < r.length, r[i] = true ∧ x = ((lo + 1 : Nat) : Int) + (i : Int) := by
      constructor
      · rintro ⟨i, h, h1, h2⟩
        cases i with
        | zero => exact .inl ⟨h1, by omega⟩
        | succ i => exact .inr ⟨i, Nat.lt_of_succ_lt_succ h, h1, by omega⟩
      · rintro (⟨h1, h2⟩ | ⟨i, h, h1, h2⟩)
        · exact ⟨0, Nat.zero_lt_succ _, h1, by omega⟩
        · exact ⟨i + 1, Nat.succ_lt_succ h, h1, by omega⟩
    rw [step, ← ih]
    cases b with
    | false =>
      show x ∈ onBits (lo + 1) r ↔ _
      simp
    | true =>
      show x ∈ ((lo : Int) :: onBits (lo + 1) r) ↔ _
      rw [List.mem_cons]
      simp
theorem mem_onF (f : Sq) (lo n : Nat) (x : Int) : x ∈ onF f lo n ↔ ∃ i, i < n ∧ f (lo + i) = true ∧ x = (lo : Int) + (i : Int) := by
  unfold onF
  rw [mem_onBits]
  constructor
  · rintro ⟨i, h, h1, h2⟩
    rw [List.length_map, List.length_range] at h
    rw [List.getElem_map, List.getElem_range] at h1
    exact ⟨i, h, h1, h2⟩
  · rintro ⟨i, h, h1, h2⟩
    exact ⟨i, by rw [List.length_map, List.length_range]; exact h, by rw [List.getElem_map, List.getElem_range]; exact h1, h2⟩
/-- what a stair of bits tells of every number -/
def seqOf (bs : List Bool) (B S : Nat) : Sq := fun x => (bs[if x < B then x else B + (x - B) % S]?).getD false
theorem seqOf_per (bs : List Bool) (B S : Nat) : Per (seqOf bs B S) B S := fun x hx => by
  unfold seqOf
  rw [if_neg (by omega), if_neg (by omega), show x + S - B = (x - B) + S by omega, Nat.add_mod_right]
theorem seqOf_at {bs : List Bool} {B S x : Nat} (h : bs.length = B + S) (hx : x < B + S) : seqOf bs B S x = (bs[x]?).getD false := by
  unfold seqOf
  by_cases hb : x < B
  · rw [if_pos hb]
  · rw [if_neg hb, Nat.mod_eq_of_lt (by omega), show B + (x - B) = x by omega]
theorem stairOf_st {bs : List Bool} {B S : Nat} (h : bs.length = B + S) : stairOf bs B S = stD (seqOf bs B S) B S := by
  have e : bs = bitsF (seqOf bs B S) (B + S) := by
    apply List.ext_getElem
    · rw [bitsF_len, h]
    · intro i h1 h2
      rw [bitsF_get, seqOf_at h (by omega), List.getElem?_eq_getElem h1]
      rfl
  unfold stairOf stD onF
  have e1 : bs.take B = (List.range B).map fun i => seqOf bs B S (0 + i) := by
    have := bitsF_cut (seqOf bs B S) (m := B + S) (lo := 0) (n := B) (by omega)
    rw [← e, List.drop_zero] at this
    exact this
  have e2 : (bs.drop B).take S = (List.range S).map fun i => seqOf bs B S (B + i) := by
    have := bitsF_cut (seqOf bs B S) (m := B + S) (lo := B) (n := S) (by omega)
    rw [← e] at this
    exact this
  rw [e1, e2]
/-- a stair of the first truths of f -/
theorem law_stair_of_F (f : Sq) (m B S : Nat) (h : B + S ≤ m) (hm : m ≤ 900000) : run Tb N (k + 1) 11 [bitsD (bitsF f m), .int (B : Int), .int (S : Int)] = .ok (stD f B S) := by
  rw [law_stair_of_ok (bitsF f m) B S (by rw [bitsF_len]; exact h) (by rw [bitsF_len]; exact hm)]
  unfold stairOf stD onF
  have e1 : (bitsF f m).take B = (List.range B).map fun i => f (0 + i) := by
    have := bitsF_cut f (m := m) (lo := 0) (n := B) (by omega)
    rw [List.drop_zero] at this
    exact this
  rw [e1, bitsF_cut f h]
end Ev
set_option Elab.async false
set_option linter.all false
set_option maxRecDepth 100000
set_option maxHeartbeats 4000000
namespace Ev
open PySem
local macro_rules | `(tactic| bv_omega) => `(tactic| try simp only [vE_var, vE_int, vE_bl, vE_non, vE_str, vE_cst, vE_bin, vE_cmp, vE_chain, vE_and, vE_or, vE_not, vE_neg, vE_ite, vE_isi, vE_tup, vE_lst, vE_lmul, vE_ix, vE_slice, vE_rev, vE_b1, vE_b2, vE_dm, vE_call, vE_call0, vE_comp, vEs_n, vEs_c, vO_n, vO_s, vC_n, vC_s, vI_1, vI_2, vI_3, vI_s, vI_z, vI_e, zR_l, zR_t, vS_asgT, vS_par, vS_app, vS_setIx, vS_aug, vS_ite, vS_whl, vS_for, vS_ret, vS_retN, vS_expr, vS_pass, aF_n, aF_r, uh_n, uh_c, ag_a, ag_s, cl_n, cl_c, List.getD_cons_zero, List.getD_cons_succ, R.ok_bind, R.exc_bind, R.bad_bind, R.pure_eq, List.length_cons, List.length_nil, List.map_cons, List.map_nil, List.cons_append, List.nil_append, List.replicate_succ, List.replicate_zero, List.set_cons_zero, List.set_cons_succ, Nat.reduceAdd, Nat.reduceSub, Nat.reduceEqDiff, Int.cast_ofNat_Int, Int.reduceEq, Int.reduceLT, Int.reduceLE, Int.reduceAdd, Int.reduceSub, Int.reduceMul, Int.reduceNeg, decide_true, decide_false, Bool.false_and, Bool.true_and, Bool.and_true, Bool.and_false, Bool.or_true, Bool.or_false, Bool.true_or, Bool.false_or, if_true, ite_true, ite_false, Bool.false_eq_true, reduceIte, Bool.not_true, Bool.not_false, asI_i, asB_b, asL_l, asL_t, asLst_l, dIs_int_none, dIs_int_bool, dIs_int_int, dIs_int_str, dIs_int_list, dIs_int_tuple, dIs_int_dict, dIs_bool_none, dIs_bool_bool, dIs_bool_int, dIs_bool_str, dIs_bool_list, dIs_bool_tuple, dIs_bool_dict, dIs_str_none, dIs_str_bool, dIs_str_int, dIs_str_str, dIs_str_list, dIs_str_tuple, dIs_str_dict, dIs_tuple_none, dIs_tuple_bool, dIs_tuple_int, dIs_tuple_str, dIs_tuple_list, dIs_tuple_tuple, dIs_tuple_dict, dIs_list_none, dIs_list_bool, dIs_list_int, dIs_list_str, dIs_list_list, dIs_list_tuple, dIs_list_dict, ad_i, ad_l, ad_t, ad_s, sb_i, mu_i, fd_i, md_i, pw_10_6, pw_10_9, pw_10_12, pw_10_18, pw_10_59, pw_10_60, c_lt, c_le, c_gt, c_ge, c_eq_i, c_ne_i, c_eq_b, c_ne_b, c_isN, c_inN, c_isB, c_inB, c_in, c_ni, b_len_l, b_len_t, b_len_s, b_int_i, b_int_b, b_tup_l, b_tup_t, b_lst_l, b_lst_t, b_abs, b2_max, b2_min, ix_l, ix_t, sl_l, sl_t, rv_l, rv_t, getS_z, getS_s, ne_ok, seq_n, seq_r, evSs_n, evSs_c, outR_r, outR_n, bT_n, bT_t, bTs_n, bTs_c, asS])
variable {N k : Nat}
theorem cut_mid {α : Type} (l : List α) {lo hi : Nat} (h1 : lo ≤ hi) (h2 : hi ≤ l.length) : cut l (some (lo : Int)) (some (hi : Int)) = (l.drop lo).take (hi - lo) := by
  unfold cut
  rw [show HT.sIx l.length 0 (some (lo : Int)) = min lo l.length from HT.sIx_nat l.length 0 lo, show HT.sIx l.length l.length (some (hi : Int)) = min hi l.length from HT.sIx_nat l.length l.length hi, Nat.min_eq_left h2, Nat.min_eq_left (Nat.le_trans h1 h2)]
theorem map_eq_iff {n : Nat} {g h : Nat → Bool} : (List.range n).map g = (List.range n).map h ↔ ∀ i, i < n → g i = h i := by
  constructor
  · intro e i hi
    have e2 : ((List.range n).map g)[i]? = ((List.range n).map h)[i]? := by rw [e]
    rw [List.getElem?_map, List.getElem?_map, List.getElem?_range hi] at e2
    exact Option.some.inj e2
  · intro e
    exact List.map_congr_left fun i hi => e i (List.mem_range.mp hi)
theorem per_iff {f : Sq} {B S q : Nat} (hS : Per f B S) (h1 : 1 ≤ S) (hq : q ∣ S) : (∀ i, i < S - q → f (B + i) = f (B + q + i)) ↔ Per f B q := by
  constructor
  · intro h
    refine per_round hS h1 hq fun j hj => ?_
    rw [h j (by omega), show B + q + j = B + j + q by omega]
  · intro h i hi
    rw [show B + q + i = B + i + q by omega, h (B + i) (by omega)]
theorem dvd_iff {S q : Nat} : ((S : Int) % (q : Int) = 0) ↔ q ∣ S := by
  rw [← Int.natCast_emod, Nat.dvd_iff_mod_eq_zero]
  omega
/-- the least part of the step -/
structure LeastP (f : Sq) (B S p : Nat) : Prop where
  one : 1 ≤ p
  le : p ≤ S
  per : Per f B p
  min : ∀ q, 1 ≤ q → q ∣ S → Per f B q → p ≤ q
theorem least_step_ok {f : Sq} {B S m : Nat} (hS : Per f B S) (h1 : 1 ≤ S) (hm : B + S ≤ m) (hm2 : m ≤ 900000) : ∃ p : Nat, run Tb N (k + 1) 28 [bitsD (bitsF f m), .int B, .int S] = .ok (.int (p : Int)) ∧ LeastP f B S p := by
  rw [run_eq (fn := f_least_step) rfl rfl]
  unfold f_least_step bitsD
  bv_omega
  rw [small62_of (by omega), small62_of (by omega)]
  bv_omega
  have loop := forL_inv (f := stepF ⟨run Tb N k, N⟩ (.name 3) f_least_step_b1) (l := rng 1 ((S : Int) - 1).toNat 1) (j := 0) (e := [some (.list ((bitsF f m).map .bool)), some (.int B), some (.int S), none])
    (Inv := fun i e => (∃ o, e = [some (.list ((bitsF f m).map .bool)), some (.int B), some (.int S), o]) ∧ ∀ q, 1 ≤ q → q ≤ i → q ∣ S → ¬ Per f B q)
    (P := fun v => ∃ p : Nat, v = .int (p : Int) ∧ LeastP f B S p)
    (fun i d e hi ⟨⟨o, he⟩, hn⟩ => by
      obtain ⟨h3, rfl⟩ := rng_at hi
      rw [Nat.zero_add] at hn ⊢
      subst he
      rw [stepF_eq]
      unfold f_least_step_b1
      obtain ⟨q, hq⟩ : ∃ q : Nat, q = i + 1 := ⟨_, rfl⟩
      rw [show (1 : Int) + (i : Int) * 1 = (q : Int) by omega]
      bv_omega
      rw [if_pos (by omega)]
      bv_omega
      by_cases hd : (S : Int) % (q : Int) = 0
      · simp only [hd, decide_true, if_true]
        bv_omega
        rw [show (B : Int) + (S : Int) - (q : Int) = ((B + S - q : Nat) : Int) by omega, show (B : Int) + (q : Int) = ((B + q : Nat) : Int) by omega, show (B : Int) + (S : Int) = ((B + S : Nat) : Int) by omega]
        rw [cut_mid _ (by omega) (by rw [bl_len, bitsF_len]; omega), cut_mid _ (by omega) (by rw [bl_len, bitsF_len]; omega)]
        rw [← List.map_drop, ← List.map_take, ← List.map_drop, ← List.map_take, eq_bools, show B + S - q - B = S - q by omega, show B + S - (B + q) = S - q by omega, bitsF_cut f (by omega), bitsF_cut f (by omega)]
        bv_omega
        have hqS : q ∣ S := dvd_iff.mp hd
        by_cases hp : Per f B q
        · right
          have e := map_eq_iff.mpr ((per_iff hS h1 hqS).mpr hp)
          rw [decide_eq_true e]
          bv_omega
          refine ⟨_, rfl, q, rfl, by omega, by omega, hp, fun r hr1 hr2 hr3 => ?_⟩
          by_cases hlt : r ≤ i
          · exact absurd hr3 (hn r hr1 hlt hr2)
          · omega
        · left
          rw [decide_eq_false fun e => hp ((per_iff hS h1 hqS).mp (map_eq_iff.mp e))]
          bv_omega
          refine ⟨_, rfl, ⟨_, rfl⟩, fun r hr1 hr2 hr3 => ?_⟩
          by_cases hrq : r = q
          · rw [hrq]; exact hp
          · exact hn r hr1 (by omega) hr3
      · left
        simp only [hd, decide_false]
        bv_omega
        refine ⟨_, rfl, ⟨_, rfl⟩, fun r hr1 hr2 hr3 => ?_⟩
        by_cases hrq : r = q
        · rw [hrq] at hr3; exact absurd (dvd_iff.mpr hr3) hd
        · exact hn r hr1 (by omega) hr3)
    ⟨⟨none, rfl⟩, fun q h1 h2 => by omega⟩
  rcases loop with ⟨e', l1, ⟨o, l2⟩, l3⟩ | ⟨v, l1, p, rfl, l2⟩
  · rw [l1, l2]
    bv_omega
    refine ⟨S, rfl, h1, Nat.le_refl _, hS, fun q hq1 hq2 hq3 => ?_⟩
    rw [rng_length] at l3
    by_cases hlt : S ≤ q
    · exact hlt
    · exact absurd hq3 (l3 q hq1 (by omega) hq2)
  · rw [l1]
    bv_omega
    exact ⟨p, rfl, l2⟩
end Ev
set_option Elab.async false
set_option linter.all false
set_option maxRecDepth 100000
set_option maxHeartbeats 4000000
namespace Ev
open PySem
local macro_rules | `(tactic| bv_omega) => `(tactic| try simp only [vE_var, vE_int, vE_bl, vE_non, vE_str, vE_cst, vE_bin, vE_cmp, vE_chain, vE_and, vE_or, vE_not, vE_neg, vE_ite, vE_isi, vE_tup, vE_lst, vE_lmul, vE_ix, vE_slice, vE_rev, vE_b1, vE_b2, vE_dm, vE_call, vE_call0, vE_comp, vEs_n, vEs_c, vO_n, vO_s, vC_n, vC_s, vI_1, vI_2, vI_3, vI_s, vI_z, vI_e, zR_l, zR_t, vS_asgT, vS_par, vS_app, vS_setIx, vS_aug, vS_ite, vS_whl, vS_for, vS_ret, vS_retN, vS_expr, vS_pass, aF_n, aF_r, uh_n, uh_c, ag_a, ag_s, cl_n, cl_c, List.getD_cons_zero, List.getD_cons_succ, R.ok_bind, R.exc_bind, R.bad_bind, R.pure_eq, List.length_cons, List.length_nil, List.map_cons, List.map_nil, List.cons_append, List.nil_append, List.replicate_succ, List.replicate_zero, List.set_cons_zero, List.set_cons_succ, Nat.reduceAdd, Nat.reduceSub, Nat.reduceEqDiff, Int.cast_ofNat_Int, Int.reduceEq, Int.reduceLT, Int.reduceLE, Int.reduceAdd, Int.reduceSub, Int.reduceMul, Int.reduceNeg, decide_true, decide_false, Bool.false_and, Bool.true_and, Bool.and_true, Bool.and_false, Bool.or_true, Bool.or_false, Bool.true_or, Bool.false_or, if_true, ite_true, ite_false, Bool.false_eq_true, reduceIte, Bool.not_true, Bool.not_false, asI_i, asB_b, asL_l, asL_t, asLst_l, dIs_int_none, dIs_int_bool, dIs_int_int, dIs_int_str, dIs_int_list, dIs_int_tuple, dIs_int_dict, dIs_bool_none, dIs_bool_bool, dIs_bool_int, dIs_bool_str, dIs_bool_list, dIs_bool_tuple, dIs_bool_dict, dIs_str_none, dIs_str_bool, dIs_str_int, dIs_str_str, dIs_str_list, dIs_str_tuple, dIs_str_dict, dIs_tuple_none, dIs_tuple_bool, dIs_tuple_int, dIs_tuple_str, dIs_tuple_list, dIs_tuple_tuple, dIs_tuple_dict, dIs_list_none, dIs_list_bool, dIs_list_int, dIs_list_str, dIs_list_list, dIs_list_tuple, dIs_list_dict, ad_i, ad_l, ad_t, ad_s, sb_i, mu_i, fd_i, md_i, pw_10_6, pw_10_9, pw_10_12, pw_10_18, pw_10_59, pw_10_60, c_lt, c_le, c_gt, c_ge, c_eq_i, c_ne_i, c_eq_b, c_ne_b, c_isN, c_inN, c_isB, c_inB, c_in, c_ni, b_len_l, b_len_t, b_len_s, b_int_i, b_int_b, b_tup_l, b_tup_t, b_lst_l, b_lst_t, b_abs, b2_max, b2_min, ix_l, ix_t, sl_l, sl_t, rv_l, rv_t, getS_z, getS_s, ne_ok, seq_n, seq_r, evSs_n, evSs_c, outR_r, outR_n, bT_n, bT_t, bTs_n, bTs_c, asS])
variable {N k : Nat}
theorem whl_down {f : Sq} {p M : Nat} {c : Env → R Bool} {b : Env → R Out} {mk : Nat → Env} (hc0 : c (mk 0) = .ok false) (hc : ∀ B, B < M → c (mk (B + 1)) = .ok (decide (f B = f (B + p)))) (hb : ∀ B, b (mk (B + 1)) = .ok (.next (mk B))) :
    ∀ (B F : Nat), B ≤ M → B < F → whlL c b F (mk B) = .ok (.next (mk (downB f p B)))
  | 0, F + 1, _, _ => by
    unfold whlL
    rw [hc0]
    rfl
  | B + 1, F + 1, hM, h => by
    unfold whlL
    rw [hc B (by omega), R.ok_bind]
    unfold downB
    by_cases e : f B = f (B + p)
    · rw [decide_eq_true e, if_pos rfl, if_pos e, hb B, R.ok_bind]
      exact whl_down hc0 hc hb B F (by omega) (by omega)
    · rw [decide_eq_false e, if_neg e]
      rfl
/-- [x for x in range(lo, lo + n) if bits[x]] -/
theorem comp_F (f : Sq) {m : Nat} (g : D → R (Option D)) (hg : ∀ x : Nat, x < m → g (.int (x : Int)) = .ok (if f x then some (.int (x : Int)) else none)) (n lo : Nat) (h : lo + n ≤ m) :
    compL g (rng (lo : Int) n 1) = .ok ((onF f lo n).map .int) := by
  rw [comp_bits ⟨run Tb 0 0, 0⟩ [] (bitsF f m) g (fun x hx => by
    rw [bitsF_get f hx]
    rw [bitsF_len] at hx
    exact hg x hx) n lo (by rw [bitsF_len]; exact h), bitsF_cut f h]
  rfl
theorem onF_len (f : Sq) (lo n : Nat) : (onF f lo n).length ≤ n := by
  have := onBits_len ((List.range n).map fun i => f (lo + i)) lo
  rw [List.length_map, List.length_range] at this
  exact this
theorem least_of_bits_ok {f : Sq} {B S m : Nat} (hS : Per f B S) (h1 : 1 ≤ S) (hm : B + S ≤ m) (hm2 : m ≤ 900000) (hN : 1000000 ≤ N) :
    ∃ b p : Nat, run Tb N (k + 2) 29 [bitsD (bitsF f m), .int B, .int S] = .ok (stD f b p) ∧ Canon f b p ∧ b ≤ B ∧ p ≤ S := by
  obtain ⟨p, e1, hp⟩ := least_step_ok (N := N) (k := k) hS h1 hm hm2
  have hb := downB_le f p B
  refine ⟨downB f p B, p, ?_, canon_of hS h1 hp.one hp.per hp.min, hb, hp.le⟩
  have hple := hp.le
  rw [run_eq (fn := f_least_of_bits) rfl rfl]
  unfold f_least_of_bits
  try simp only [vE_var, vE_int, vE_bl, vE_non, vE_str, vE_cst, vE_bin, vE_cmp, vE_chain, vE_and, vE_or, vE_not, vE_neg, vE_ite, vE_isi, vE_tup, vE_lst, vE_lmul, vE_ix, vE_slice, vE_rev, vE_b1, vE_b2, vE_dm, vE_call, vE_call0, vE_comp, vEs_n, vEs_c, vO_n, vO_s, vC_n, vC_s, vI_1, vI_2, vI_3, vI_s, vI_z, vI_e, zR_l, zR_t, vS_asgT, vS_par, vS_app, vS_setIx, vS_aug, vS_ite, vS_whl, vS_for, vS_ret, vS_retN, vS_expr, vS_pass, aF_n, aF_r, uh_n, uh_c, ag_a, ag_s, cl_n, cl_c, List.getD_cons_zero, List.getD_cons_succ, R.ok_bind, R.exc_bind, R.bad_bind, R.pure_eq, List.length_cons, List.length_nil, List.map_cons, List.map_nil, List.cons_append, List.nil_append, List.replicate_succ, List.replicate_zero, List.set_cons_zero, List.set_cons_succ, Nat.reduceAdd, Nat.reduceSub, Nat.reduceEqDiff, Int.cast_ofNat_Int, Int.reduceEq, Int.reduceLT, Int.reduceLE, Int.reduceAdd, Int.reduceSub, Int.reduceMul, Int.reduceNeg, decide_true, decide_false, Bool.false_and, Bool.true_and, Bool.and_true, Bool.and_false, Bool.or_true, Bool.or_false, Bool.true_or, Bool.false_or, if_true, ite_true, ite_false, Bool.false_eq_true, reduceIte, Bool.not_true, Bool.not_false, asI_i, asB_b, asL_l, asL_t, asLst_l, dIs_int_none, dIs_int_bool, dIs_int_int, dIs_int_str, dIs_int_list, dIs_int_tuple, dIs_int_dict, dIs_bool_none, dIs_bool_bool, dIs_bool_int, dIs_bool_str, dIs_bool_list, dIs_bool_tuple, dIs_bool_dict, dIs_str_none, dIs_str_bool, dIs_str_int, dIs_str_str, dIs_str_list, dIs_str_tuple, dIs_str_dict, dIs_tuple_none, dIs_tuple_bool, dIs_tuple_int, dIs_tuple_str, dIs_tuple_list, dIs_tuple_tuple, dIs_tuple_dict, dIs_list_none, dIs_list_bool, dIs_list_int, dIs_list_str, dIs_list_list, dIs_list_tuple, dIs_list_dict, ad_i, ad_l, ad_t, ad_s, sb_i, mu_i, fd_i, md_i, pw_10_6, pw_10_9, pw_10_12, pw_10_18, pw_10_59, pw_10_60, c_lt, c_le, c_gt, c_ge, c_eq_i, c_ne_i, c_eq_b, c_ne_b, c_isN, c_inN, c_isB, c_inB, c_in, c_ni, b_len_l, b_len_t, b_len_s, b_int_i, b_int_b, b_tup_l, b_tup_t, b_lst_l, b_lst_t, b_abs, b2_max, b2_min, ix_l, ix_t, sl_l, sl_t, rv_l, rv_t, getS_z, getS_s, ne_ok, seq_n, seq_r, evSs_n, evSs_c, outR_r, outR_n, bT_n, bT_t, bTs_n, bTs_c, asS, e1]
  rw [whl_down (f := f) (p := p) (M := B) (mk := fun B => [some (bitsD (bitsF f m)), some (.int (B : Int)), some (.int (p : Int)), none, none, none]) (by rw [testF_eq]; bv_omega) (fun B' hB' => by
    rw [testF_eq]
    unfold bitsD
    bv_omega
    rw [decide_eq_true (p := (0 : Int) < ((B' + 1 : Nat) : Int)) (by omega)]
    bv_omega
    rw [show ((B' + 1 : Nat) : Int) - 1 = (B' : Int) by omega, bitsF_at f (show B' < m by omega)]
    try simp only [vE_var, vE_int, vE_bl, vE_non, vE_str, vE_cst, vE_bin, vE_cmp, vE_chain, vE_and, vE_or, vE_not, vE_neg, vE_ite, vE_isi, vE_tup, vE_lst, vE_lmul, vE_ix, vE_slice, vE_rev, vE_b1, vE_b2, vE_dm, vE_call, vE_call0, vE_comp, vEs_n, vEs_c, vO_n, vO_s, vC_n, vC_s, vI_1, vI_2, vI_3, vI_s, vI_z, vI_e, zR_l, zR_t, vS_asgT, vS_par, vS_app, vS_setIx, vS_aug, vS_ite, vS_whl, vS_for, vS_ret, vS_retN, vS_expr, vS_pass, aF_n, aF_r, uh_n, uh_c, ag_a, ag_s, cl_n, cl_c, List.getD_cons_zero, List.getD_cons_succ, R.ok_bind, R.exc_bind, R.bad_bind, R.pure_eq, List.length_cons, List.length_nil, List.map_cons, List.map_nil, List.cons_append, List.nil_append, List.replicate_succ, List.replicate_zero, List.set_cons_zero, List.set_cons_succ, Nat.reduceAdd, Nat.reduceSub, Nat.reduceEqDiff, Int.cast_ofNat_Int, Int.reduceEq, Int.reduceLT, Int.reduceLE, Int.reduceAdd, Int.reduceSub, Int.reduceMul, Int.reduceNeg, decide_true, decide_false, Bool.false_and, Bool.true_and, Bool.and_true, Bool.and_false, Bool.or_true, Bool.or_false, Bool.true_or, Bool.false_or, if_true, ite_true, ite_false, Bool.false_eq_true, reduceIte, Bool.not_true, Bool.not_false, asI_i, asB_b, asL_l, asL_t, asLst_l, dIs_int_none, dIs_int_bool, dIs_int_int, dIs_int_str, dIs_int_list, dIs_int_tuple, dIs_int_dict, dIs_bool_none, dIs_bool_bool, dIs_bool_int, dIs_bool_str, dIs_bool_list, dIs_bool_tuple, dIs_bool_dict, dIs_str_none, dIs_str_bool, dIs_str_int, dIs_str_str, dIs_str_list, dIs_str_tuple, dIs_str_dict, dIs_tuple_none, dIs_tuple_bool, dIs_tuple_int, dIs_tuple_str, dIs_tuple_list, dIs_tuple_tuple, dIs_tuple_dict, dIs_list_none, dIs_list_bool, dIs_list_int, dIs_list_str, dIs_list_list, dIs_list_tuple, dIs_list_dict, ad_i, ad_l, ad_t, ad_s, sb_i, mu_i, fd_i, md_i, pw_10_6, pw_10_9, pw_10_12, pw_10_18, pw_10_59, pw_10_60, c_lt, c_le, c_gt, c_ge, c_eq_i, c_ne_i, c_eq_b, c_ne_b, c_isN, c_inN, c_isB, c_inB, c_in, c_ni, b_len_l, b_len_t, b_len_s, b_int_i, b_int_b, b_tup_l, b_tup_t, b_lst_l, b_lst_t, b_abs, b2_max, b2_min, ix_l, ix_t, sl_l, sl_t, rv_l, rv_t, getS_z, getS_s, ne_ok, seq_n, seq_r, evSs_n, evSs_c, outR_r, outR_n, bT_n, bT_t, bTs_n, bTs_c, asS, ofO_s]
    rw [show (B' : Int) + (p : Int) = ((B' + p : Nat) : Int) by omega, bitsF_at f (show B' + p < m by omega)]
    try simp only [vE_var, vE_int, vE_bl, vE_non, vE_str, vE_cst, vE_bin, vE_cmp, vE_chain, vE_and, vE_or, vE_not, vE_neg, vE_ite, vE_isi, vE_tup, vE_lst, vE_lmul, vE_ix, vE_slice, vE_rev, vE_b1, vE_b2, vE_dm, vE_call, vE_call0, vE_comp, vEs_n, vEs_c, vO_n, vO_s, vC_n, vC_s, vI_1, vI_2, vI_3, vI_s, vI_z, vI_e, zR_l, zR_t, vS_asgT, vS_par, vS_app, vS_setIx, vS_aug, vS_ite, vS_whl, vS_for, vS_ret, vS_retN, vS_expr, vS_pass, aF_n, aF_r, uh_n, uh_c, ag_a, ag_s, cl_n, cl_c, List.getD_cons_zero, List.getD_cons_succ, R.ok_bind, R.exc_bind, R.bad_bind, R.pure_eq, List.length_cons, List.length_nil, List.map_cons, List.map_nil, List.cons_append, List.nil_append, List.replicate_succ, List.replicate_zero, List.set_cons_zero, List.set_cons_succ, Nat.reduceAdd, Nat.reduceSub, Nat.reduceEqDiff, Int.cast_ofNat_Int, Int.reduceEq, Int.reduceLT, Int.reduceLE, Int.reduceAdd, Int.reduceSub, Int.reduceMul, Int.reduceNeg, decide_true, decide_false, Bool.false_and, Bool.true_and, Bool.and_true, Bool.and_false, Bool.or_true, Bool.or_false, Bool.true_or, Bool.false_or, if_true, ite_true, ite_false, Bool.false_eq_true, reduceIte, Bool.not_true, Bool.not_false, asI_i, asB_b, asL_l, asL_t, asLst_l, dIs_int_none, dIs_int_bool, dIs_int_int, dIs_int_str, dIs_int_list, dIs_int_tuple, dIs_int_dict, dIs_bool_none, dIs_bool_bool, dIs_bool_int, dIs_bool_str, dIs_bool_list, dIs_bool_tuple, dIs_bool_dict, dIs_str_none, dIs_str_bool, dIs_str_int, dIs_str_str, dIs_str_list, dIs_str_tuple, dIs_str_dict, dIs_tuple_none, dIs_tuple_bool, dIs_tuple_int, dIs_tuple_str, dIs_tuple_list, dIs_tuple_tuple, dIs_tuple_dict, dIs_list_none, dIs_list_bool, dIs_list_int, dIs_list_str, dIs_list_list, dIs_list_tuple, dIs_list_dict, ad_i, ad_l, ad_t, ad_s, sb_i, mu_i, fd_i, md_i, pw_10_6, pw_10_9, pw_10_12, pw_10_18, pw_10_59, pw_10_60, c_lt, c_le, c_gt, c_ge, c_eq_i, c_ne_i, c_eq_b, c_ne_b, c_isN, c_inN, c_isB, c_inB, c_in, c_ni, b_len_l, b_len_t, b_len_s, b_int_i, b_int_b, b_tup_l, b_tup_t, b_lst_l, b_lst_t, b_abs, b2_max, b2_min, ix_l, ix_t, sl_l, sl_t, rv_l, rv_t, getS_z, getS_s, ne_ok, seq_n, seq_r, evSs_n, evSs_c, outR_r, outR_n, bT_n, bT_t, bTs_n, bTs_c, asS, ofO_s]
    cases f B' <;> cases f (B' + p) <;> rfl) (fun B' => by
    unfold f_least_of_bits_b1
    bv_omega
    rw [show ((B' + 1 : Nat) : Int) - 1 = (B' : Int) by omega]) B N (Nat.le_refl _) (by omega)]
  obtain ⟨b, hb2⟩ : ∃ b, b = downB f p B := ⟨_, rfl⟩
  rw [← hb2] at hb ⊢
  unfold bitsD
  bv_omega
  rw [small62_of (by omega)]
  bv_omega
  have g : ∀ x : Nat, x < m → turnC ⟨run Tb N (k + 1), N⟩ [4] (.var 4) (.name 4) (.some (.ix (.var 0) (.var 4))) [some (.list ((bitsF f m).map .bool)), some (.int (b : Int)), some (.int (p : Int)), none, none, none] (.int (x : Int)) = .ok (if f x then some (.int (x : Int)) else none) := fun x hx => by
    rw [turnC_eq]
    bv_omega
    rw [bitsF_at f hx]
    try simp only [vE_var, vE_int, vE_bl, vE_non, vE_str, vE_cst, vE_bin, vE_cmp, vE_chain, vE_and, vE_or, vE_not, vE_neg, vE_ite, vE_isi, vE_tup, vE_lst, vE_lmul, vE_ix, vE_slice, vE_rev, vE_b1, vE_b2, vE_dm, vE_call, vE_call0, vE_comp, vEs_n, vEs_c, vO_n, vO_s, vC_n, vC_s, vI_1, vI_2, vI_3, vI_s, vI_z, vI_e, zR_l, zR_t, vS_asgT, vS_par, vS_app, vS_setIx, vS_aug, vS_ite, vS_whl, vS_for, vS_ret, vS_retN, vS_expr, vS_pass, aF_n, aF_r, uh_n, uh_c, ag_a, ag_s, cl_n, cl_c, List.getD_cons_zero, List.getD_cons_succ, R.ok_bind, R.exc_bind, R.bad_bind, R.pure_eq, List.length_cons, List.length_nil, List.map_cons, List.map_nil, List.cons_append, List.nil_append, List.replicate_succ, List.replicate_zero, List.set_cons_zero, List.set_cons_succ, Nat.reduceAdd, Nat.reduceSub, Nat.reduceEqDiff, Int.cast_ofNat_Int, Int.reduceEq, Int.reduceLT, Int.reduceLE, Int.reduceAdd, Int.reduceSub, Int.reduceMul, Int.reduceNeg, decide_true, decide_false, Bool.false_and, Bool.true_and, Bool.and_true, Bool.and_false, Bool.or_true, Bool.or_false, Bool.true_or, Bool.false_or, if_true, ite_true, ite_false, Bool.false_eq_true, reduceIte, Bool.not_true, Bool.not_false, asI_i, asB_b, asL_l, asL_t, asLst_l, dIs_int_none, dIs_int_bool, dIs_int_int, dIs_int_str, dIs_int_list, dIs_int_tuple, dIs_int_dict, dIs_bool_none, dIs_bool_bool, dIs_bool_int, dIs_bool_str, dIs_bool_list, dIs_bool_tuple, dIs_bool_dict, dIs_str_none, dIs_str_bool, dIs_str_int, dIs_str_str, dIs_str_list, dIs_str_tuple, dIs_str_dict, dIs_tuple_none, dIs_tuple_bool, dIs_tuple_int, dIs_tuple_str, dIs_tuple_list, dIs_tuple_tuple, dIs_tuple_dict, dIs_list_none, dIs_list_bool, dIs_list_int, dIs_list_str, dIs_list_list, dIs_list_tuple, dIs_list_dict, ad_i, ad_l, ad_t, ad_s, sb_i, mu_i, fd_i, md_i, pw_10_6, pw_10_9, pw_10_12, pw_10_18, pw_10_59, pw_10_60, c_lt, c_le, c_gt, c_ge, c_eq_i, c_ne_i, c_eq_b, c_ne_b, c_isN, c_inN, c_isB, c_inB, c_in, c_ni, b_len_l, b_len_t, b_len_s, b_int_i, b_int_b, b_tup_l, b_tup_t, b_lst_l, b_lst_t, b_abs, b2_max, b2_min, ix_l, ix_t, sl_l, sl_t, rv_l, rv_t, getS_z, getS_s, ne_ok, seq_n, seq_r, evSs_n, evSs_c, outR_r, outR_n, bT_n, bT_t, bTs_n, bTs_c, asS, ofO_s]
    cases f x <;> rfl
  rw [show rng 0 ((b : Int)).toNat 1 = rng ((0 : Nat) : Int) b 1 from rfl, comp_F f _ g b 0 (by omega)]
  bv_omega
  have l1 := onF_len f 0 b
  have l2 := onF_len f b p
  rw [sized_ok (lt_size (by rw [ints_len]; omega))]
  bv_omega
  rw [small62_of (by omega), small62_of (by omega)]
  bv_omega
  have g2 : ∀ x : Nat, x < m → turnC ⟨run Tb N (k + 1), N⟩ [4] (.var 4) (.name 4) (.some (.ix (.var 0) (.var 4))) [some (.list ((bitsF f m).map .bool)), some (.int (b : Int)), some (.int (p : Int)), some (.list ((onF f 0 b).map .int)), none, none] (.int (x : Int)) = .ok (if f x then some (.int (x : Int)) else none) := fun x hx => by
    rw [turnC_eq]
    bv_omega
    rw [bitsF_at f hx]
    try simp only [vE_var, vE_int, vE_bl, vE_non, vE_str, vE_cst, vE_bin, vE_cmp, vE_chain, vE_and, vE_or, vE_not, vE_neg, vE_ite, vE_isi, vE_tup, vE_lst, vE_lmul, vE_ix, vE_slice, vE_rev, vE_b1, vE_b2, vE_dm, vE_call, vE_call0, vE_comp, vEs_n, vEs_c, vO_n, vO_s, vC_n, vC_s, vI_1, vI_2, vI_3, vI_s, vI_z, vI_e, zR_l, zR_t, vS_asgT, vS_par, vS_app, vS_setIx, vS_aug, vS_ite, vS_whl, vS_for, vS_ret, vS_retN, vS_expr, vS_pass, aF_n, aF_r, uh_n, uh_c, ag_a, ag_s, cl_n, cl_c, List.getD_cons_zero, List.getD_cons_succ, R.ok_bind, R.exc_bind, R.bad_bind, R.pure_eq, List.length_cons, List.length_nil, List.map_cons, List.map_nil, List.cons_append, List.nil_append, List.replicate_succ, List.replicate_zero, List.set_cons_zero, List.set_cons_succ, Nat.reduceAdd, Nat.reduceSub, Nat.reduceEqDiff, Int.cast_ofNat_Int, Int.reduceEq, Int.reduceLT, Int.reduceLE, Int.reduceAdd, Int.reduceSub, Int.reduceMul, Int.reduceNeg, decide_true, decide_false, Bool.false_and, Bool.true_and, Bool.and_true, Bool.and_false, Bool.or_true, Bool.or_false, Bool.true_or, Bool.false_or, if_true, ite_true, ite_false, Bool.false_eq_true, reduceIte, Bool.not_true, Bool.not_false, asI_i, asB_b, asL_l, asL_t, asLst_l, dIs_int_none, dIs_int_bool, dIs_int_int, dIs_int_str, dIs_int_list, dIs_int_tuple, dIs_int_dict, dIs_bool_none, dIs_bool_bool, dIs_bool_int, dIs_bool_str, dIs_bool_list, dIs_bool_tuple, dIs_bool_dict, dIs_str_none, dIs_str_bool, dIs_str_int, dIs_str_str, dIs_str_list, dIs_str_tuple, dIs_str_dict, dIs_tuple_none, dIs_tuple_bool, dIs_tuple_int, dIs_tuple_str, dIs_tuple_list, dIs_tuple_tuple, dIs_tuple_dict, dIs_list_none, dIs_list_bool, dIs_list_int, dIs_list_str, dIs_list_list, dIs_list_tuple, dIs_list_dict, ad_i, ad_l, ad_t, ad_s, sb_i, mu_i, fd_i, md_i, pw_10_6, pw_10_9, pw_10_12, pw_10_18, pw_10_59, pw_10_60, c_lt, c_le, c_gt, c_ge, c_eq_i, c_ne_i, c_eq_b, c_ne_b, c_isN, c_inN, c_isB, c_inB, c_in, c_ni, b_len_l, b_len_t, b_len_s, b_int_i, b_int_b, b_tup_l, b_tup_t, b_lst_l, b_lst_t, b_abs, b2_max, b2_min, ix_l, ix_t, sl_l, sl_t, rv_l, rv_t, getS_z, getS_s, ne_ok, seq_n, seq_r, evSs_n, evSs_c, outR_r, outR_n, bT_n, bT_t, bTs_n, bTs_c, asS, ofO_s]
    cases f x <;> rfl
  rw [show ((b : Int) + (p : Int) - (b : Int)).toNat = p by omega, comp_F f _ g2 p b (by omega)]
  bv_omega
  rw [sized_ok (lt_size (by rw [ints_len]; omega))]
  bv_omega
  rw [mkTup_ok (lt_size (by simp))]
  rfl
end Ev
set_option Elab.async false
set_option linter.all false
set_option maxRecDepth 100000
set_option maxHeartbeats 4000000
namespace Ev
open PySem
local macro_rules | `(tactic| bv_omega) => `(tactic| try simp only [vE_var, vE_int, vE_bl, vE_non, vE_str, vE_cst, vE_bin, vE_cmp, vE_chain, vE_and, vE_or, vE_not, vE_neg, vE_ite, vE_isi, vE_tup, vE_lst, vE_lmul, vE_ix, vE_slice, vE_rev, vE_b1, vE_b2, vE_dm, vE_call, vE_call0, vE_comp, vEs_n, vEs_c, vO_n, vO_s, vC_n, vC_s, vI_1, vI_2, vI_3, vI_s, vI_z, vI_e, zR_l, zR_t, vS_asgT, vS_par, vS_app, vS_setIx, vS_aug, vS_ite, vS_whl, vS_for, vS_ret, vS_retN, vS_expr, vS_pass, aF_n, aF_r, uh_n, uh_c, ag_a, ag_s, cl_n, cl_c, List.getD_cons_zero, List.getD_cons_succ, R.ok_bind, R.exc_bind, R.bad_bind, R.pure_eq, List.length_cons, List.length_nil, List.map_cons, List.map_nil, List.cons_append, List.nil_append, List.replicate_succ, List.replicate_zero, List.set_cons_zero, List.set_cons_succ, Nat.reduceAdd, Nat.reduceSub, Nat.reduceEqDiff, Int.cast_ofNat_Int, Int.reduceEq, Int.reduceLT, Int.reduceLE, Int.reduceAdd, Int.reduceSub, Int.reduceMul, Int.reduceNeg, decide_true, decide_false, Bool.false_and, Bool.true_and, Bool.and_true, Bool.and_false, Bool.or_true, Bool.or_false, Bool.true_or, Bool.false_or, if_true, ite_true, ite_false, Bool.false_eq_true, reduceIte, Bool.not_true, Bool.not_false, asI_i, asB_b, asL_l, asL_t, asLst_l, dIs_int_none, dIs_int_bool, dIs_int_int, dIs_int_str, dIs_int_list, dIs_int_tuple, dIs_int_dict, dIs_bool_none, dIs_bool_bool, dIs_bool_int, dIs_bool_str, dIs_bool_list, dIs_bool_tuple, dIs_bool_dict, dIs_str_none, dIs_str_bool, dIs_str_int, dIs_str_str, dIs_str_list, dIs_str_tuple, dIs_str_dict, dIs_tuple_none, dIs_tuple_bool, dIs_tuple_int, dIs_tuple_str, dIs_tuple_list, dIs_tuple_tuple, dIs_tuple_dict, dIs_list_none, dIs_list_bool, dIs_list_int, dIs_list_str, dIs_list_list, dIs_list_tuple, dIs_list_dict, ad_i, ad_l, ad_t, ad_s, sb_i, mu_i, fd_i, md_i, pw_10_6, pw_10_9, pw_10_12, pw_10_18, pw_10_59, pw_10_60, c_lt, c_le, c_gt, c_ge, c_eq_i, c_ne_i, c_eq_b, c_ne_b, c_isN, c_inN, c_isB, c_inB, c_in, c_ni, b_len_l, b_len_t, b_len_s, b_int_i, b_int_b, b_tup_l, b_tup_t, b_lst_l, b_lst_t, b_abs, b2_max, b2_min, ix_l, ix_t, sl_l, sl_t, rv_l, rv_t, getS_z, getS_s, ne_ok, seq_n, seq_r, evSs_n, evSs_c, outR_r, outR_n, bT_n, bT_t, bTs_n, bTs_c, asS])
variable {N k : Nat}
theorem all_bools' (bs : List Bool) : dB1 .all (.list (bs.map .bool)) = .ok (.bool (bs.all id)) := by
  have e : mapR asB (bs.map PyData.bool) = .ok bs := by
    induction bs with
    | nil => rfl
    | cons b bs ih => rw [List.map_cons, mapR, ih]; rfl
  show (mapR asB (bs.map PyData.bool) >>= fun bs => R.ok (PyData.bool (bs.all id))) = _
  rw [e]
  rfl
theorem alike_iff {f : Sq} {B S q : Nat} (hS : Per f B S) (h1 : 1 ≤ S) (hq : q ∣ S) : (∀ j, j < S → f (B + j) = f (B + j % q)) ↔ Per f B q := by
  have q1 : 1 ≤ q := Nat.pos_of_dvd_of_pos hq h1
  constructor
  · intro h
    refine per_round hS h1 hq fun j hj => ?_
    rw [show B + j + q = B + (j + q) by omega, h (j + q) hj, h j (by omega), Nat.add_mod_right]
  · intro h j _
    have e := h.mul (j / q) (B + j % q) (by omega)
    rw [show B + j % q + q * (j / q) = B + j by have := Nat.mod_add_div j q; omega] at e
    exact e
theorem law_least_ok {f : Sq} {B S m : Nat} (hS : Per f B S) (h1 : 1 ≤ S) (hm : B + S ≤ m) (hm2 : m ≤ 900000) (hN : 1000000 ≤ N) :
    ∃ b p : Nat, run Tb N (k + 1) 32 [bitsD (bitsF f m), .int B, .int S] = .ok (stD f b p) ∧ Canon f b p ∧ b ≤ B ∧ p ≤ S := by
  rw [run_eq (fn := f_law_least) rfl rfl]
  unfold f_law_least bitsD
  bv_omega
  rw [if_pos ⟨rfl, small62_of (by omega), small62_of (by omega)⟩, stepN_dn]
  bv_omega
  obtain ⟨e', l1, ⟨p, o4, o5, l2⟩, l3⟩ := forL_rng (f := stepF ⟨run Tb N k, N⟩ (.name 4) f_law_least_b1) (lo := (S : Int)) (c := -1) (n := ((S : Int) - 0).toNat) (e := [some (.list ((bitsF f m).map .bool)), some (.int B), some (.int S), some (.int S), none, none, none, none, none])
    (Inv := fun i e => ∃ (_ : ∃ (p : Nat) (o4 o5 : Option D), e = [some (.list ((bitsF f m).map .bool)), some (.int B), some (.int S), some (.int (p : Int)), o4, o5, none, none, none] ∧ 1 ≤ p ∧ p ≤ S ∧ Per f B p ∧ ∀ q, S - i < q → 1 ≤ q → q ∣ S → Per f B q → p ≤ q), True)
    (fun i e hi hI => by
      obtain ⟨⟨p, o4, o5, he, p1, p2, p3, p4⟩, _⟩ := hI
      subst he
      obtain ⟨q, hq⟩ : ∃ q : Nat, q = S - i := ⟨_, rfl⟩
      have hq1 : 1 ≤ q := by omega
      rw [stepF_eq, show (S : Int) + (i : Int) * (-1) = (q : Int) by omega]
      unfold f_law_least_b1
      bv_omega
      rw [if_pos (by omega)]
      bv_omega
      have keep : ¬ (q ∣ S ∧ Per f B q) → ∀ r, S - (i + 1) < r → 1 ≤ r → r ∣ S → Per f B r → p ≤ r := fun hno r hr1 hr2 hr3 hr4 => by
        by_cases hrq : r = q
        · subst hrq; exact absurd ⟨hr3, hr4⟩ hno
        · exact p4 r (by omega) hr2 hr3 hr4
      by_cases hd : (S : Int) % (q : Int) = 0
      · have hqS : q ∣ S := dvd_iff.mp hd
        simp only [hd, decide_true, if_true]
        bv_omega
        rw [small62_of (by omega)]
        bv_omega
        rw [compL_map (g := fun d => .bool (match d with | .int x => (f (B + x.toNat) == f (B + x.toNat % q)) | _ => false))]
        · bv_omega
          rw [sized_ok (lt_size (by rw [List.length_map, rng_length]; omega))]
          bv_omega
          have e2 : (rng 0 ((S : Int)).toNat 1).map (fun d => PyData.bool (match d with | .int x => (f (B + x.toNat) == f (B + x.toNat % q)) | _ => false)) = ((List.range S).map fun j => (f (B + j) == f (B + j % q))).map .bool := by
            unfold rng
            rw [List.map_map, List.map_map]
            refine List.map_congr_left fun j _ => ?_
            show PyData.bool (f (B + (0 + (j : Int) * 1).toNat) == f (B + (0 + (j : Int) * 1).toNat % q)) = PyData.bool (f (B + j) == f (B + j % q))
            rw [show (0 + (j : Int) * 1).toNat = j by omega]
          rw [e2, all_bools']
          bv_omega
          have e3 : ((List.range S).map fun j => (f (B + j) == f (B + j % q))).all id = true ↔ Per f B q := by
            rw [← alike_iff hS h1 hqS, List.all_map, List.all_eq_true]
            constructor
            · intro h j hj
              exact eq_of_beq (h j (List.mem_range.mpr hj))
            · intro h j hj
              exact beq_iff_eq.mpr (h j (List.mem_range.mp hj))
          by_cases hp : Per f B q
          · rw [e3.mpr hp]
            bv_omega
            refine ⟨_, rfl, ⟨q, _, _, rfl, hq1, by omega, hp, fun r hr1 hr2 hr3 hr4 => by omega⟩, trivial⟩
          · rw [Bool.eq_false_iff.mpr fun z => hp (e3.mp z)]
            bv_omega
            exact ⟨_, rfl, ⟨p, _, _, rfl, p1, p2, p3, keep fun z => hp z.2⟩, trivial⟩
        · intro d hdm
          obtain ⟨j, hj⟩ := List.getElem?_of_mem hdm
          obtain ⟨hj2, rfl⟩ := rng_at hj
          have hjS : j < S := by omega
          rw [turnC_eq, show (0 : Int) + (j : Int) * 1 = (j : Int) by omega]
          bv_omega
          rw [if_pos (by omega)]
          bv_omega
          have hmod : j % q < q := Nat.mod_lt _ hq1
          have hql : q ≤ S := by omega
          rw [show (B : Int) + (j : Int) = ((B + j : Nat) : Int) by omega, bitsF_at f (show B + j < m by omega)]
          try simp only [vE_var, vE_int, vE_bl, vE_non, vE_str, vE_cst, vE_bin, vE_cmp, vE_chain, vE_and, vE_or, vE_not, vE_neg, vE_ite, vE_isi, vE_tup, vE_lst, vE_lmul, vE_ix, vE_slice, vE_rev, vE_b1, vE_b2, vE_dm, vE_call, vE_call0, vE_comp, vEs_n, vEs_c, vO_n, vO_s, vC_n, vC_s, vI_1, vI_2, vI_3, vI_s, vI_z, vI_e, zR_l, zR_t, vS_asgT, vS_par, vS_app, vS_setIx, vS_aug, vS_ite, vS_whl, vS_for, vS_ret, vS_retN, vS_expr, vS_pass, aF_n, aF_r, uh_n, uh_c, ag_a, ag_s, cl_n, cl_c, List.getD_cons_zero, List.getD_cons_succ, R.ok_bind, R.exc_bind, R.bad_bind, R.pure_eq, List.length_cons, List.length_nil, List.map_cons, List.map_nil, List.cons_append, List.nil_append, List.replicate_succ, List.replicate_zero, List.set_cons_zero, List.set_cons_succ, Nat.reduceAdd, Nat.reduceSub, Nat.reduceEqDiff, Int.cast_ofNat_Int, Int.reduceEq, Int.reduceLT, Int.reduceLE, Int.reduceAdd, Int.reduceSub, Int.reduceMul, Int.reduceNeg, decide_true, decide_false, Bool.false_and, Bool.true_and, Bool.and_true, Bool.and_false, Bool.or_true, Bool.or_false, Bool.true_or, Bool.false_or, if_true, ite_true, ite_false, Bool.false_eq_true, reduceIte, Bool.not_true, Bool.not_false, asI_i, asB_b, asL_l, asL_t, asLst_l, dIs_int_none, dIs_int_bool, dIs_int_int, dIs_int_str, dIs_int_list, dIs_int_tuple, dIs_int_dict, dIs_bool_none, dIs_bool_bool, dIs_bool_int, dIs_bool_str, dIs_bool_list, dIs_bool_tuple, dIs_bool_dict, dIs_str_none, dIs_str_bool, dIs_str_int, dIs_str_str, dIs_str_list, dIs_str_tuple, dIs_str_dict, dIs_tuple_none, dIs_tuple_bool, dIs_tuple_int, dIs_tuple_str, dIs_tuple_list, dIs_tuple_tuple, dIs_tuple_dict, dIs_list_none, dIs_list_bool, dIs_list_int, dIs_list_str, dIs_list_list, dIs_list_tuple, dIs_list_dict, ad_i, ad_l, ad_t, ad_s, sb_i, mu_i, fd_i, md_i, pw_10_6, pw_10_9, pw_10_12, pw_10_18, pw_10_59, pw_10_60, c_lt, c_le, c_gt, c_ge, c_eq_i, c_ne_i, c_eq_b, c_ne_b, c_isN, c_inN, c_isB, c_inB, c_in, c_ni, b_len_l, b_len_t, b_len_s, b_int_i, b_int_b, b_tup_l, b_tup_t, b_lst_l, b_lst_t, b_abs, b2_max, b2_min, ix_l, ix_t, sl_l, sl_t, rv_l, rv_t, getS_z, getS_s, ne_ok, seq_n, seq_r, evSs_n, evSs_c, outR_r, outR_n, bT_n, bT_t, bTs_n, bTs_c, asS, ofO_s]
          rw [show (B : Int) + (j : Int) % (q : Int) = ((B + j % q : Nat) : Int) by omega, bitsF_at f (show B + j % q < m by omega)]
          try simp only [vE_var, vE_int, vE_bl, vE_non, vE_str, vE_cst, vE_bin, vE_cmp, vE_chain, vE_and, vE_or, vE_not, vE_neg, vE_ite, vE_isi, vE_tup, vE_lst, vE_lmul, vE_ix, vE_slice, vE_rev, vE_b1, vE_b2, vE_dm, vE_call, vE_call0, vE_comp, vEs_n, vEs_c, vO_n, vO_s, vC_n, vC_s, vI_1, vI_2, vI_3, vI_s, vI_z, vI_e, zR_l, zR_t, vS_asgT, vS_par, vS_app, vS_setIx, vS_aug, vS_ite, vS_whl, vS_for, vS_ret, vS_retN, vS_expr, vS_pass, aF_n, aF_r, uh_n, uh_c, ag_a, ag_s, cl_n, cl_c, List.getD_cons_zero, List.getD_cons_succ, R.ok_bind, R.exc_bind, R.bad_bind, R.pure_eq, List.length_cons, List.length_nil, List.map_cons, List.map_nil, List.cons_append, List.nil_append, List.replicate_succ, List.replicate_zero, List.set_cons_zero, List.set_cons_succ, Nat.reduceAdd, Nat.reduceSub, Nat.reduceEqDiff, Int.cast_ofNat_Int, Int.reduceEq, Int.reduceLT, Int.reduceLE, Int.reduceAdd, Int.reduceSub, Int.reduceMul, Int.reduceNeg, decide_true, decide_false, Bool.false_and, Bool.true_and, Bool.and_true, Bool.and_false, Bool.or_true, Bool.or_false, Bool.true_or, Bool.false_or, if_true, ite_true, ite_false, Bool.false_eq_true, reduceIte, Bool.not_true, Bool.not_false, asI_i, asB_b, asL_l, asL_t, asLst_l, dIs_int_none, dIs_int_bool, dIs_int_int, dIs_int_str, dIs_int_list, dIs_int_tuple, dIs_int_dict, dIs_bool_none, dIs_bool_bool, dIs_bool_int, dIs_bool_str, dIs_bool_list, dIs_bool_tuple, dIs_bool_dict, dIs_str_none, dIs_str_bool, dIs_str_int, dIs_str_str, dIs_str_list, dIs_str_tuple, dIs_str_dict, dIs_tuple_none, dIs_tuple_bool, dIs_tuple_int, dIs_tuple_str, dIs_tuple_list, dIs_tuple_tuple, dIs_tuple_dict, dIs_list_none, dIs_list_bool, dIs_list_int, dIs_list_str, dIs_list_list, dIs_list_tuple, dIs_list_dict, ad_i, ad_l, ad_t, ad_s, sb_i, mu_i, fd_i, md_i, pw_10_6, pw_10_9, pw_10_12, pw_10_18, pw_10_59, pw_10_60, c_lt, c_le, c_gt, c_ge, c_eq_i, c_ne_i, c_eq_b, c_ne_b, c_isN, c_inN, c_isB, c_inB, c_in, c_ni, b_len_l, b_len_t, b_len_s, b_int_i, b_int_b, b_tup_l, b_tup_t, b_lst_l, b_lst_t, b_abs, b2_max, b2_min, ix_l, ix_t, sl_l, sl_t, rv_l, rv_t, getS_z, getS_s, ne_ok, seq_n, seq_r, evSs_n, evSs_c, outR_r, outR_n, bT_n, bT_t, bTs_n, bTs_c, asS, ofO_s]
          rfl
      · simp only [hd, decide_false]
        bv_omega
        exact ⟨_, rfl, ⟨p, _, _, rfl, p1, p2, p3, keep fun z => hd (dvd_iff.mpr z.1)⟩, trivial⟩)
    ⟨⟨S, none, none, rfl, h1, Nat.le_refl _, hS, fun q hq _ hq2 _ => by have := Nat.le_of_dvd h1 hq2; omega⟩, trivial⟩
  obtain ⟨l2, p1, p2, p3, p4⟩ := l2
  rw [l1, l2]
  bv_omega
  have hb := downB_le f p B
  have hmin : ∀ q, 1 ≤ q → q ∣ S → Per f B q → p ≤ q := fun q hq hq2 hq3 => p4 q (by omega) hq hq2 hq3
  refine ⟨downB f p B, p, ?_, canon_of hS h1 p1 p3 hmin, hb, p2⟩
  rw [whl_down (f := f) (p := p) (M := B) (mk := fun B => [some (.list ((bitsF f m).map .bool)), some (.int (B : Int)), some (.int (S : Int)), some (.int (p : Int)), o4, o5, none, none, none]) (by rw [testF_eq]; bv_omega) (fun B' hB' => by
    rw [testF_eq]
    bv_omega
    rw [decide_eq_true (p := (0 : Int) < ((B' + 1 : Nat) : Int)) (by omega)]
    bv_omega
    rw [show ((B' + 1 : Nat) : Int) - 1 = (B' : Int) by omega, bitsF_at f (show B' < m by omega)]
    try simp only [vE_var, vE_int, vE_bl, vE_non, vE_str, vE_cst, vE_bin, vE_cmp, vE_chain, vE_and, vE_or, vE_not, vE_neg, vE_ite, vE_isi, vE_tup, vE_lst, vE_lmul, vE_ix, vE_slice, vE_rev, vE_b1, vE_b2, vE_dm, vE_call, vE_call0, vE_comp, vEs_n, vEs_c, vO_n, vO_s, vC_n, vC_s, vI_1, vI_2, vI_3, vI_s, vI_z, vI_e, zR_l, zR_t, vS_asgT, vS_par, vS_app, vS_setIx, vS_aug, vS_ite, vS_whl, vS_for, vS_ret, vS_retN, vS_expr, vS_pass, aF_n, aF_r, uh_n, uh_c, ag_a, ag_s, cl_n, cl_c, List.getD_cons_zero, List.getD_cons_succ, R.ok_bind, R.exc_bind, R.bad_bind, R.pure_eq, List.length_cons, List.length_nil, List.map_cons, List.map_nil, List.cons_append, List.nil_append, List.replicate_succ, List.replicate_zero, List.set_cons_zero, List.set_cons_succ, Nat.reduceAdd, Nat.reduceSub, Nat.reduceEqDiff, Int.cast_ofNat_Int, Int.reduceEq, Int.reduceLT, Int.reduceLE, Int.reduceAdd, Int.reduceSub, Int.reduceMul, Int.reduceNeg, decide_true, decide_false, Bool.false_and, Bool.true_and, Bool.and_true, Bool.and_false, Bool.or_true, Bool.or_false, Bool.true_or, Bool.false_or, if_true, ite_true, ite_false, Bool.false_eq_true, reduceIte, Bool.not_true, Bool.not_false, asI_i, asB_b, asL_l, asL_t, asLst_l, dIs_int_none, dIs_int_bool, dIs_int_int, dIs_int_str, dIs_int_list, dIs_int_tuple, dIs_int_dict, dIs_bool_none, dIs_bool_bool, dIs_bool_int, dIs_bool_str, dIs_bool_list, dIs_bool_tuple, dIs_bool_dict, dIs_str_none, dIs_str_bool, dIs_str_int, dIs_str_str, dIs_str_list, dIs_str_tuple, dIs_str_dict, dIs_tuple_none, dIs_tuple_bool, dIs_tuple_int, dIs_tuple_str, dIs_tuple_list, dIs_tuple_tuple, dIs_tuple_dict, dIs_list_none, dIs_list_bool, dIs_list_int, dIs_list_str, dIs_list_list, dIs_list_tuple, dIs_list_dict, ad_i, ad_l, ad_t, ad_s, sb_i, mu_i, fd_i, md_i, pw_10_6, pw_10_9, pw_10_12, pw_10_18, pw_10_59, pw_10_60, c_lt, c_le, c_gt, c_ge, c_eq_i, c_ne_i, c_eq_b, c_ne_b, c_isN, c_inN, c_isB, c_inB, c_in, c_ni, b_len_l, b_len_t, b_len_s, b_int_i, b_int_b, b_tup_l, b_tup_t, b_lst_l, b_lst_t, b_abs, b2_max, b2_min, ix_l, ix_t, sl_l, sl_t, rv_l, rv_t, getS_z, getS_s, ne_ok, seq_n, seq_r, evSs_n, evSs_c, outR_r, outR_n, bT_n, bT_t, bTs_n, bTs_c, asS, ofO_s]
    rw [show (B' : Int) + (p : Int) = ((B' + p : Nat) : Int) by omega, bitsF_at f (show B' + p < m by omega)]
    try simp only [vE_var, vE_int, vE_bl, vE_non, vE_str, vE_cst, vE_bin, vE_cmp, vE_chain, vE_and, vE_or, vE_not, vE_neg, vE_ite, vE_isi, vE_tup, vE_lst, vE_lmul, vE_ix, vE_slice, vE_rev, vE_b1, vE_b2, vE_dm, vE_call, vE_call0, vE_comp, vEs_n, vEs_c, vO_n, vO_s, vC_n, vC_s, vI_1, vI_2, vI_3, vI_s, vI_z, vI_e, zR_l, zR_t, vS_asgT, vS_par, vS_app, vS_setIx, vS_aug, vS_ite, vS_whl, vS_for, vS_ret, vS_retN, vS_expr, vS_pass, aF_n, aF_r, uh_n, uh_c, ag_a, ag_s, cl_n, cl_c, List.getD_cons_zero, List.getD_cons_succ, R.ok_bind, R.exc_bind, R.bad_bind, R.pure_eq, List.length_cons, List.length_nil, List.map_cons, List.map_nil, List.cons_append, List.nil_append, List.replicate_succ, List.replicate_zero, List.set_cons_zero, List.set_cons_succ, Nat.reduceAdd, Nat.reduceSub, Nat.reduceEqDiff, Int.cast_ofNat_Int, Int.reduceEq, Int.reduceLT, Int.reduceLE, Int.reduceAdd, Int.reduceSub, Int.reduceMul, Int.reduceNeg, decide_true, decide_false, Bool.false_and, Bool.true_and, Bool.and_true, Bool.and_false, Bool.or_true, Bool.or_false, Bool.true_or, Bool.false_or, if_true, ite_true, ite_false, Bool.false_eq_true, reduceIte, Bool.not_true, Bool.not_false, asI_i, asB_b, asL_l, asL_t, asLst_l, dIs_int_none, dIs_int_bool, dIs_int_int, dIs_int_str, dIs_int_list, dIs_int_tuple, dIs_int_dict, dIs_bool_none, dIs_bool_bool, dIs_bool_int, dIs_bool_str, dIs_bool_list, dIs_bool_tuple, dIs_bool_dict, dIs_str_none, dIs_str_bool, dIs_str_int, dIs_str_str, dIs_str_list, dIs_str_tuple, dIs_str_dict, dIs_tuple_none, dIs_tuple_bool, dIs_tuple_int, dIs_tuple_str, dIs_tuple_list, dIs_tuple_tuple, dIs_tuple_dict, dIs_list_none, dIs_list_bool, dIs_list_int, dIs_list_str, dIs_list_list, dIs_list_tuple, dIs_list_dict, ad_i, ad_l, ad_t, ad_s, sb_i, mu_i, fd_i, md_i, pw_10_6, pw_10_9, pw_10_12, pw_10_18, pw_10_59, pw_10_60, c_lt, c_le, c_gt, c_ge, c_eq_i, c_ne_i, c_eq_b, c_ne_b, c_isN, c_inN, c_isB, c_inB, c_in, c_ni, b_len_l, b_len_t, b_len_s, b_int_i, b_int_b, b_tup_l, b_tup_t, b_lst_l, b_lst_t, b_abs, b2_max, b2_min, ix_l, ix_t, sl_l, sl_t, rv_l, rv_t, getS_z, getS_s, ne_ok, seq_n, seq_r, evSs_n, evSs_c, outR_r, outR_n, bT_n, bT_t, bTs_n, bTs_c, asS, ofO_s]
    cases f B' <;> cases f (B' + p) <;> rfl) (fun B' => by
    unfold f_law_least_b2
    bv_omega
    rw [show ((B' + 1 : Nat) : Int) - 1 = (B' : Int) by omega]) B N (Nat.le_refl _) (by omega)]
  obtain ⟨b, hb2⟩ : ∃ b, b = downB f p B := ⟨_, rfl⟩
  rw [← hb2] at hb ⊢
  bv_omega
  rw [small62_of (by omega)]
  bv_omega
  have g : ∀ x : Nat, x < m → turnC ⟨run Tb N k, N⟩ [8] (.var 8) (.name 8) (.some (.ix (.var 0) (.var 8))) [some (.list ((bitsF f m).map .bool)), some (.int (b : Int)), some (.int (S : Int)), some (.int (p : Int)), o4, o5, none, none, none] (.int (x : Int)) = .ok (if f x then some (.int (x : Int)) else none) := fun x hx => by
    rw [turnC_eq]
    bv_omega
    rw [bitsF_at f hx]
    try simp only [vE_var, vE_int, vE_bl, vE_non, vE_str, vE_cst, vE_bin, vE_cmp, vE_chain, vE_and, vE_or, vE_not, vE_neg, vE_ite, vE_isi, vE_tup, vE_lst, vE_lmul, vE_ix, vE_slice, vE_rev, vE_b1, vE_b2, vE_dm, vE_call, vE_call0, vE_comp, vEs_n, vEs_c, vO_n, vO_s, vC_n, vC_s, vI_1, vI_2, vI_3, vI_s, vI_z, vI_e, zR_l, zR_t, vS_asgT, vS_par, vS_app, vS_setIx, vS_aug, vS_ite, vS_whl, vS_for, vS_ret, vS_retN, vS_expr, vS_pass, aF_n, aF_r, uh_n, uh_c, ag_a, ag_s, cl_n, cl_c, List.getD_cons_zero, List.getD_cons_succ, R.ok_bind, R.exc_bind, R.bad_bind, R.pure_eq, List.length_cons, List.length_nil, List.map_cons, List.map_nil, List.cons_append, List.nil_append, List.replicate_succ, List.replicate_zero, List.set_cons_zero, List.set_cons_succ, Nat.reduceAdd, Nat.reduceSub, Nat.reduceEqDiff, Int.cast_ofNat_Int, Int.reduceEq, Int.reduceLT, Int.reduceLE, Int.reduceAdd, Int.reduceSub, Int.reduceMul, Int.reduceNeg, decide_true, decide_false, Bool.false_and, Bool.true_and, Bool.and_true, Bool.and_false, Bool.or_true, Bool.or_false, Bool.true_or, Bool.false_or, if_true, ite_true, ite_false, Bool.false_eq_true, reduceIte, Bool.not_true, Bool.not_false, asI_i, asB_b, asL_l, asL_t, asLst_l, dIs_int_none, dIs_int_bool, dIs_int_int, dIs_int_str, dIs_int_list, dIs_int_tuple, dIs_int_dict, dIs_bool_none, dIs_bool_bool, dIs_bool_int, dIs_bool_str, dIs_bool_list, dIs_bool_tuple, dIs_bool_dict, dIs_str_none, dIs_str_bool, dIs_str_int, dIs_str_str, dIs_str_list, dIs_str_tuple, dIs_str_dict, dIs_tuple_none, dIs_tuple_bool, dIs_tuple_int, dIs_tuple_str, dIs_tuple_list, dIs_tuple_tuple, dIs_tuple_dict, dIs_list_none, dIs_list_bool, dIs_list_int, dIs_list_str, dIs_list_list, dIs_list_tuple, dIs_list_dict, ad_i, ad_l, ad_t, ad_s, sb_i, mu_i, fd_i, md_i, pw_10_6, pw_10_9, pw_10_12, pw_10_18, pw_10_59, pw_10_60, c_lt, c_le, c_gt, c_ge, c_eq_i, c_ne_i, c_eq_b, c_ne_b, c_isN, c_inN, c_isB, c_inB, c_in, c_ni, b_len_l, b_len_t, b_len_s, b_int_i, b_int_b, b_tup_l, b_tup_t, b_lst_l, b_lst_t, b_abs, b2_max, b2_min, ix_l, ix_t, sl_l, sl_t, rv_l, rv_t, getS_z, getS_s, ne_ok, seq_n, seq_r, evSs_n, evSs_c, outR_r, outR_n, bT_n, bT_t, bTs_n, bTs_c, asS, ofO_s]
    cases f x <;> rfl
  rw [show rng 0 ((b : Int)).toNat 1 = rng ((0 : Nat) : Int) b 1 from rfl, comp_F f _ g b 0 (by omega)]
  bv_omega
  have n1 := onF_len f 0 b
  have n2 := onF_len f b p
  rw [sized_ok (lt_size (by rw [ints_len]; omega))]
  bv_omega
  rw [small62_of (by omega), small62_of (by omega)]
  bv_omega
  have g2 : ∀ x : Nat, x < m → turnC ⟨run Tb N k, N⟩ [8] (.var 8) (.name 8) (.some (.ix (.var 0) (.var 8))) [some (.list ((bitsF f m).map .bool)), some (.int (b : Int)), some (.int (S : Int)), some (.int (p : Int)), o4, o5, none, some (.tuple ((onF f 0 b).map .int)), none] (.int (x : Int)) = .ok (if f x then some (.int (x : Int)) else none) := fun x hx => by
    rw [turnC_eq]
    bv_omega
    rw [bitsF_at f hx]
    try simp only [vE_var, vE_int, vE_bl, vE_non, vE_str, vE_cst, vE_bin, vE_cmp, vE_chain, vE_and, vE_or, vE_not, vE_neg, vE_ite, vE_isi, vE_tup, vE_lst, vE_lmul, vE_ix, vE_slice, vE_rev, vE_b1, vE_b2, vE_dm, vE_call, vE_call0, vE_comp, vEs_n, vEs_c, vO_n, vO_s, vC_n, vC_s, vI_1, vI_2, vI_3, vI_s, vI_z, vI_e, zR_l, zR_t, vS_asgT, vS_par, vS_app, vS_setIx, vS_aug, vS_ite, vS_whl, vS_for, vS_ret, vS_retN, vS_expr, vS_pass, aF_n, aF_r, uh_n, uh_c, ag_a, ag_s, cl_n, cl_c, List.getD_cons_zero, List.getD_cons_succ, R.ok_bind, R.exc_bind, R.bad_bind, R.pure_eq, List.length_cons, List.length_nil, List.map_cons, List.map_nil, List.cons_append, List.nil_append, List.replicate_succ, List.replicate_zero, List.set_cons_zero, List.set_cons_succ, Nat.reduceAdd, Nat.reduceSub, Nat.reduceEqDiff, Int.cast_ofNat_Int, Int.reduceEq, Int.reduceLT, Int.reduceLE, Int.reduceAdd, Int.reduceSub, Int.reduceMul, Int.reduceNeg, decide_true, decide_false, Bool.false_and, Bool.true_and, Bool.and_true, Bool.and_false, Bool.or_true, Bool.or_false, Bool.true_or, Bool.false_or, if_true, ite_true, ite_false, Bool.false_eq_true, reduceIte, Bool.not_true, Bool.not_false, asI_i, asB_b, asL_l, asL_t, asLst_l, dIs_int_none, dIs_int_bool, dIs_int_int, dIs_int_str, dIs_int_list, dIs_int_tuple, dIs_int_dict, dIs_bool_none, dIs_bool_bool, dIs_bool_int, dIs_bool_str, dIs_bool_list, dIs_bool_tuple, dIs_bool_dict, dIs_str_none, dIs_str_bool, dIs_str_int, dIs_str_str, dIs_str_list, dIs_str_tuple, dIs_str_dict, dIs_tuple_none, dIs_tuple_bool, dIs_tuple_int, dIs_tuple_str, dIs_tuple_list, dIs_tuple_tuple, dIs_tuple_dict, dIs_list_none, dIs_list_bool, dIs_list_int, dIs_list_str, dIs_list_list, dIs_list_tuple, dIs_list_dict, ad_i, ad_l, ad_t, ad_s, sb_i, mu_i, fd_i, md_i, pw_10_6, pw_10_9, pw_10_12, pw_10_18, pw_10_59, pw_10_60, c_lt, c_le, c_gt, c_ge, c_eq_i, c_ne_i, c_eq_b, c_ne_b, c_isN, c_inN, c_isB, c_inB, c_in, c_ni, b_len_l, b_len_t, b_len_s, b_int_i, b_int_b, b_tup_l, b_tup_t, b_lst_l, b_lst_t, b_abs, b2_max, b2_min, ix_l, ix_t, sl_l, sl_t, rv_l, rv_t, getS_z, getS_s, ne_ok, seq_n, seq_r, evSs_n, evSs_c, outR_r, outR_n, bT_n, bT_t, bTs_n, bTs_c, asS, ofO_s]
    cases f x <;> rfl
  rw [show ((b : Int) + (p : Int) - (b : Int)).toNat = p by omega, comp_F f _ g2 p b (by omega)]
  bv_omega
  rw [sized_ok (lt_size (by rw [ints_len]; omega))]
  bv_omega
  rw [mkTup_ok (lt_size (by simp))]
  rfl
end Ev
set_option Elab.async false
set_option linter.all false
set_option maxRecDepth 100000
set_option maxHeartbeats 4000000
namespace Ev
open PySem
local macro_rules | `(tactic| bv_omega) => `(tactic| try simp only [vE_var, vE_int, vE_bl, vE_non, vE_str, vE_cst, vE_bin, vE_cmp, vE_chain, vE_and, vE_or, vE_not, vE_neg, vE_ite, vE_isi, vE_tup, vE_lst, vE_lmul, vE_ix, vE_slice, vE_rev, vE_b1, vE_b2, vE_dm, vE_call, vE_call0, vE_comp, vEs_n, vEs_c, vO_n, vO_s, vC_n, vC_s, vI_1, vI_2, vI_3, vI_s, vI_z, vI_e, zR_l, zR_t, vS_asgT, vS_par, vS_app, vS_setIx, vS_aug, vS_ite, vS_whl, vS_for, vS_ret, vS_retN, vS_expr, vS_pass, aF_n, aF_r, uh_n, uh_c, ag_a, ag_s, cl_n, cl_c, List.getD_cons_zero, List.getD_cons_succ, R.ok_bind, R.exc_bind, R.bad_bind, R.pure_eq, List.length_cons, List.length_nil, List.map_cons, List.map_nil, List.cons_append, List.nil_append, List.replicate_succ, List.replicate_zero, List.set_cons_zero, List.set_cons_succ, Nat.reduceAdd, Nat.reduceSub, Nat.reduceEqDiff, Int.cast_ofNat_Int, Int.reduceEq, Int.reduceLT, Int.reduceLE, Int.reduceAdd, Int.reduceSub, Int.reduceMul, Int.reduceNeg, decide_true, decide_false, Bool.false_and, Bool.true_and, Bool.and_true, Bool.and_false, Bool.or_true, Bool.or_false, Bool.true_or, Bool.false_or, if_true, ite_true, ite_false, Bool.false_eq_true, reduceIte, Bool.not_true, Bool.not_false, asI_i, asB_b, asL_l, asL_t, asLst_l, dIs_int_none, dIs_int_bool, dIs_int_int, dIs_int_str, dIs_int_list, dIs_int_tuple, dIs_int_dict, dIs_bool_none, dIs_bool_bool, dIs_bool_int, dIs_bool_str, dIs_bool_list, dIs_bool_tuple, dIs_bool_dict, dIs_str_none, dIs_str_bool, dIs_str_int, dIs_str_str, dIs_str_list, dIs_str_tuple, dIs_str_dict, dIs_tuple_none, dIs_tuple_bool, dIs_tuple_int, dIs_tuple_str, dIs_tuple_list, dIs_tuple_tuple, dIs_tuple_dict, dIs_list_none, dIs_list_bool, dIs_list_int, dIs_list_str, dIs_list_list, dIs_list_tuple, dIs_list_dict, ad_i, ad_l, ad_t, ad_s, sb_i, mu_i, fd_i, md_i, pw_10_6, pw_10_9, pw_10_12, pw_10_18, pw_10_59, pw_10_60, c_lt, c_le, c_gt, c_ge, c_eq_i, c_ne_i, c_eq_b, c_ne_b, c_isN, c_inN, c_isB, c_inB, c_in, c_ni, b_len_l, b_len_t, b_len_s, b_int_i, b_int_b, b_tup_l, b_tup_t, b_lst_l, b_lst_t, b_abs, b2_max, b2_min, ix_l, ix_t, sl_l, sl_t, rv_l, rv_t, getS_z, getS_s, ne_ok, seq_n, seq_r, evSs_n, evSs_c, outR_r, outR_n, bT_n, bT_t, bTs_n, bTs_c, asS])
variable {N k : Nat}
theorem bitsF_set (g : Sq) (m x : Nat) : (bitsF g m).set x true = bitsF (fun y => decide (y = x) || g y) m := by
  apply List.ext_getElem
  · rw [List.length_set, bitsF_len, bitsF_len]
  · intro i h1 h2
    rw [bitsF_get, List.getElem_set]
    by_cases e : x = i
    · rw [if_pos e, decide_eq_true e.symm]; rfl
    · rw [if_neg e, bitsF_get, decide_eq_false (fun z => e z.symm)]; rfl
theorem bitsF_congr {g h : Sq} {m : Nat} (e : ∀ y, y < m → g y = h y) : bitsF g m = bitsF h m := List.map_congr_left fun i hi => e i (List.mem_range.mp hi)
/-- bits[x] = True -/
theorem set_bits (g : Sq) {m x : Nat} (h : x < m) : setAt ((bitsF g m).map PyData.bool) (x : Int) (.bool true) = .ok ((bitsF (fun y => decide (y = x) || g y) m).map .bool) := by
  rw [setAt_ok (by rw [bl_len, bitsF_len]; exact h), ← List.map_set, bitsF_set]
/-- where p holds -/
noncomputable def mk (p : Nat → Prop) : Sq := fun y => @decide (p y) (Classical.propDecidable _)
theorem mk_iff {p : Nat → Prop} {y : Nat} : mk p y = true ↔ p y := by unfold mk; exact @decide_eq_true_iff _ (Classical.propDecidable _)
theorem mk_congr {p q : Nat → Prop} (h : ∀ y, p y ↔ q y) : mk p = mk q := by
  funext y
  rw [Bool.eq_iff_iff, mk_iff, mk_iff]
  exact h y
theorem mk_set (p : Nat → Prop) (x : Nat) : (fun y => decide (y = x) || mk p y) = mk fun y => y = x ∨ p y := by
  funext y
  rw [Bool.eq_iff_iff, Bool.or_eq_true, mk_iff, mk_iff, decide_eq_true_eq]
theorem mk_false (m : Nat) : List.replicate m false = bitsF (mk fun _ => False) m := by
  apply List.ext_getElem
  · rw [List.length_replicate, bitsF_len]
  · intro i h1 h2
    rw [List.getElem_replicate, bitsF_get]
    exact (Bool.eq_false_iff.mpr fun z => mk_iff.mp z).symm
/-- what a stair's marks are -/
theorem marks {f : Sq} {B S y : Nat} (hS : Per f B S) (h1 : 1 ≤ S) : ((∃ x : Nat, (x : Int) ∈ onF f B S ∧ x ≤ y ∧ S ∣ y - x) ∨ (y : Int) ∈ onF f 0 B) ↔ f y = true := by
  constructor
  · rintro (⟨x, hx, hxy, n, hn⟩ | h)
    · obtain ⟨i, hi, hf, e⟩ := (mem_onF f B S (x : Int)).mp hx
      have ex : x = B + i := by omega
      have e2 := hS.mul n x (by omega)
      rw [show x + S * n = y by omega] at e2
      rw [e2, ex]
      exact hf
    · obtain ⟨i, hi, hf, e⟩ := (mem_onF f 0 B (y : Int)).mp h
      have ey : y = i := by omega
      rw [ey]
      rw [Nat.zero_add] at hf
      exact hf
  · intro h
    by_cases hb : y < B
    · exact .inr ((mem_onF f 0 B (y : Int)).mpr ⟨y, hb, by rw [Nat.zero_add]; exact h, by omega⟩)
    · refine .inl ⟨B + (y - B) % S, (mem_onF f B S _).mpr ⟨(y - B) % S, Nat.mod_lt _ (by omega), ?_, by omega⟩, ?_, (y - B) / S, ?_⟩
      · have e2 := hS.mul ((y - B) / S) (B + (y - B) % S) (by omega)
        have e3 := Nat.mod_add_div (y - B) S
        rw [show B + (y - B) % S + S * ((y - B) / S) = y by omega] at e2
        rw [← e2]
        exact h
      · have e3 := Nat.mod_le (y - B) S
        omega
      · have e3 := Nat.mod_add_div (y - B) S
        omega
/-- the turns of range(x, m, S) -/
theorem stepN_mem {x m S y : Nat} (h1 : 1 ≤ S) (hy : y < m) : (∃ t, t < stepN (x : Int) (m : Int) (S : Int) ∧ y = x + t * S) ↔ x ≤ y ∧ S ∣ y - x := by
  unfold stepN
  rw [if_pos (show (0 : Int) < (S : Int) by omega)]
  by_cases hxm : x < m
  · rw [if_pos (show (x : Int) < (m : Int) by omega)]
    have e : (((m : Int) - (x : Int) - 1) / (S : Int) + 1).toNat = (m - x - 1) / S + 1 := by
      rw [show (m : Int) - (x : Int) - 1 = ((m - x - 1 : Nat) : Int) by omega, ← Int.natCast_ediv]
      have k : ∀ n : Nat, ((n : Int) + 1).toNat = n + 1 := fun n => by omega
      exact k _
    rw [e]
    constructor
    · rintro ⟨t, ht, rfl⟩
      exact ⟨by omega, t, by rw [Nat.mul_comm]; omega⟩
    · rintro ⟨hxy, n, hn⟩
      refine ⟨n, ?_, by rw [Nat.mul_comm]; omega⟩
      have : n ≤ (m - x - 1) / S := (Nat.le_div_iff_mul_le (by omega)).mpr (by rw [Nat.mul_comm]; omega)
      omega
  · rw [if_neg (show ¬ (x : Int) < (m : Int) by omega)]
    constructor
    · rintro ⟨t, ht, _⟩
      omega
    · rintro ⟨hxy, _⟩
      omega
end Ev
set_option Elab.async false
set_option linter.all false
set_option maxRecDepth 100000
set_option maxHeartbeats 4000000
namespace Ev
open PySem
local macro_rules | `(tactic| bv_omega) => `(tactic| try simp only [vE_var, vE_int, vE_bl, vE_non, vE_str, vE_cst, vE_bin, vE_cmp, vE_chain, vE_and, vE_or, vE_not, vE_neg, vE_ite, vE_isi, vE_tup, vE_lst, vE_lmul, vE_ix, vE_slice, vE_rev, vE_b1, vE_b2, vE_dm, vE_call, vE_call0, vE_comp, vEs_n, vEs_c, vO_n, vO_s, vC_n, vC_s, vI_1, vI_2, vI_3, vI_s, vI_z, vI_e, zR_l, zR_t, vS_asgT, vS_par, vS_app, vS_setIx, vS_aug, vS_ite, vS_whl, vS_for, vS_ret, vS_retN, vS_expr, vS_pass, aF_n, aF_r, uh_n, uh_c, ag_a, ag_s, cl_n, cl_c, List.getD_cons_zero, List.getD_cons_succ, R.ok_bind, R.exc_bind, R.bad_bind, R.pure_eq, List.length_cons, List.length_nil, List.map_cons, List.map_nil, List.cons_append, List.nil_append, List.replicate_succ, List.replicate_zero, List.set_cons_zero, List.set_cons_succ, Nat.reduceAdd, Nat.reduceSub, Nat.reduceEqDiff, Int.cast_ofNat_Int, Int.reduceEq, Int.reduceLT, Int.reduceLE, Int.reduceAdd, Int.reduceSub, Int.reduceMul, Int.reduceNeg, decide_true, decide_false, Bool.false_and, Bool.true_and, Bool.and_true, Bool.and_false, Bool.or_true, Bool.or_false, Bool.true_or, Bool.false_or, if_true, ite_true, ite_false, Bool.false_eq_true, reduceIte, Bool.not_true, Bool.not_false, asI_i, asB_b, asL_l, asL_t, asLst_l, dIs_int_none, dIs_int_bool, dIs_int_int, dIs_int_str, dIs_int_list, dIs_int_tuple, dIs_int_dict, dIs_bool_none, dIs_bool_bool, dIs_bool_int, dIs_bool_str, dIs_bool_list, dIs_bool_tuple, dIs_bool_dict, dIs_str_none, dIs_str_bool, dIs_str_int, dIs_str_str, dIs_str_list, dIs_str_tuple, dIs_str_dict, dIs_tuple_none, dIs_tuple_bool, dIs_tuple_int, dIs_tuple_str, dIs_tuple_list, dIs_tuple_tuple, dIs_tuple_dict, dIs_list_none, dIs_list_bool, dIs_list_int, dIs_list_str, dIs_list_list, dIs_list_tuple, dIs_list_dict, ad_i, ad_l, ad_t, ad_s, sb_i, mu_i, fd_i, md_i, pw_10_6, pw_10_9, pw_10_12, pw_10_18, pw_10_59, pw_10_60, c_lt, c_le, c_gt, c_ge, c_eq_i, c_ne_i, c_eq_b, c_ne_b, c_isN, c_inN, c_isB, c_inB, c_in, c_ni, b_len_l, b_len_t, b_len_s, b_int_i, b_int_b, b_tup_l, b_tup_t, b_lst_l, b_lst_t, b_abs, b2_max, b2_min, ix_l, ix_t, sl_l, sl_t, rv_l, rv_t, getS_z, getS_s, ne_ok, seq_n, seq_r, evSs_n, evSs_c, outR_r, outR_n, bT_n, bT_t, bTs_n, bTs_c, asS])
variable {N k : Nat}
theorem stepN_lt {x m S i : Nat} (h1 : 1 ≤ S) (h : i < stepN (x : Int) (m : Int) (S : Int)) : x + i * S < m := by
  unfold stepN at h
  rw [if_pos (show (0 : Int) < (S : Int) by omega)] at h
  by_cases hxm : x < m
  · rw [if_pos (show (x : Int) < (m : Int) by omega), show (m : Int) - (x : Int) - 1 = ((m - x - 1 : Nat) : Int) by omega, ← Int.natCast_ediv] at h
    have k : ∀ n : Nat, ((n : Int) + 1).toNat = n + 1 := fun n => by omega
    rw [k] at h
    have := (Nat.le_div_iff_mul_le (show 0 < S by omega)).mp (Nat.le_of_lt_succ h)
    omega
  · rw [if_neg (show ¬ (x : Int) < (m : Int) by omega)] at h
    omega
theorem stepOk_nat {S : Nat} (h1 : 1 ≤ S) (h2 : S ≤ 900000) : stepOk (S : Int) = true := by
  show (Nat.ble 1 S && Nat.ble S 1073741823) = true
  rw [Nat.ble_eq_true_of_le h1, Nat.ble_eq_true_of_le (by omega)]
  rfl
theorem ex_succ {x S i : Nat} {p : Nat → Prop} (y : Nat) : (y = x + i * S ∨ ((∃ t, t < i ∧ y = x + t * S) ∨ p y)) ↔ ((∃ t, t < i + 1 ∧ y = x + t * S) ∨ p y) := by
  constructor
  · rintro (h | ⟨t, h, e⟩ | h)
    · exact .inl ⟨i, by omega, h⟩
    · exact .inl ⟨t, by omega, e⟩
    · exact .inr h
  · rintro (⟨t, h, e⟩ | h)
    · by_cases ht : t = i
      · subst ht; exact .inl e
      · exact .inr (.inl ⟨t, by omega, e⟩)
    · exact .inr (.inr h)
theorem mem_take1 {os : List Int} {i x : Nat} (q : os[i]? = some (x : Int)) (y : Nat) : (y = x ∨ (y : Int) ∈ os.take i) ↔ (y : Int) ∈ os.take (i + 1) := by
  rw [List.take_add_one, q]
  show (y = x ∨ (y : Int) ∈ os.take i) ↔ (y : Int) ∈ os.take i ++ [(x : Int)]
  rw [List.mem_append, List.mem_singleton]
  constructor
  · rintro (h | h)
    · exact .inr (by omega)
    · exact .inl h
  · rintro (h | h)
    · exact .inr h
    · exact .inl (by omega)
/-! ### the package's own bits -/
section
variable {st : D} {m B S : Nat} {o a : D} {Φ : Cfg}
abbrev envB (st : D) (m B S : Nat) (o a : D) (g : Sq) (o7 o8 : Option D) : Env := [some st, some (.int m), some (.int B), some (.int S), some o, some a, some (.list ((bitsF g m).map .bool)), o7, o8]
theorem bits_in (p : Nat → Prop) (x : Nat) (o8 : Option D) (h1 : 1 ≤ S) : ∃ o8', forL (stepF Φ (.name 8) f_bits_of_b2) (rng (x : Int) (stepN (x : Int) (m : Int) (S : Int)) (S : Int)) (envB st m B S o a (mk p) (some (.int (x : Int))) o8) =
    .ok (.next (envB st m B S o a (mk fun y => (∃ t, t < stepN (x : Int) (m : Int) (S : Int) ∧ y = x + t * S) ∨ p y) (some (.int (x : Int))) o8')) := by
  obtain ⟨e', l1, o8', l2⟩ := forL_rng (f := stepF Φ (.name 8) f_bits_of_b2) (lo := (x : Int)) (c := (S : Int)) (n := stepN (x : Int) (m : Int) (S : Int)) (e := envB st m B S o a (mk p) (some (.int (x : Int))) o8)
    (Inv := fun i e => ∃ o8', e = envB st m B S o a (mk fun y => (∃ t, t < i ∧ y = x + t * S) ∨ p y) (some (.int (x : Int))) o8')
    (fun i e hi ⟨o8', he⟩ => by
      subst he
      rw [stepF_eq, show (x : Int) + (i : Int) * (S : Int) = ((x + i * S : Nat) : Int) by rw [Int.natCast_add, Int.natCast_mul]]
      unfold f_bits_of_b2 envB
      bv_omega
      rw [set_bits _ (stepN_lt h1 hi)]
      bv_omega
      refine ⟨_, rfl, some (.int ((x + i * S : Nat) : Int)), ?_⟩
      rw [mk_set, mk_congr fun y => ex_succ y])
    ⟨o8, by rw [mk_congr (p := fun y => (∃ t, t < 0 ∧ y = x + t * S) ∨ p y) (q := p) fun y => ⟨fun h => h.elim (fun ⟨_, z, _⟩ => absurd z (Nat.not_lt_zero _)) id, .inr⟩]⟩
  exact ⟨o8', by rw [l1, l2]⟩
theorem bits_once (os : List Int) (hos : ∀ x ∈ os, 0 ≤ x ∧ x < m) (o7 o8 : Option D) : ∃ o7', forL (stepF Φ (.name 7) f_bits_of_b1) (os.map .int) (envB st m B S o a (mk fun _ => False) o7 o8) =
    .ok (.next (envB st m B S o a (mk fun y => (y : Int) ∈ os) o7' o8)) := by
  obtain ⟨e', l1, o7', l2⟩ := forL_lst (f := stepF Φ (.name 7) f_bits_of_b1) (l := os.map .int) (e := envB st m B S o a (mk fun _ => False) o7 o8)
    (Inv := fun i e => ∃ o7', e = envB st m B S o a (mk fun y => (y : Int) ∈ os.take i) o7' o8)
    (fun i d e hi ⟨o7', he⟩ => by
      subst he
      rw [List.getElem?_map] at hi
      cases q : os[i]? with
      | none => rw [q] at hi; cases hi
      | some z =>
        rw [q] at hi
        cases hi
        have hz := hos z (List.mem_of_getElem? q)
        obtain ⟨x, rfl⟩ : ∃ x : Nat, z = (x : Int) := ⟨z.toNat, by omega⟩
        rw [stepF_eq]
        unfold f_bits_of_b1 envB
        bv_omega
        rw [set_bits _ (by omega)]
        bv_omega
        refine ⟨_, rfl, some (.int (x : Int)), ?_⟩
        rw [mk_set, mk_congr (q := fun y => (y : Int) ∈ os.take (i + 1)) fun y => mem_take1 q y])
    ⟨o7, by rw [List.take_zero, mk_congr (p := fun y => (y : Int) ∈ ([] : List Int)) (q := fun _ => False) fun y => ⟨(fun h => nomatch h), fun h => h.elim⟩]⟩
  rw [List.length_map, List.take_length] at l2
  exact ⟨o7', by rw [l1, l2]⟩
theorem bits_again (p : Nat → Prop) (as : List Int) (has : ∀ x ∈ as, 0 ≤ x ∧ x < 900000) (h1 : 1 ≤ S) (h2 : S ≤ 900000) (hm : m ≤ 900000) (o7 o8 : Option D) : ∃ o7' o8', forL (stepF Φ (.name 7) f_bits_of_b3) (as.map .int) (envB st m B S o a (mk p) o7 o8) =
    .ok (.next (envB st m B S o a (mk fun y => y < m ∧ (∃ x : Nat, (x : Int) ∈ as ∧ x ≤ y ∧ S ∣ y - x) ∨ p y) o7' o8')) := by
  obtain ⟨e', l1, o7', o8', q', l2, l3⟩ := forL_lst (f := stepF Φ (.name 7) f_bits_of_b3) (l := as.map .int) (e := envB st m B S o a (mk p) o7 o8)
    (Inv := fun i e => ∃ (o7' o8' : Option D) (r : Nat → Prop), e = envB st m B S o a (mk r) o7' o8' ∧ ∀ y, y < m → (r y ↔ (∃ x : Nat, (x : Int) ∈ as.take i ∧ x ≤ y ∧ S ∣ y - x) ∨ p y))
    (fun i d e hi ⟨o7', o8', r, he, hr⟩ => by
      subst he
      rw [List.getElem?_map] at hi
      cases q : as[i]? with
      | none => rw [q] at hi; cases hi
      | some z =>
        rw [q] at hi
        cases hi
        have hz := has z (List.mem_of_getElem? q)
        obtain ⟨x, rfl⟩ : ∃ x : Nat, z = (x : Int) := ⟨z.toNat, by omega⟩
        obtain ⟨o8'', e1⟩ := bits_in (st := st) (m := m) (B := B) (S := S) (o := o) (a := a) (Φ := Φ) r x o8' h1
        rw [stepF_eq]
        unfold f_bits_of_b3 envB
        unfold envB at e1
        bv_omega
        rw [if_pos ⟨stepOk_nat h1 h2, small62_of (by omega), small62_of (by omega)⟩]
        bv_omega
        rw [e1]
        bv_omega
        refine ⟨_, rfl, _, _, _, rfl, fun y hy => ?_⟩
        rw [stepN_mem h1 hy, hr y hy, List.take_add_one, q]
        constructor
        · rintro (⟨h3, h4⟩ | ⟨x', h3, h4⟩ | h)
          · exact .inl ⟨x, List.mem_append_right _ (List.mem_singleton.mpr rfl), h3, h4⟩
          · exact .inl ⟨x', List.mem_append_left _ h3, h4⟩
          · exact .inr h
        · rintro (⟨x', h3, h4⟩ | h)
          · rcases List.mem_append.mp h3 with h3 | h3
            · exact .inr (.inl ⟨x', h3, h4⟩)
            · have e : (x' : Int) = (x : Int) := List.mem_singleton.mp h3
              have e : x' = x := by omega
              subst e
              exact .inl h4
          · exact .inr (.inr h))
    ⟨o7, o8, p, rfl, fun y _ => ⟨.inr, fun h => h.elim (fun ⟨_, z, _⟩ => by rw [List.take_zero] at z; exact nomatch z) id⟩⟩
  rw [List.length_map, List.take_length] at l3
  refine ⟨o7', o8', ?_⟩
  rw [l1, l2]
  have e : bitsF (mk q') m = bitsF (mk fun y => y < m ∧ (∃ x : Nat, (x : Int) ∈ as ∧ x ≤ y ∧ S ∣ y - x) ∨ p y) m := bitsF_congr fun y hy => by
    rw [Bool.eq_iff_iff, mk_iff, mk_iff, l3 y hy]
    exact ⟨fun h => h.imp (fun h => ⟨hy, h⟩) id, fun h => h.imp (fun h => h.2) id⟩
  unfold envB
  rw [e]
end
theorem onF_lt {f : Sq} {lo n : Nat} : ∀ x ∈ onF f lo n, (lo : Int) ≤ x ∧ x < lo + n := fun x hx => by
  obtain ⟨i, hi, _, e⟩ := (mem_onF f lo n x).mp hx
  omega
theorem bits_of_ok {f : Sq} {B S m : Nat} (hS : Per f B S) (h1 : 1 ≤ S) (h2 : B + S ≤ 900000) (hm : B ≤ m) (hm2 : m ≤ 900000) : run Tb N (k + 1) 27 [stD f B S, .int (m : Int)] = .ok (bitsD (bitsF f m)) := by
  rw [run_eq (fn := f_bits_of) rfl rfl]
  unfold f_bits_of
  obtain ⟨o7, l1⟩ := bits_once (st := stD f B S) (m := m) (B := B) (S := S) (o := .tuple ((onF f 0 B).map .int)) (a := .tuple ((onF f B S).map .int)) (Φ := ⟨run Tb N k, N⟩) (onF f 0 B) (fun x hx => by have := onF_lt x hx; omega) none none
  obtain ⟨o7', o8', l2⟩ := bits_again (st := stD f B S) (m := m) (B := B) (S := S) (o := .tuple ((onF f 0 B).map .int)) (a := .tuple ((onF f B S).map .int)) (Φ := ⟨run Tb N k, N⟩) (fun y => (y : Int) ∈ onF f 0 B) (onF f B S) (fun x hx => by have := onF_lt x hx; omega) h1 (by omega) hm2 o7 none
  unfold envB at l1 l2
  have est : stD f B S = .tuple [.int B, .int S, .tuple ((onF f 0 B).map .int), .tuple ((onF f B S).map .int)] := rfl
  rw [est] at l1 l2 ⊢
  bv_omega
  rw [lmulK_ok rfl (by omega), rep_oneB, show ((m : Int)).toNat = m from rfl, mk_false]
  bv_omega
  rw [l1]
  bv_omega
  rw [l2]
  bv_omega
  unfold bitsD
  rw [bitsF_congr (g := mk fun y => y < m ∧ (∃ x : Nat, (x : Int) ∈ onF f B S ∧ x ≤ y ∧ S ∣ y - x) ∨ (y : Int) ∈ onF f 0 B) (h := f) fun y hy => by
    rw [Bool.eq_iff_iff, mk_iff, ← marks hS h1]
    exact ⟨fun h => h.imp (fun h => h.2) id, fun h => h.imp (fun h => ⟨hy, h⟩) id⟩]
end Ev
set_option Elab.async false
set_option linter.all false
set_option maxRecDepth 100000
set_option maxHeartbeats 4000000
namespace Ev
open PySem
local macro_rules | `(tactic| bv_omega) => `(tactic| try simp only [vE_var, vE_int, vE_bl, vE_non, vE_str, vE_cst, vE_bin, vE_cmp, vE_chain, vE_and, vE_or, vE_not, vE_neg, vE_ite, vE_isi, vE_tup, vE_lst, vE_lmul, vE_ix, vE_slice, vE_rev, vE_b1, vE_b2, vE_dm, vE_call, vE_call0, vE_comp, vEs_n, vEs_c, vO_n, vO_s, vC_n, vC_s, vI_1, vI_2, vI_3, vI_s, vI_z, vI_e, zR_l, zR_t, vS_asgT, vS_par, vS_app, vS_setIx, vS_aug, vS_ite, vS_whl, vS_for, vS_ret, vS_retN, vS_expr, vS_pass, aF_n, aF_r, uh_n, uh_c, ag_a, ag_s, cl_n, cl_c, List.getD_cons_zero, List.getD_cons_succ, R.ok_bind, R.exc_bind, R.bad_bind, R.pure_eq, List.length_cons, List.length_nil, List.map_cons, List.map_nil, List.cons_append, List.nil_append, List.replicate_succ, List.replicate_zero, List.set_cons_zero, List.set_cons_succ, Nat.reduceAdd, Nat.reduceSub, Nat.reduceEqDiff, Int.cast_ofNat_Int, Int.reduceEq, Int.reduceLT, Int.reduceLE, Int.reduceAdd, Int.reduceSub, Int.reduceMul, Int.reduceNeg, decide_true, decide_false, Bool.false_and, Bool.true_and, Bool.and_true, Bool.and_false, Bool.or_true, Bool.or_false, Bool.true_or, Bool.false_or, if_true, ite_true, ite_false, Bool.false_eq_true, reduceIte, Bool.not_true, Bool.not_false, asI_i, asB_b, asL_l, asL_t, asLst_l, dIs_int_none, dIs_int_bool, dIs_int_int, dIs_int_str, dIs_int_list, dIs_int_tuple, dIs_int_dict, dIs_bool_none, dIs_bool_bool, dIs_bool_int, dIs_bool_str, dIs_bool_list, dIs_bool_tuple, dIs_bool_dict, dIs_str_none, dIs_str_bool, dIs_str_int, dIs_str_str, dIs_str_list, dIs_str_tuple, dIs_str_dict, dIs_tuple_none, dIs_tuple_bool, dIs_tuple_int, dIs_tuple_str, dIs_tuple_list, dIs_tuple_tuple, dIs_tuple_dict, dIs_list_none, dIs_list_bool, dIs_list_int, dIs_list_str, dIs_list_list, dIs_list_tuple, dIs_list_dict, ad_i, ad_l, ad_t, ad_s, sb_i, mu_i, fd_i, md_i, pw_10_6, pw_10_9, pw_10_12, pw_10_18, pw_10_59, pw_10_60, c_lt, c_le, c_gt, c_ge, c_eq_i, c_ne_i, c_eq_b, c_ne_b, c_isN, c_inN, c_isB, c_inB, c_in, c_ni, b_len_l, b_len_t, b_len_s, b_int_i, b_int_b, b_tup_l, b_tup_t, b_lst_l, b_lst_t, b_abs, b2_max, b2_min, ix_l, ix_t, sl_l, sl_t, rv_l, rv_t, getS_z, getS_s, ne_ok, seq_n, seq_r, evSs_n, evSs_c, outR_r, outR_n, bT_n, bT_t, bTs_n, bTs_c, asS])
variable {N k : Nat}
/-! ### the law's own bits -/
section
variable {st : D} {m S : Nat} {Φ : Cfg}
abbrev envL (st : D) (m : Nat) (g : Sq) (o7 o8 : Option D) : Env := [some st, some (.int m), some (.list ((bitsF g m).map .bool)), o7, o8]
theorem lbits_in (p : Nat → Prop) (x : Nat) (o8 : Option D) (h1 : 1 ≤ S) : ∃ o8', forL (stepF Φ (.name 4) f_law_stair_bits_b2) (rng (x : Int) (stepN (x : Int) (m : Int) (S : Int)) (S : Int)) (envL st m (mk p) (some (.int (x : Int))) o8) =
    .ok (.next (envL st m (mk fun y => (∃ t, t < stepN (x : Int) (m : Int) (S : Int) ∧ y = x + t * S) ∨ p y) (some (.int (x : Int))) o8')) := by
  obtain ⟨e', l1, o8', l2⟩ := forL_rng (f := stepF Φ (.name 4) f_law_stair_bits_b2) (lo := (x : Int)) (c := (S : Int)) (n := stepN (x : Int) (m : Int) (S : Int)) (e := envL st m (mk p) (some (.int (x : Int))) o8)
    (Inv := fun i e => ∃ o8', e = envL st m (mk fun y => (∃ t, t < i ∧ y = x + t * S) ∨ p y) (some (.int (x : Int))) o8')
    (fun i e hi ⟨o8', he⟩ => by
      subst he
      rw [stepF_eq, show (x : Int) + (i : Int) * (S : Int) = ((x + i * S : Nat) : Int) by rw [Int.natCast_add, Int.natCast_mul]]
      unfold f_law_stair_bits_b2 envL
      bv_omega
      rw [set_bits _ (stepN_lt h1 hi)]
      bv_omega
      refine ⟨_, rfl, some (.int ((x + i * S : Nat) : Int)), ?_⟩
      rw [mk_set, mk_congr fun y => ex_succ y])
    ⟨o8, by rw [mk_congr (p := fun y => (∃ t, t < 0 ∧ y = x + t * S) ∨ p y) (q := p) fun y => ⟨fun h => h.elim (fun ⟨_, z, _⟩ => absurd z (Nat.not_lt_zero _)) id, .inr⟩]⟩
  exact ⟨o8', by rw [l1, l2]⟩
theorem lbits_once (os : List Int) (hos : ∀ x ∈ os, 0 ≤ x) (o7 o8 : Option D) : ∃ o7', forL (stepF Φ (.name 3) f_law_stair_bits_b1) (os.map .int) (envL st m (mk fun _ => False) o7 o8) =
    .ok (.next (envL st m (mk fun y => (y : Int) ∈ os) o7' o8)) := by
  obtain ⟨e', l1, o7', r', l2, l3⟩ := forL_lst (f := stepF Φ (.name 3) f_law_stair_bits_b1) (l := os.map .int) (e := envL st m (mk fun _ => False) o7 o8)
    (Inv := fun i e => ∃ (o7' : Option D) (r : Nat → Prop), e = envL st m (mk r) o7' o8 ∧ ∀ y, y < m → (r y ↔ (y : Int) ∈ os.take i))
    (fun i d e hi ⟨o7', r, he, hr⟩ => by
      subst he
      rw [List.getElem?_map] at hi
      cases q : os[i]? with
      | none => rw [q] at hi; cases hi
      | some z =>
        rw [q] at hi
        cases hi
        have hz := hos z (List.mem_of_getElem? q)
        obtain ⟨x, rfl⟩ : ∃ x : Nat, z = (x : Int) := ⟨z.toNat, by omega⟩
        rw [stepF_eq]
        unfold f_law_stair_bits_b1 envL
        bv_omega
        by_cases hx : (x : Int) < (m : Int)
        · simp only [hx, decide_true, if_true]
          bv_omega
          rw [set_bits _ (by omega)]
          bv_omega
          refine ⟨_, rfl, some (.int (x : Int)), fun y => y = x ∨ r y, by rw [mk_set], fun y hy => ?_⟩
          show (y = x ∨ r y) ↔ _
          rw [hr y hy]
          exact mem_take1 q y
        · simp only [hx, decide_false]
          bv_omega
          refine ⟨_, rfl, some (.int (x : Int)), r, rfl, fun y hy => ?_⟩
          rw [hr y hy, ← mem_take1 q y]
          exact ⟨.inr, fun h => h.elim (fun e => by omega) id⟩)
    ⟨o7, _, rfl, fun y _ => ⟨fun h => h.elim, fun h => by rw [List.take_zero] at h; exact nomatch h⟩⟩
  rw [List.length_map, List.take_length] at l3
  refine ⟨o7', ?_⟩
  rw [l1, l2]
  have e : bitsF (mk r') m = bitsF (mk fun y => (y : Int) ∈ os) m := bitsF_congr fun y hy => by
    rw [Bool.eq_iff_iff, mk_iff, mk_iff, l3 y hy]
  unfold envL
  rw [e]
theorem lbits_again {x0 x2 x3 : D} (hst : st = .tuple [x0, .int S, x2, x3]) (p : Nat → Prop) (as : List Int) (has : ∀ x ∈ as, 0 ≤ x ∧ x < 900000) (h1 : 1 ≤ S) (h2 : S ≤ 900000) (hm : m ≤ 900000) (o7 o8 : Option D) : ∃ o7' o8', forL (stepF Φ (.name 3) f_law_stair_bits_b3) (as.map .int) (envL st m (mk p) o7 o8) =
    .ok (.next (envL st m (mk fun y => y < m ∧ (∃ x : Nat, (x : Int) ∈ as ∧ x ≤ y ∧ S ∣ y - x) ∨ p y) o7' o8')) := by
  obtain ⟨e', l1, o7', o8', q', l2, l3⟩ := forL_lst (f := stepF Φ (.name 3) f_law_stair_bits_b3) (l := as.map .int) (e := envL st m (mk p) o7 o8)
    (Inv := fun i e => ∃ (o7' o8' : Option D) (r : Nat → Prop), e = envL st m (mk r) o7' o8' ∧ ∀ y, y < m → (r y ↔ (∃ x : Nat, (x : Int) ∈ as.take i ∧ x ≤ y ∧ S ∣ y - x) ∨ p y))
    (fun i d e hi ⟨o7', o8', r, he, hr⟩ => by
      subst he
      rw [List.getElem?_map] at hi
      cases q : as[i]? with
      | none => rw [q] at hi; cases hi
      | some z =>
        rw [q] at hi
        cases hi
        have hz := has z (List.mem_of_getElem? q)
        obtain ⟨x, rfl⟩ : ∃ x : Nat, z = (x : Int) := ⟨z.toNat, by omega⟩
        obtain ⟨o8'', e1⟩ := lbits_in (st := st) (m := m) (S := S) (Φ := Φ) r x o8' h1
        rw [stepF_eq]
        unfold f_law_stair_bits_b3 envL
        unfold envL at e1
        subst hst
        try simp only [vE_var, vE_int, vE_bl, vE_non, vE_str, vE_cst, vE_bin, vE_cmp, vE_chain, vE_and, vE_or, vE_not, vE_neg, vE_ite, vE_isi, vE_tup, vE_lst, vE_lmul, vE_ix, vE_slice, vE_rev, vE_b1, vE_b2, vE_dm, vE_call, vE_call0, vE_comp, vEs_n, vEs_c, vO_n, vO_s, vC_n, vC_s, vI_1, vI_2, vI_3, vI_s, vI_z, vI_e, zR_l, zR_t, vS_asgT, vS_par, vS_app, vS_setIx, vS_aug, vS_ite, vS_whl, vS_for, vS_ret, vS_retN, vS_expr, vS_pass, aF_n, aF_r, uh_n, uh_c, ag_a, ag_s, cl_n, cl_c, List.getD_cons_zero, List.getD_cons_succ, R.ok_bind, R.exc_bind, R.bad_bind, R.pure_eq, List.length_cons, List.length_nil, List.map_cons, List.map_nil, List.cons_append, List.nil_append, List.replicate_succ, List.replicate_zero, List.set_cons_zero, List.set_cons_succ, Nat.reduceAdd, Nat.reduceSub, Nat.reduceEqDiff, Int.cast_ofNat_Int, Int.reduceEq, Int.reduceLT, Int.reduceLE, Int.reduceAdd, Int.reduceSub, Int.reduceMul, Int.reduceNeg, decide_true, decide_false, Bool.false_and, Bool.true_and, Bool.and_true, Bool.and_false, Bool.or_true, Bool.or_false, Bool.true_or, Bool.false_or, if_true, ite_true, ite_false, Bool.false_eq_true, reduceIte, Bool.not_true, Bool.not_false, asI_i, asB_b, asL_l, asL_t, asLst_l, dIs_int_none, dIs_int_bool, dIs_int_int, dIs_int_str, dIs_int_list, dIs_int_tuple, dIs_int_dict, dIs_bool_none, dIs_bool_bool, dIs_bool_int, dIs_bool_str, dIs_bool_list, dIs_bool_tuple, dIs_bool_dict, dIs_str_none, dIs_str_bool, dIs_str_int, dIs_str_str, dIs_str_list, dIs_str_tuple, dIs_str_dict, dIs_tuple_none, dIs_tuple_bool, dIs_tuple_int, dIs_tuple_str, dIs_tuple_list, dIs_tuple_tuple, dIs_tuple_dict, dIs_list_none, dIs_list_bool, dIs_list_int, dIs_list_str, dIs_list_list, dIs_list_tuple, dIs_list_dict, ad_i, ad_l, ad_t, ad_s, sb_i, mu_i, fd_i, md_i, pw_10_6, pw_10_9, pw_10_12, pw_10_18, pw_10_59, pw_10_60, c_lt, c_le, c_gt, c_ge, c_eq_i, c_ne_i, c_eq_b, c_ne_b, c_isN, c_inN, c_isB, c_inB, c_in, c_ni, b_len_l, b_len_t, b_len_s, b_int_i, b_int_b, b_tup_l, b_tup_t, b_lst_l, b_lst_t, b_abs, b2_max, b2_min, ix_l, ix_t, sl_l, sl_t, rv_l, rv_t, getS_z, getS_s, ne_ok, seq_n, seq_r, evSs_n, evSs_c, outR_r, outR_n, bT_n, bT_t, bTs_n, bTs_c, asS, at1, ofO_s]
        rw [if_pos ⟨stepOk_nat h1 h2, small62_of (by omega), small62_of (by omega)⟩]
        bv_omega
        rw [e1]
        bv_omega
        refine ⟨_, rfl, _, _, _, rfl, fun y hy => ?_⟩
        rw [stepN_mem h1 hy, hr y hy, List.take_add_one, q]
        constructor
        · rintro (⟨h3, h4⟩ | ⟨x', h3, h4⟩ | h)
          · exact .inl ⟨x, List.mem_append_right _ (List.mem_singleton.mpr rfl), h3, h4⟩
          · exact .inl ⟨x', List.mem_append_left _ h3, h4⟩
          · exact .inr h
        · rintro (⟨x', h3, h4⟩ | h)
          · rcases List.mem_append.mp h3 with h3 | h3
            · exact .inr (.inl ⟨x', h3, h4⟩)
            · have e : (x' : Int) = (x : Int) := List.mem_singleton.mp h3
              have e : x' = x := by omega
              subst e
              exact .inl h4
          · exact .inr (.inr h))
    ⟨o7, o8, p, rfl, fun y _ => ⟨.inr, fun h => h.elim (fun ⟨_, z, _⟩ => by rw [List.take_zero] at z; exact nomatch z) id⟩⟩
  rw [List.length_map, List.take_length] at l3
  refine ⟨o7', o8', ?_⟩
  rw [l1, l2]
  have e : bitsF (mk q') m = bitsF (mk fun y => y < m ∧ (∃ x : Nat, (x : Int) ∈ as ∧ x ≤ y ∧ S ∣ y - x) ∨ p y) m := bitsF_congr fun y hy => by
    rw [Bool.eq_iff_iff, mk_iff, mk_iff, l3 y hy]
    exact ⟨fun h => h.imp (fun h => ⟨hy, h⟩) id, fun h => h.imp (fun h => h.2) id⟩
  unfold envL
  rw [e]
end
theorem law_stair_bits_ok {f : Sq} {B S m : Nat} (hS : Per f B S) (h1 : 1 ≤ S) (h2 : B + S ≤ 900000) (hm2 : m ≤ 900000) : run Tb N (k + 1) 22 [stD f B S, .int (m : Int)] = .ok (bitsD (bitsF f m)) := by
  rw [run_eq (fn := f_law_stair_bits) rfl rfl]
  unfold f_law_stair_bits
  obtain ⟨o7, l1⟩ := lbits_once (st := stD f B S) (m := m) (Φ := ⟨run Tb N k, N⟩) (onF f 0 B) (fun x hx => by have := onF_lt x hx; omega) none none
  obtain ⟨o7', o8', l2⟩ := lbits_again (st := stD f B S) (m := m) (S := S) (Φ := ⟨run Tb N k, N⟩) rfl (fun y => (y : Int) ∈ onF f 0 B) (onF f B S) (fun x hx => by have := onF_lt x hx; omega) h1 (by omega) hm2 o7 none
  unfold envL at l1 l2
  have est : stD f B S = .tuple [.int B, .int S, .tuple ((onF f 0 B).map .int), .tuple ((onF f B S).map .int)] := rfl
  rw [est] at l1 l2 ⊢
  bv_omega
  rw [lmulK_ok rfl (by omega), rep_oneB, show ((m : Int)).toNat = m from rfl, mk_false]
  try simp only [vE_var, vE_int, vE_bl, vE_non, vE_str, vE_cst, vE_bin, vE_cmp, vE_chain, vE_and, vE_or, vE_not, vE_neg, vE_ite, vE_isi, vE_tup, vE_lst, vE_lmul, vE_ix, vE_slice, vE_rev, vE_b1, vE_b2, vE_dm, vE_call, vE_call0, vE_comp, vEs_n, vEs_c, vO_n, vO_s, vC_n, vC_s, vI_1, vI_2, vI_3, vI_s, vI_z, vI_e, zR_l, zR_t, vS_asgT, vS_par, vS_app, vS_setIx, vS_aug, vS_ite, vS_whl, vS_for, vS_ret, vS_retN, vS_expr, vS_pass, aF_n, aF_r, uh_n, uh_c, ag_a, ag_s, cl_n, cl_c, List.getD_cons_zero, List.getD_cons_succ, R.ok_bind, R.exc_bind, R.bad_bind, R.pure_eq, List.length_cons, List.length_nil, List.map_cons, List.map_nil, List.cons_append, List.nil_append, List.replicate_succ, List.replicate_zero, List.set_cons_zero, List.set_cons_succ, Nat.reduceAdd, Nat.reduceSub, Nat.reduceEqDiff, Int.cast_ofNat_Int, Int.reduceEq, Int.reduceLT, Int.reduceLE, Int.reduceAdd, Int.reduceSub, Int.reduceMul, Int.reduceNeg, decide_true, decide_false, Bool.false_and, Bool.true_and, Bool.and_true, Bool.and_false, Bool.or_true, Bool.or_false, Bool.true_or, Bool.false_or, if_true, ite_true, ite_false, Bool.false_eq_true, reduceIte, Bool.not_true, Bool.not_false, asI_i, asB_b, asL_l, asL_t, asLst_l, dIs_int_none, dIs_int_bool, dIs_int_int, dIs_int_str, dIs_int_list, dIs_int_tuple, dIs_int_dict, dIs_bool_none, dIs_bool_bool, dIs_bool_int, dIs_bool_str, dIs_bool_list, dIs_bool_tuple, dIs_bool_dict, dIs_str_none, dIs_str_bool, dIs_str_int, dIs_str_str, dIs_str_list, dIs_str_tuple, dIs_str_dict, dIs_tuple_none, dIs_tuple_bool, dIs_tuple_int, dIs_tuple_str, dIs_tuple_list, dIs_tuple_tuple, dIs_tuple_dict, dIs_list_none, dIs_list_bool, dIs_list_int, dIs_list_str, dIs_list_list, dIs_list_tuple, dIs_list_dict, ad_i, ad_l, ad_t, ad_s, sb_i, mu_i, fd_i, md_i, pw_10_6, pw_10_9, pw_10_12, pw_10_18, pw_10_59, pw_10_60, c_lt, c_le, c_gt, c_ge, c_eq_i, c_ne_i, c_eq_b, c_ne_b, c_isN, c_inN, c_isB, c_inB, c_in, c_ni, b_len_l, b_len_t, b_len_s, b_int_i, b_int_b, b_tup_l, b_tup_t, b_lst_l, b_lst_t, b_abs, b2_max, b2_min, ix_l, ix_t, sl_l, sl_t, rv_l, rv_t, getS_z, getS_s, ne_ok, seq_n, seq_r, evSs_n, evSs_c, outR_r, outR_n, bT_n, bT_t, bTs_n, bTs_c, asS, at2, at3, ofO_s]
  rw [l1]
  try simp only [vE_var, vE_int, vE_bl, vE_non, vE_str, vE_cst, vE_bin, vE_cmp, vE_chain, vE_and, vE_or, vE_not, vE_neg, vE_ite, vE_isi, vE_tup, vE_lst, vE_lmul, vE_ix, vE_slice, vE_rev, vE_b1, vE_b2, vE_dm, vE_call, vE_call0, vE_comp, vEs_n, vEs_c, vO_n, vO_s, vC_n, vC_s, vI_1, vI_2, vI_3, vI_s, vI_z, vI_e, zR_l, zR_t, vS_asgT, vS_par, vS_app, vS_setIx, vS_aug, vS_ite, vS_whl, vS_for, vS_ret, vS_retN, vS_expr, vS_pass, aF_n, aF_r, uh_n, uh_c, ag_a, ag_s, cl_n, cl_c, List.getD_cons_zero, List.getD_cons_succ, R.ok_bind, R.exc_bind, R.bad_bind, R.pure_eq, List.length_cons, List.length_nil, List.map_cons, List.map_nil, List.cons_append, List.nil_append, List.replicate_succ, List.replicate_zero, List.set_cons_zero, List.set_cons_succ, Nat.reduceAdd, Nat.reduceSub, Nat.reduceEqDiff, Int.cast_ofNat_Int, Int.reduceEq, Int.reduceLT, Int.reduceLE, Int.reduceAdd, Int.reduceSub, Int.reduceMul, Int.reduceNeg, decide_true, decide_false, Bool.false_and, Bool.true_and, Bool.and_true, Bool.and_false, Bool.or_true, Bool.or_false, Bool.true_or, Bool.false_or, if_true, ite_true, ite_false, Bool.false_eq_true, reduceIte, Bool.not_true, Bool.not_false, asI_i, asB_b, asL_l, asL_t, asLst_l, dIs_int_none, dIs_int_bool, dIs_int_int, dIs_int_str, dIs_int_list, dIs_int_tuple, dIs_int_dict, dIs_bool_none, dIs_bool_bool, dIs_bool_int, dIs_bool_str, dIs_bool_list, dIs_bool_tuple, dIs_bool_dict, dIs_str_none, dIs_str_bool, dIs_str_int, dIs_str_str, dIs_str_list, dIs_str_tuple, dIs_str_dict, dIs_tuple_none, dIs_tuple_bool, dIs_tuple_int, dIs_tuple_str, dIs_tuple_list, dIs_tuple_tuple, dIs_tuple_dict, dIs_list_none, dIs_list_bool, dIs_list_int, dIs_list_str, dIs_list_list, dIs_list_tuple, dIs_list_dict, ad_i, ad_l, ad_t, ad_s, sb_i, mu_i, fd_i, md_i, pw_10_6, pw_10_9, pw_10_12, pw_10_18, pw_10_59, pw_10_60, c_lt, c_le, c_gt, c_ge, c_eq_i, c_ne_i, c_eq_b, c_ne_b, c_isN, c_inN, c_isB, c_inB, c_in, c_ni, b_len_l, b_len_t, b_len_s, b_int_i, b_int_b, b_tup_l, b_tup_t, b_lst_l, b_lst_t, b_abs, b2_max, b2_min, ix_l, ix_t, sl_l, sl_t, rv_l, rv_t, getS_z, getS_s, ne_ok, seq_n, seq_r, evSs_n, evSs_c, outR_r, outR_n, bT_n, bT_t, bTs_n, bTs_c, asS, at2, at3, ofO_s]
  rw [l2]
  bv_omega
  unfold bitsD
  rw [bitsF_congr (g := mk fun y => y < m ∧ (∃ x : Nat, (x : Int) ∈ onF f B S ∧ x ≤ y ∧ S ∣ y - x) ∨ (y : Int) ∈ onF f 0 B) (h := f) fun y hy => by
    rw [Bool.eq_iff_iff, mk_iff, ← marks hS h1]
    exact ⟨fun h => h.imp (fun h => h.2) id, fun h => h.imp (fun h => ⟨hy, h⟩) id⟩]
end Ev
set_option Elab.async false
set_option linter.all false
set_option maxRecDepth 100000
set_option maxHeartbeats 4000000
namespace Ev
open PySem
local macro_rules | `(tactic| bv_omega) => `(tactic| try simp only [vE_var, vE_int, vE_bl, vE_non, vE_str, vE_cst, vE_bin, vE_cmp, vE_chain, vE_and, vE_or, vE_not, vE_neg, vE_ite, vE_isi, vE_tup, vE_lst, vE_lmul, vE_ix, vE_slice, vE_rev, vE_b1, vE_b2, vE_dm, vE_call, vE_call0, vE_comp, vEs_n, vEs_c, vO_n, vO_s, vC_n, vC_s, vI_1, vI_2, vI_3, vI_s, vI_z, vI_e, zR_l, zR_t, vS_asgT, vS_par, vS_app, vS_setIx, vS_aug, vS_ite, vS_whl, vS_for, vS_ret, vS_retN, vS_expr, vS_pass, aF_n, aF_r, uh_n, uh_c, ag_a, ag_s, cl_n, cl_c, List.getD_cons_zero, List.getD_cons_succ, R.ok_bind, R.exc_bind, R.bad_bind, R.pure_eq, List.length_cons, List.length_nil, List.map_cons, List.map_nil, List.cons_append, List.nil_append, List.replicate_succ, List.replicate_zero, List.set_cons_zero, List.set_cons_succ, Nat.reduceAdd, Nat.reduceSub, Nat.reduceEqDiff, Int.cast_ofNat_Int, Int.reduceEq, Int.reduceLT, Int.reduceLE, Int.reduceAdd, Int.reduceSub, Int.reduceMul, Int.reduceNeg, decide_true, decide_false, Bool.false_and, Bool.true_and, Bool.and_true, Bool.and_false, Bool.or_true, Bool.or_false, Bool.true_or, Bool.false_or, if_true, ite_true, ite_false, Bool.false_eq_true, reduceIte, Bool.not_true, Bool.not_false, asI_i, asB_b, asL_l, asL_t, asLst_l, dIs_int_none, dIs_int_bool, dIs_int_int, dIs_int_str, dIs_int_list, dIs_int_tuple, dIs_int_dict, dIs_bool_none, dIs_bool_bool, dIs_bool_int, dIs_bool_str, dIs_bool_list, dIs_bool_tuple, dIs_bool_dict, dIs_str_none, dIs_str_bool, dIs_str_int, dIs_str_str, dIs_str_list, dIs_str_tuple, dIs_str_dict, dIs_tuple_none, dIs_tuple_bool, dIs_tuple_int, dIs_tuple_str, dIs_tuple_list, dIs_tuple_tuple, dIs_tuple_dict, dIs_list_none, dIs_list_bool, dIs_list_int, dIs_list_str, dIs_list_list, dIs_list_tuple, dIs_list_dict, ad_i, ad_l, ad_t, ad_s, sb_i, mu_i, fd_i, md_i, pw_10_6, pw_10_9, pw_10_12, pw_10_18, pw_10_59, pw_10_60, c_lt, c_le, c_gt, c_ge, c_eq_i, c_ne_i, c_eq_b, c_ne_b, c_isN, c_inN, c_isB, c_inB, c_in, c_ni, b_len_l, b_len_t, b_len_s, b_int_i, b_int_b, b_tup_l, b_tup_t, b_lst_l, b_lst_t, b_abs, b2_max, b2_min, ix_l, ix_t, sl_l, sl_t, rv_l, rv_t, getS_z, getS_s, ne_ok, seq_n, seq_r, evSs_n, evSs_c, outR_r, outR_n, bT_n, bT_t, bTs_n, bTs_c, asS])
variable {N k : Nat}
theorem stD_th (f : Sq) (B S : Nat) (h : B + S ≤ 900000) : okTh (stD f B S) := by
  have l1 := onF_len f 0 B
  have l2 := onF_len f B S
  refine okTh4 True.intro True.intro ?_ ?_
  · show (_ : List D).length ≤ 900000
    rw [ints_len]; omega
  · show (_ : List D).length ≤ 900000
    rw [ints_len]; omega
theorem nums_of' (ns : List Int) : numsOf (ns.map .int) = some ns := by
  induction ns with
  | nil => rfl
  | cons n ns ih => rw [List.map_cons, numsOf, ih]; rfl
theorem stD_is (f : Sq) (B S : Nat) (hs : 1 ≤ S) : isStair (stD f B S) = true := by
  have e1 : rising (.tuple ((onF f 0 B).map .int)) 0 (B : Int) = true := by
    simp only [rising, nums_of']
    exact onBits_rises _ 0 0 B (by omega) (by rw [List.length_map, List.length_range]; omega)
  have e2 : rising (.tuple ((onF f B S).map .int)) (B : Int) ((B : Int) + (S : Int)) = true := by
    simp only [rising, nums_of']
    exact onBits_rises _ B B _ (by omega) (by rw [List.length_map, List.length_range]; omega)
  show isSt4 _ _ (.int B) (.int S) = true
  simp only [isSt4, e1, e2, Bool.and_true]
  rw [decide_eq_false (by omega), decide_eq_false (by omega)]
  rfl
theorem stD_ix0 (f : Sq) (B S : Nat) : dIx (stD f B S) (.int 0) = .ok (.int B) := by unfold stD; rw [ix_t, at0]; rfl
theorem stD_ix1 (f : Sq) (B S : Nat) : dIx (stD f B S) (.int 1) = .ok (.int S) := by unfold stD; rw [ix_t, at1]; rfl
theorem check_stair_ok (f : Sq) (B S : Nat) (h1 : 1 ≤ S) (hB : B ≤ 3000) (hS : S ≤ 840) : run Tb N (k + 4) 16 [stD f B S] = .ok .none := by
  rw [run_eq (fn := f_check_stair) rfl rfl]
  unfold f_check_stair
  have e := is_stair_ok (N := N) (k := k) (stD f B S) (stD_th f B S (by omega)).sz
  rw [stD_is f B S h1] at e
  try simp only [vE_var, vE_int, vE_bl, vE_non, vE_str, vE_cst, vE_bin, vE_cmp, vE_chain, vE_and, vE_or, vE_not, vE_neg, vE_ite, vE_isi, vE_tup, vE_lst, vE_lmul, vE_ix, vE_slice, vE_rev, vE_b1, vE_b2, vE_dm, vE_call, vE_call0, vE_comp, vEs_n, vEs_c, vO_n, vO_s, vC_n, vC_s, vI_1, vI_2, vI_3, vI_s, vI_z, vI_e, zR_l, zR_t, vS_asgT, vS_par, vS_app, vS_setIx, vS_aug, vS_ite, vS_whl, vS_for, vS_ret, vS_retN, vS_expr, vS_pass, aF_n, aF_r, uh_n, uh_c, ag_a, ag_s, cl_n, cl_c, List.getD_cons_zero, List.getD_cons_succ, R.ok_bind, R.exc_bind, R.bad_bind, R.pure_eq, List.length_cons, List.length_nil, List.map_cons, List.map_nil, List.cons_append, List.nil_append, List.replicate_succ, List.replicate_zero, List.set_cons_zero, List.set_cons_succ, Nat.reduceAdd, Nat.reduceSub, Nat.reduceEqDiff, Int.cast_ofNat_Int, Int.reduceEq, Int.reduceLT, Int.reduceLE, Int.reduceAdd, Int.reduceSub, Int.reduceMul, Int.reduceNeg, decide_true, decide_false, Bool.false_and, Bool.true_and, Bool.and_true, Bool.and_false, Bool.or_true, Bool.or_false, Bool.true_or, Bool.false_or, if_true, ite_true, ite_false, Bool.false_eq_true, reduceIte, Bool.not_true, Bool.not_false, asI_i, asB_b, asL_l, asL_t, asLst_l, dIs_int_none, dIs_int_bool, dIs_int_int, dIs_int_str, dIs_int_list, dIs_int_tuple, dIs_int_dict, dIs_bool_none, dIs_bool_bool, dIs_bool_int, dIs_bool_str, dIs_bool_list, dIs_bool_tuple, dIs_bool_dict, dIs_str_none, dIs_str_bool, dIs_str_int, dIs_str_str, dIs_str_list, dIs_str_tuple, dIs_str_dict, dIs_tuple_none, dIs_tuple_bool, dIs_tuple_int, dIs_tuple_str, dIs_tuple_list, dIs_tuple_tuple, dIs_tuple_dict, dIs_list_none, dIs_list_bool, dIs_list_int, dIs_list_str, dIs_list_list, dIs_list_tuple, dIs_list_dict, ad_i, ad_l, ad_t, ad_s, sb_i, mu_i, fd_i, md_i, pw_10_6, pw_10_9, pw_10_12, pw_10_18, pw_10_59, pw_10_60, c_lt, c_le, c_gt, c_ge, c_eq_i, c_ne_i, c_eq_b, c_ne_b, c_isN, c_inN, c_isB, c_inB, c_in, c_ni, b_len_l, b_len_t, b_len_s, b_int_i, b_int_b, b_tup_l, b_tup_t, b_lst_l, b_lst_t, b_abs, b2_max, b2_min, ix_l, ix_t, sl_l, sl_t, rv_l, rv_t, getS_z, getS_s, ne_ok, seq_n, seq_r, evSs_n, evSs_c, outR_r, outR_n, bT_n, bT_t, bTs_n, bTs_c, asS, e, stD_ix0, stD_ix1]
  rw [decide_eq_false (by omega)]
  try simp only [vE_var, vE_int, vE_bl, vE_non, vE_str, vE_cst, vE_bin, vE_cmp, vE_chain, vE_and, vE_or, vE_not, vE_neg, vE_ite, vE_isi, vE_tup, vE_lst, vE_lmul, vE_ix, vE_slice, vE_rev, vE_b1, vE_b2, vE_dm, vE_call, vE_call0, vE_comp, vEs_n, vEs_c, vO_n, vO_s, vC_n, vC_s, vI_1, vI_2, vI_3, vI_s, vI_z, vI_e, zR_l, zR_t, vS_asgT, vS_par, vS_app, vS_setIx, vS_aug, vS_ite, vS_whl, vS_for, vS_ret, vS_retN, vS_expr, vS_pass, aF_n, aF_r, uh_n, uh_c, ag_a, ag_s, cl_n, cl_c, List.getD_cons_zero, List.getD_cons_succ, R.ok_bind, R.exc_bind, R.bad_bind, R.pure_eq, List.length_cons, List.length_nil, List.map_cons, List.map_nil, List.cons_append, List.nil_append, List.replicate_succ, List.replicate_zero, List.set_cons_zero, List.set_cons_succ, Nat.reduceAdd, Nat.reduceSub, Nat.reduceEqDiff, Int.cast_ofNat_Int, Int.reduceEq, Int.reduceLT, Int.reduceLE, Int.reduceAdd, Int.reduceSub, Int.reduceMul, Int.reduceNeg, decide_true, decide_false, Bool.false_and, Bool.true_and, Bool.and_true, Bool.and_false, Bool.or_true, Bool.or_false, Bool.true_or, Bool.false_or, if_true, ite_true, ite_false, Bool.false_eq_true, reduceIte, Bool.not_true, Bool.not_false, asI_i, asB_b, asL_l, asL_t, asLst_l, dIs_int_none, dIs_int_bool, dIs_int_int, dIs_int_str, dIs_int_list, dIs_int_tuple, dIs_int_dict, dIs_bool_none, dIs_bool_bool, dIs_bool_int, dIs_bool_str, dIs_bool_list, dIs_bool_tuple, dIs_bool_dict, dIs_str_none, dIs_str_bool, dIs_str_int, dIs_str_str, dIs_str_list, dIs_str_tuple, dIs_str_dict, dIs_tuple_none, dIs_tuple_bool, dIs_tuple_int, dIs_tuple_str, dIs_tuple_list, dIs_tuple_tuple, dIs_tuple_dict, dIs_list_none, dIs_list_bool, dIs_list_int, dIs_list_str, dIs_list_list, dIs_list_tuple, dIs_list_dict, ad_i, ad_l, ad_t, ad_s, sb_i, mu_i, fd_i, md_i, pw_10_6, pw_10_9, pw_10_12, pw_10_18, pw_10_59, pw_10_60, c_lt, c_le, c_gt, c_ge, c_eq_i, c_ne_i, c_eq_b, c_ne_b, c_isN, c_inN, c_isB, c_inB, c_in, c_ni, b_len_l, b_len_t, b_len_s, b_int_i, b_int_b, b_tup_l, b_tup_t, b_lst_l, b_lst_t, b_abs, b2_max, b2_min, ix_l, ix_t, sl_l, sl_t, rv_l, rv_t, getS_z, getS_s, ne_ok, seq_n, seq_r, evSs_n, evSs_c, outR_r, outR_n, bT_n, bT_t, bTs_n, bTs_c, asS, stD_ix0, stD_ix1]
  rw [decide_eq_false (by omega)]
  bv_omega
theorem least_ok {f : Sq} {B S : Nat} (hS : Per f B S) (h1 : 1 ≤ S) (hB : B ≤ 3000) (hS2 : S ≤ 840) (hN : 1000000 ≤ N) : ∃ b p : Nat, run Tb N (k + 5) 31 [stD f B S] = .ok (stD f b p) ∧ Canon f b p ∧ b ≤ B ∧ p ≤ S := by
  obtain ⟨b, p, e1, c, hb, hp⟩ := least_of_bits_ok (N := N) (k := k + 1) (m := B + S) hS h1 (Nat.le_refl _) (by omega) hN
  refine ⟨b, p, ?_, c, hb, hp⟩
  rw [run_eq (k := k + 4) (fn := f_least) rfl rfl]
  unfold f_least
  have e2 : run Tb N (k + 4) 30 [stD f B S] = .ok (stD f b p) := by
    rw [run_eq (k := k + 3) (fn := f_least_by) rfl rfl]
    unfold f_least_by
    try simp only [vE_var, vE_int, vE_bl, vE_non, vE_str, vE_cst, vE_bin, vE_cmp, vE_chain, vE_and, vE_or, vE_not, vE_neg, vE_ite, vE_isi, vE_tup, vE_lst, vE_lmul, vE_ix, vE_slice, vE_rev, vE_b1, vE_b2, vE_dm, vE_call, vE_call0, vE_comp, vEs_n, vEs_c, vO_n, vO_s, vC_n, vC_s, vI_1, vI_2, vI_3, vI_s, vI_z, vI_e, zR_l, zR_t, vS_asgT, vS_par, vS_app, vS_setIx, vS_aug, vS_ite, vS_whl, vS_for, vS_ret, vS_retN, vS_expr, vS_pass, aF_n, aF_r, uh_n, uh_c, ag_a, ag_s, cl_n, cl_c, List.getD_cons_zero, List.getD_cons_succ, R.ok_bind, R.exc_bind, R.bad_bind, R.pure_eq, List.length_cons, List.length_nil, List.map_cons, List.map_nil, List.cons_append, List.nil_append, List.replicate_succ, List.replicate_zero, List.set_cons_zero, List.set_cons_succ, Nat.reduceAdd, Nat.reduceSub, Nat.reduceEqDiff, Int.cast_ofNat_Int, Int.reduceEq, Int.reduceLT, Int.reduceLE, Int.reduceAdd, Int.reduceSub, Int.reduceMul, Int.reduceNeg, decide_true, decide_false, Bool.false_and, Bool.true_and, Bool.and_true, Bool.and_false, Bool.or_true, Bool.or_false, Bool.true_or, Bool.false_or, if_true, ite_true, ite_false, Bool.false_eq_true, reduceIte, Bool.not_true, Bool.not_false, asI_i, asB_b, asL_l, asL_t, asLst_l, dIs_int_none, dIs_int_bool, dIs_int_int, dIs_int_str, dIs_int_list, dIs_int_tuple, dIs_int_dict, dIs_bool_none, dIs_bool_bool, dIs_bool_int, dIs_bool_str, dIs_bool_list, dIs_bool_tuple, dIs_bool_dict, dIs_str_none, dIs_str_bool, dIs_str_int, dIs_str_str, dIs_str_list, dIs_str_tuple, dIs_str_dict, dIs_tuple_none, dIs_tuple_bool, dIs_tuple_int, dIs_tuple_str, dIs_tuple_list, dIs_tuple_tuple, dIs_tuple_dict, dIs_list_none, dIs_list_bool, dIs_list_int, dIs_list_str, dIs_list_list, dIs_list_tuple, dIs_list_dict, ad_i, ad_l, ad_t, ad_s, sb_i, mu_i, fd_i, md_i, pw_10_6, pw_10_9, pw_10_12, pw_10_18, pw_10_59, pw_10_60, c_lt, c_le, c_gt, c_ge, c_eq_i, c_ne_i, c_eq_b, c_ne_b, c_isN, c_inN, c_isB, c_inB, c_in, c_ni, b_len_l, b_len_t, b_len_s, b_int_i, b_int_b, b_tup_l, b_tup_t, b_lst_l, b_lst_t, b_abs, b2_max, b2_min, ix_l, ix_t, sl_l, sl_t, rv_l, rv_t, getS_z, getS_s, ne_ok, seq_n, seq_r, evSs_n, evSs_c, outR_r, outR_n, bT_n, bT_t, bTs_n, bTs_c, asS, stD_ix0, stD_ix1]
    have e3 := bits_of_ok (N := N) (k := k + 2) (m := B + S) hS h1 (by omega) (by omega) (by omega)
    rw [show (B : Int) + (S : Int) = ((B + S : Nat) : Int) from rfl, e3]
    try simp only [vE_var, vE_int, vE_bl, vE_non, vE_str, vE_cst, vE_bin, vE_cmp, vE_chain, vE_and, vE_or, vE_not, vE_neg, vE_ite, vE_isi, vE_tup, vE_lst, vE_lmul, vE_ix, vE_slice, vE_rev, vE_b1, vE_b2, vE_dm, vE_call, vE_call0, vE_comp, vEs_n, vEs_c, vO_n, vO_s, vC_n, vC_s, vI_1, vI_2, vI_3, vI_s, vI_z, vI_e, zR_l, zR_t, vS_asgT, vS_par, vS_app, vS_setIx, vS_aug, vS_ite, vS_whl, vS_for, vS_ret, vS_retN, vS_expr, vS_pass, aF_n, aF_r, uh_n, uh_c, ag_a, ag_s, cl_n, cl_c, List.getD_cons_zero, List.getD_cons_succ, R.ok_bind, R.exc_bind, R.bad_bind, R.pure_eq, List.length_cons, List.length_nil, List.map_cons, List.map_nil, List.cons_append, List.nil_append, List.replicate_succ, List.replicate_zero, List.set_cons_zero, List.set_cons_succ, Nat.reduceAdd, Nat.reduceSub, Nat.reduceEqDiff, Int.cast_ofNat_Int, Int.reduceEq, Int.reduceLT, Int.reduceLE, Int.reduceAdd, Int.reduceSub, Int.reduceMul, Int.reduceNeg, decide_true, decide_false, Bool.false_and, Bool.true_and, Bool.and_true, Bool.and_false, Bool.or_true, Bool.or_false, Bool.true_or, Bool.false_or, if_true, ite_true, ite_false, Bool.false_eq_true, reduceIte, Bool.not_true, Bool.not_false, asI_i, asB_b, asL_l, asL_t, asLst_l, dIs_int_none, dIs_int_bool, dIs_int_int, dIs_int_str, dIs_int_list, dIs_int_tuple, dIs_int_dict, dIs_bool_none, dIs_bool_bool, dIs_bool_int, dIs_bool_str, dIs_bool_list, dIs_bool_tuple, dIs_bool_dict, dIs_str_none, dIs_str_bool, dIs_str_int, dIs_str_str, dIs_str_list, dIs_str_tuple, dIs_str_dict, dIs_tuple_none, dIs_tuple_bool, dIs_tuple_int, dIs_tuple_str, dIs_tuple_list, dIs_tuple_tuple, dIs_tuple_dict, dIs_list_none, dIs_list_bool, dIs_list_int, dIs_list_str, dIs_list_list, dIs_list_tuple, dIs_list_dict, ad_i, ad_l, ad_t, ad_s, sb_i, mu_i, fd_i, md_i, pw_10_6, pw_10_9, pw_10_12, pw_10_18, pw_10_59, pw_10_60, c_lt, c_le, c_gt, c_ge, c_eq_i, c_ne_i, c_eq_b, c_ne_b, c_isN, c_inN, c_isB, c_inB, c_in, c_ni, b_len_l, b_len_t, b_len_s, b_int_i, b_int_b, b_tup_l, b_tup_t, b_lst_l, b_lst_t, b_abs, b2_max, b2_min, ix_l, ix_t, sl_l, sl_t, rv_l, rv_t, getS_z, getS_s, ne_ok, seq_n, seq_r, evSs_n, evSs_c, outR_r, outR_n, bT_n, bT_t, bTs_n, bTs_c, asS, e1]
  try simp only [vE_var, vE_int, vE_bl, vE_non, vE_str, vE_cst, vE_bin, vE_cmp, vE_chain, vE_and, vE_or, vE_not, vE_neg, vE_ite, vE_isi, vE_tup, vE_lst, vE_lmul, vE_ix, vE_slice, vE_rev, vE_b1, vE_b2, vE_dm, vE_call, vE_call0, vE_comp, vEs_n, vEs_c, vO_n, vO_s, vC_n, vC_s, vI_1, vI_2, vI_3, vI_s, vI_z, vI_e, zR_l, zR_t, vS_asgT, vS_par, vS_app, vS_setIx, vS_aug, vS_ite, vS_whl, vS_for, vS_ret, vS_retN, vS_expr, vS_pass, aF_n, aF_r, uh_n, uh_c, ag_a, ag_s, cl_n, cl_c, List.getD_cons_zero, List.getD_cons_succ, R.ok_bind, R.exc_bind, R.bad_bind, R.pure_eq, List.length_cons, List.length_nil, List.map_cons, List.map_nil, List.cons_append, List.nil_append, List.replicate_succ, List.replicate_zero, List.set_cons_zero, List.set_cons_succ, Nat.reduceAdd, Nat.reduceSub, Nat.reduceEqDiff, Int.cast_ofNat_Int, Int.reduceEq, Int.reduceLT, Int.reduceLE, Int.reduceAdd, Int.reduceSub, Int.reduceMul, Int.reduceNeg, decide_true, decide_false, Bool.false_and, Bool.true_and, Bool.and_true, Bool.and_false, Bool.or_true, Bool.or_false, Bool.true_or, Bool.false_or, if_true, ite_true, ite_false, Bool.false_eq_true, reduceIte, Bool.not_true, Bool.not_false, asI_i, asB_b, asL_l, asL_t, asLst_l, dIs_int_none, dIs_int_bool, dIs_int_int, dIs_int_str, dIs_int_list, dIs_int_tuple, dIs_int_dict, dIs_bool_none, dIs_bool_bool, dIs_bool_int, dIs_bool_str, dIs_bool_list, dIs_bool_tuple, dIs_bool_dict, dIs_str_none, dIs_str_bool, dIs_str_int, dIs_str_str, dIs_str_list, dIs_str_tuple, dIs_str_dict, dIs_tuple_none, dIs_tuple_bool, dIs_tuple_int, dIs_tuple_str, dIs_tuple_list, dIs_tuple_tuple, dIs_tuple_dict, dIs_list_none, dIs_list_bool, dIs_list_int, dIs_list_str, dIs_list_list, dIs_list_tuple, dIs_list_dict, ad_i, ad_l, ad_t, ad_s, sb_i, mu_i, fd_i, md_i, pw_10_6, pw_10_9, pw_10_12, pw_10_18, pw_10_59, pw_10_60, c_lt, c_le, c_gt, c_ge, c_eq_i, c_ne_i, c_eq_b, c_ne_b, c_isN, c_inN, c_isB, c_inB, c_in, c_ni, b_len_l, b_len_t, b_len_s, b_int_i, b_int_b, b_tup_l, b_tup_t, b_lst_l, b_lst_t, b_abs, b2_max, b2_min, ix_l, ix_t, sl_l, sl_t, rv_l, rv_t, getS_z, getS_s, ne_ok, seq_n, seq_r, evSs_n, evSs_c, outR_r, outR_n, bT_n, bT_t, bTs_n, bTs_c, asS, check_stair_ok f B S h1 hB hS2, e2]
theorem is_due_ok (f : Sq) (b p : Nat) (h1 : 1 ≤ p) (h : b + p ≤ 900000) : run Tb N (k + 4) 33 [stD f b p, stD f b p] = .ok (.bool true) := by
  rw [run_eq (fn := f_law_is_due) rfl rfl]
  unfold f_law_is_due
  have e := law_is_stair_ok (N := N) (k := k) (stD f b p) (stD_th f b p h).sz
  rw [stD_is f b p h1] at e
  have sh : shN 3 (stD f b p) = true := by
    unfold stD
    have a1 := sh_intsT (onF f 0 b) 1
    have a2 := sh_intsT (onF f b p) 1
    show ([PyData.int b, .int p, .tuple ((onF f 0 b).map .int), .tuple ((onF f b p).map .int)].all (shN 2)) = true
    simp only [List.all_cons, List.all_nil, a1, a2, Bool.and_true]
    rfl
  try simp only [vE_var, vE_int, vE_bl, vE_non, vE_str, vE_cst, vE_bin, vE_cmp, vE_chain, vE_and, vE_or, vE_not, vE_neg, vE_ite, vE_isi, vE_tup, vE_lst, vE_lmul, vE_ix, vE_slice, vE_rev, vE_b1, vE_b2, vE_dm, vE_call, vE_call0, vE_comp, vEs_n, vEs_c, vO_n, vO_s, vC_n, vC_s, vI_1, vI_2, vI_3, vI_s, vI_z, vI_e, zR_l, zR_t, vS_asgT, vS_par, vS_app, vS_setIx, vS_aug, vS_ite, vS_whl, vS_for, vS_ret, vS_retN, vS_expr, vS_pass, aF_n, aF_r, uh_n, uh_c, ag_a, ag_s, cl_n, cl_c, List.getD_cons_zero, List.getD_cons_succ, R.ok_bind, R.exc_bind, R.bad_bind, R.pure_eq, List.length_cons, List.length_nil, List.map_cons, List.map_nil, List.cons_append, List.nil_append, List.replicate_succ, List.replicate_zero, List.set_cons_zero, List.set_cons_succ, Nat.reduceAdd, Nat.reduceSub, Nat.reduceEqDiff, Int.cast_ofNat_Int, Int.reduceEq, Int.reduceLT, Int.reduceLE, Int.reduceAdd, Int.reduceSub, Int.reduceMul, Int.reduceNeg, decide_true, decide_false, Bool.false_and, Bool.true_and, Bool.and_true, Bool.and_false, Bool.or_true, Bool.or_false, Bool.true_or, Bool.false_or, if_true, ite_true, ite_false, Bool.false_eq_true, reduceIte, Bool.not_true, Bool.not_false, asI_i, asB_b, asL_l, asL_t, asLst_l, dIs_int_none, dIs_int_bool, dIs_int_int, dIs_int_str, dIs_int_list, dIs_int_tuple, dIs_int_dict, dIs_bool_none, dIs_bool_bool, dIs_bool_int, dIs_bool_str, dIs_bool_list, dIs_bool_tuple, dIs_bool_dict, dIs_str_none, dIs_str_bool, dIs_str_int, dIs_str_str, dIs_str_list, dIs_str_tuple, dIs_str_dict, dIs_tuple_none, dIs_tuple_bool, dIs_tuple_int, dIs_tuple_str, dIs_tuple_list, dIs_tuple_tuple, dIs_tuple_dict, dIs_list_none, dIs_list_bool, dIs_list_int, dIs_list_str, dIs_list_list, dIs_list_tuple, dIs_list_dict, ad_i, ad_l, ad_t, ad_s, sb_i, mu_i, fd_i, md_i, pw_10_6, pw_10_9, pw_10_12, pw_10_18, pw_10_59, pw_10_60, c_lt, c_le, c_gt, c_ge, c_eq_i, c_ne_i, c_eq_b, c_ne_b, c_isN, c_inN, c_isB, c_inB, c_in, c_ni, b_len_l, b_len_t, b_len_s, b_int_i, b_int_b, b_tup_l, b_tup_t, b_lst_l, b_lst_t, b_abs, b2_max, b2_min, ix_l, ix_t, sl_l, sl_t, rv_l, rv_t, getS_z, getS_s, ne_ok, seq_n, seq_r, evSs_n, evSs_c, outR_r, outR_n, bT_n, bT_t, bTs_n, bTs_c, asS, e, eq_self sh (by decide)]
theorem cut2 {α : Type} (x y z w : α) : cut [x, y, z, w] none (some 2) = [x, y] := by
  have := cut_lo [x, y, z, w] 2 (by simp)
  exact this
theorem k03_run (hN : 1000000 ≤ N) (ns : List Int) (hn : ns.length ≤ 63) : run Tb N 10 34 [.list (ns.map .int)] = .ok (.bool true) := by
  have c0 : run Tb N 9 3 [.list (ns.map .int), .int 0] = .ok (.int (cellI ns 0)) := law_cell_ok (N := N) (k := 8) ns 0 (by decide)
  have c1 : run Tb N 9 3 [.list (ns.map .int), .int 1] = .ok (.int (cellI ns 1)) := law_cell_ok (N := N) (k := 8) ns 1 (by decide)
  obtain ⟨bs, B, S, e1, l1, h1, hS, hB⟩ := law_some_stair_ok (N := N) (k := 5) (cellI ns 0) 999999937 (by decide)
  have e1 : run Tb N 9 12 [.int (cellI ns 0), .int 999999937] = .ok (stairOf bs B S) := e1
  obtain ⟨vs, d1, d2⟩ := law_draws_ok (N := N) (k := 7) (cellI ns 1) [4, 61] 999999929 (by decide) (by decide) (by decide)
  have d1 : run Tb N 9 5 [.int (cellI ns 1), .list [.int 4, .int 61], .int 999999929] = .ok (.list (vs.map .int)) := d1
  rw [stairOf_st l1] at e1
  have hP := seqOf_per bs B S
  obtain ⟨f, hf⟩ : ∃ f, f = seqOf bs B S := ⟨_, rfl⟩
  rw [← hf] at e1 hP
  match vs, d2 with
  | [u, v], d2 =>
    obtain ⟨⟨u1, u2⟩, ⟨v1, v2⟩, _⟩ := d2
    obtain ⟨u, rfl⟩ : ∃ u' : Nat, u = (u' : Int) := ⟨u.toNat, by omega⟩
    obtain ⟨v, rfl⟩ : ∃ v' : Nat, v = (v' : Int) := ⟨v.toNat, by omega⟩
    rw [run_eq (k := 9) (fn := f_law_v2) rfl rfl]
    unfold f_law_v2
    have est : stD f B S = .tuple [.int B, .int S, .tuple ((onF f 0 B).map .int), .tuple ((onF f B S).map .int)] := rfl
    have sl : dSlice (stD f B S) none (some 2) = .ok (.tuple [.int B, .int S]) := by rw [est, sl_t, cut2]
    -- the law with its own far base and wide step
    have fin : ∀ (F W : Nat), B ≤ F → F ≤ 3000 → S ≤ W → W ≤ 840 → Per f F W → ∀ o5 o6 : Option D,
        outR (evSs ⟨run Tb N 9, N⟩ (.cons (.asg 0 7 (.call 22 (.cons (.var 1) (.cons (.bin .add (.var 5) (.var 6)) .nil))) [])
          (.cons (.asg 0 8 (.call 11 (.cons (.var 7) (.cons (.var 5) (.cons (.var 6) .nil)))) [])
          (.cons (.asg 0 9 (.call 32 (.cons (.var 7) (.cons (.var 3) (.cons (.var 4) .nil)))) [])
          (.cons (.ite (.or (.not (.call 33 (.cons (.call 31 (.cons (.var 1) .nil)) (.cons (.var 9) .nil)))) (.not (.call 33 (.cons (.call 31 (.cons (.var 8) .nil)) (.cons (.var 9) .nil)))))
            (.cons (.ret 0 (.bl false)) .nil) .nil)
          (.cons (.ret 0 (.call 33 (.cons (.call 31 (.cons (.var 9) .nil)) (.cons (.var 9) .nil)))) .nil)))))
          [some (.list (ns.map .int)), some (stD f B S), some (.list [.int (u : Int), .int (v : Int)]), some (.int B), some (.int S), some (.int F), some (.int W), none, none, none]) = .ok (.bool true) := by
      intro F W hBF hF hSW hW hPF o5 o6
      have q1 : run Tb N 9 22 [stD f B S, .int ((F + W : Nat) : Int)] = .ok (bitsD (bitsF f (F + W))) := law_stair_bits_ok (k := 8) hP h1 (by omega) (by omega)
      have q2 : run Tb N 9 11 [bitsD (bitsF f (F + W)), .int (F : Int), .int (W : Int)] = .ok (stD f F W) := law_stair_of_F (k := 8) f (F + W) F W (Nat.le_refl _) (by omega)
      obtain ⟨b, p, q3, c3, b3, p3⟩ := law_least_ok (N := N) (k := 8) (m := F + W) hP h1 (by omega) (by omega) hN
      obtain ⟨b4, p4, q4, c4, _, _⟩ := least_ok (N := N) (k := 4) hP h1 hB hS hN
      obtain ⟨b5, p5, q5, c5, _, _⟩ := least_ok (N := N) (k := 4) hPF (by omega) hF hW hN
      obtain ⟨b6, p6, q6, c6, _, _⟩ := least_ok (N := N) (k := 4) c3.per c3.one (by omega) (by omega) hN
      obtain ⟨rfl, rfl⟩ := c4.uniq c3
      obtain ⟨rfl, rfl⟩ := c5.uniq c3
      obtain ⟨rfl, rfl⟩ := c6.uniq c3
      have q7 := is_due_ok (N := N) (k := 5) f b6 p6 c3.one (by omega)
      bv_omega
      rw [show (F : Int) + (W : Int) = ((F + W : Nat) : Int) from rfl, q1]
      try simp only [vE_var, vE_int, vE_bl, vE_non, vE_str, vE_cst, vE_bin, vE_cmp, vE_chain, vE_and, vE_or, vE_not, vE_neg, vE_ite, vE_isi, vE_tup, vE_lst, vE_lmul, vE_ix, vE_slice, vE_rev, vE_b1, vE_b2, vE_dm, vE_call, vE_call0, vE_comp, vEs_n, vEs_c, vO_n, vO_s, vC_n, vC_s, vI_1, vI_2, vI_3, vI_s, vI_z, vI_e, zR_l, zR_t, vS_asgT, vS_par, vS_app, vS_setIx, vS_aug, vS_ite, vS_whl, vS_for, vS_ret, vS_retN, vS_expr, vS_pass, aF_n, aF_r, uh_n, uh_c, ag_a, ag_s, cl_n, cl_c, List.getD_cons_zero, List.getD_cons_succ, R.ok_bind, R.exc_bind, R.bad_bind, R.pure_eq, List.length_cons, List.length_nil, List.map_cons, List.map_nil, List.cons_append, List.nil_append, List.replicate_succ, List.replicate_zero, List.set_cons_zero, List.set_cons_succ, Nat.reduceAdd, Nat.reduceSub, Nat.reduceEqDiff, Int.cast_ofNat_Int, Int.reduceEq, Int.reduceLT, Int.reduceLE, Int.reduceAdd, Int.reduceSub, Int.reduceMul, Int.reduceNeg, decide_true, decide_false, Bool.false_and, Bool.true_and, Bool.and_true, Bool.and_false, Bool.or_true, Bool.or_false, Bool.true_or, Bool.false_or, if_true, ite_true, ite_false, Bool.false_eq_true, reduceIte, Bool.not_true, Bool.not_false, asI_i, asB_b, asL_l, asL_t, asLst_l, dIs_int_none, dIs_int_bool, dIs_int_int, dIs_int_str, dIs_int_list, dIs_int_tuple, dIs_int_dict, dIs_bool_none, dIs_bool_bool, dIs_bool_int, dIs_bool_str, dIs_bool_list, dIs_bool_tuple, dIs_bool_dict, dIs_str_none, dIs_str_bool, dIs_str_int, dIs_str_str, dIs_str_list, dIs_str_tuple, dIs_str_dict, dIs_tuple_none, dIs_tuple_bool, dIs_tuple_int, dIs_tuple_str, dIs_tuple_list, dIs_tuple_tuple, dIs_tuple_dict, dIs_list_none, dIs_list_bool, dIs_list_int, dIs_list_str, dIs_list_list, dIs_list_tuple, dIs_list_dict, ad_i, ad_l, ad_t, ad_s, sb_i, mu_i, fd_i, md_i, pw_10_6, pw_10_9, pw_10_12, pw_10_18, pw_10_59, pw_10_60, c_lt, c_le, c_gt, c_ge, c_eq_i, c_ne_i, c_eq_b, c_ne_b, c_isN, c_inN, c_isB, c_inB, c_in, c_ni, b_len_l, b_len_t, b_len_s, b_int_i, b_int_b, b_tup_l, b_tup_t, b_lst_l, b_lst_t, b_abs, b2_max, b2_min, ix_l, ix_t, sl_l, sl_t, rv_l, rv_t, getS_z, getS_s, ne_ok, seq_n, seq_r, evSs_n, evSs_c, outR_r, outR_n, bT_n, bT_t, bTs_n, bTs_c, asS, q2, q3, q4, q5, q6, q7]
    try simp only [vE_var, vE_int, vE_bl, vE_non, vE_str, vE_cst, vE_bin, vE_cmp, vE_chain, vE_and, vE_or, vE_not, vE_neg, vE_ite, vE_isi, vE_tup, vE_lst, vE_lmul, vE_ix, vE_slice, vE_rev, vE_b1, vE_b2, vE_dm, vE_call, vE_call0, vE_comp, vEs_n, vEs_c, vO_n, vO_s, vC_n, vC_s, vI_1, vI_2, vI_3, vI_s, vI_z, vI_e, zR_l, zR_t, vS_asgT, vS_par, vS_app, vS_setIx, vS_aug, vS_ite, vS_whl, vS_for, vS_ret, vS_retN, vS_expr, vS_pass, aF_n, aF_r, uh_n, uh_c, ag_a, ag_s, cl_n, cl_c, List.getD_cons_zero, List.getD_cons_succ, R.ok_bind, R.exc_bind, R.bad_bind, R.pure_eq, List.length_cons, List.length_nil, List.map_cons, List.map_nil, List.cons_append, List.nil_append, List.replicate_succ, List.replicate_zero, List.set_cons_zero, List.set_cons_succ, Nat.reduceAdd, Nat.reduceSub, Nat.reduceEqDiff, Int.cast_ofNat_Int, Int.reduceEq, Int.reduceLT, Int.reduceLE, Int.reduceAdd, Int.reduceSub, Int.reduceMul, Int.reduceNeg, decide_true, decide_false, Bool.false_and, Bool.true_and, Bool.and_true, Bool.and_false, Bool.or_true, Bool.or_false, Bool.true_or, Bool.false_or, if_true, ite_true, ite_false, Bool.false_eq_true, reduceIte, Bool.not_true, Bool.not_false, asI_i, asB_b, asL_l, asL_t, asLst_l, dIs_int_none, dIs_int_bool, dIs_int_int, dIs_int_str, dIs_int_list, dIs_int_tuple, dIs_int_dict, dIs_bool_none, dIs_bool_bool, dIs_bool_int, dIs_bool_str, dIs_bool_list, dIs_bool_tuple, dIs_bool_dict, dIs_str_none, dIs_str_bool, dIs_str_int, dIs_str_str, dIs_str_list, dIs_str_tuple, dIs_str_dict, dIs_tuple_none, dIs_tuple_bool, dIs_tuple_int, dIs_tuple_str, dIs_tuple_list, dIs_tuple_tuple, dIs_tuple_dict, dIs_list_none, dIs_list_bool, dIs_list_int, dIs_list_str, dIs_list_list, dIs_list_tuple, dIs_list_dict, ad_i, ad_l, ad_t, ad_s, sb_i, mu_i, fd_i, md_i, pw_10_6, pw_10_9, pw_10_12, pw_10_18, pw_10_59, pw_10_60, c_lt, c_le, c_gt, c_ge, c_eq_i, c_ne_i, c_eq_b, c_ne_b, c_isN, c_inN, c_isB, c_inB, c_in, c_ni, b_len_l, b_len_t, b_len_s, b_int_i, b_int_b, b_tup_l, b_tup_t, b_lst_l, b_lst_t, b_abs, b2_max, b2_min, ix_l, ix_t, sl_l, sl_t, rv_l, rv_t, getS_z, getS_s, ne_ok, seq_n, seq_r, evSs_n, evSs_c, outR_r, outR_n, bT_n, bT_t, bTs_n, bTs_c, asS, c0, e1, c1]
    rw [sized_ok (lt_size (by simp))]
    try simp only [vE_var, vE_int, vE_bl, vE_non, vE_str, vE_cst, vE_bin, vE_cmp, vE_chain, vE_and, vE_or, vE_not, vE_neg, vE_ite, vE_isi, vE_tup, vE_lst, vE_lmul, vE_ix, vE_slice, vE_rev, vE_b1, vE_b2, vE_dm, vE_call, vE_call0, vE_comp, vEs_n, vEs_c, vO_n, vO_s, vC_n, vC_s, vI_1, vI_2, vI_3, vI_s, vI_z, vI_e, zR_l, zR_t, vS_asgT, vS_par, vS_app, vS_setIx, vS_aug, vS_ite, vS_whl, vS_for, vS_ret, vS_retN, vS_expr, vS_pass, aF_n, aF_r, uh_n, uh_c, ag_a, ag_s, cl_n, cl_c, List.getD_cons_zero, List.getD_cons_succ, R.ok_bind, R.exc_bind, R.bad_bind, R.pure_eq, List.length_cons, List.length_nil, List.map_cons, List.map_nil, List.cons_append, List.nil_append, List.replicate_succ, List.replicate_zero, List.set_cons_zero, List.set_cons_succ, Nat.reduceAdd, Nat.reduceSub, Nat.reduceEqDiff, Int.cast_ofNat_Int, Int.reduceEq, Int.reduceLT, Int.reduceLE, Int.reduceAdd, Int.reduceSub, Int.reduceMul, Int.reduceNeg, decide_true, decide_false, Bool.false_and, Bool.true_and, Bool.and_true, Bool.and_false, Bool.or_true, Bool.or_false, Bool.true_or, Bool.false_or, if_true, ite_true, ite_false, Bool.false_eq_true, reduceIte, Bool.not_true, Bool.not_false, asI_i, asB_b, asL_l, asL_t, asLst_l, dIs_int_none, dIs_int_bool, dIs_int_int, dIs_int_str, dIs_int_list, dIs_int_tuple, dIs_int_dict, dIs_bool_none, dIs_bool_bool, dIs_bool_int, dIs_bool_str, dIs_bool_list, dIs_bool_tuple, dIs_bool_dict, dIs_str_none, dIs_str_bool, dIs_str_int, dIs_str_str, dIs_str_list, dIs_str_tuple, dIs_str_dict, dIs_tuple_none, dIs_tuple_bool, dIs_tuple_int, dIs_tuple_str, dIs_tuple_list, dIs_tuple_tuple, dIs_tuple_dict, dIs_list_none, dIs_list_bool, dIs_list_int, dIs_list_str, dIs_list_list, dIs_list_tuple, dIs_list_dict, ad_i, ad_l, ad_t, ad_s, sb_i, mu_i, fd_i, md_i, pw_10_6, pw_10_9, pw_10_12, pw_10_18, pw_10_59, pw_10_60, c_lt, c_le, c_gt, c_ge, c_eq_i, c_ne_i, c_eq_b, c_ne_b, c_isN, c_inN, c_isB, c_inB, c_in, c_ni, b_len_l, b_len_t, b_len_s, b_int_i, b_int_b, b_tup_l, b_tup_t, b_lst_l, b_lst_t, b_abs, b2_max, b2_min, ix_l, ix_t, sl_l, sl_t, rv_l, rv_t, getS_z, getS_s, ne_ok, seq_n, seq_r, evSs_n, evSs_c, outR_r, outR_n, bT_n, bT_t, bTs_n, bTs_c, asS, d1, sl, at0, at1, ofO_s]
    rw [mulOk_l (by omega)]
    bv_omega
    -- the wide step, then the far base
    have fin2 : ∀ W : Nat, S ≤ W → W ≤ 840 → Per f B W → outR (seqO (R.ok (Out.next [some (.list (ns.map .int)), some (stD f B S), some (.list [.int (u : Int), .int (v : Int)]), some (.int B), some (.int S), some (.int ((B : Int) + (v : Int))), some (.int (W : Int)), none, none, none]))
        (evSs ⟨run Tb N 9, N⟩ (.cons (.ite (.cmp .gt (.var 5) (.int 3000)) (.cons (.asg 0 5 (.var 3) []) .nil) .nil) (.cons (.asg 0 7 (.call 22 (.cons (.var 1) (.cons (.bin .add (.var 5) (.var 6)) .nil))) [])
          (.cons (.asg 0 8 (.call 11 (.cons (.var 7) (.cons (.var 5) (.cons (.var 6) .nil)))) [])
          (.cons (.asg 0 9 (.call 32 (.cons (.var 7) (.cons (.var 3) (.cons (.var 4) .nil)))) [])
          (.cons (.ite (.or (.not (.call 33 (.cons (.call 31 (.cons (.var 1) .nil)) (.cons (.var 9) .nil)))) (.not (.call 33 (.cons (.call 31 (.cons (.var 8) .nil)) (.cons (.var 9) .nil)))))
            (.cons (.ret 0 (.bl false)) .nil) .nil)
          (.cons (.ret 0 (.call 33 (.cons (.call 31 (.cons (.var 9) .nil)) (.cons (.var 9) .nil)))) .nil)))))))) = .ok (.bool true) := by
      intro W hSW hW hPW
      bv_omega
      by_cases hF : (3000 : Int) < (B : Int) + (v : Int)
      · simp only [hF, decide_true, if_true]
        bv_omega
        exact fin B W (Nat.le_refl _) hB hSW hW hPW none none
      · simp only [hF, decide_false]
        bv_omega
        have := fin (B + v) W (by omega) (by omega) hSW hW (hPW.up (by omega)) none none
        rw [show ((B + v : Nat) : Int) = (B : Int) + (v : Int) from rfl] at this
        exact this
    by_cases hW : (840 : Int) < (S : Int) * (1 + (u : Int))
    · simp only [hW, decide_true, if_true]
      exact fin2 S (Nat.le_refl _) hS hP
    · simp only [hW, decide_false, Bool.false_eq_true, if_false]
      have e : (S : Int) * (1 + (u : Int)) = ((S * (1 + u) : Nat) : Int) := by rw [Int.natCast_mul, Int.natCast_add]; rfl
      rw [e] at hW ⊢
      exact fin2 (S * (1 + u)) (Nat.le_mul_of_pos_right _ (by omega)) (by omega) fun x hx => hP.mul (1 + u) x hx
  | [], d2 => exact d2.elim
  | [_], d2 => exact d2.2.elim
  | _ :: _ :: _ :: _, d2 => exact d2.2.2.elim
theorem k03_go (ns : List Int) (hn : ns.length ≤ 63) : run Tb 1000000000 10 34 [.list (ns.map .int)] = .ok (.bool true) := k03_run (by decide) ns hn
end Ev
set_option Elab.async false
set_option linter.all false
set_option maxRecDepth 100000
set_option maxHeartbeats 4000000
namespace Ev
open PySem
local macro_rules | `(tactic| bv_omega) => `(tactic| try simp only [vE_var, vE_int, vE_bl, vE_non, vE_str, vE_cst, vE_bin, vE_cmp, vE_chain, vE_and, vE_or, vE_not, vE_neg, vE_ite, vE_isi, vE_tup, vE_lst, vE_lmul, vE_ix, vE_slice, vE_rev, vE_b1, vE_b2, vE_dm, vE_call, vE_call0, vE_comp, vEs_n, vEs_c, vO_n, vO_s, vC_n, vC_s, vI_1, vI_2, vI_3, vI_s, vI_z, vI_e, zR_l, zR_t, vS_asgT, vS_par, vS_app, vS_setIx, vS_aug, vS_ite, vS_whl, vS_for, vS_ret, vS_retN, vS_expr, vS_pass, aF_n, aF_r, uh_n, uh_c, ag_a, ag_s, cl_n, cl_c, List.getD_cons_zero, List.getD_cons_succ, R.ok_bind, R.exc_bind, R.bad_bind, R.pure_eq, List.length_cons, List.length_nil, List.map_cons, List.map_nil, List.cons_append, List.nil_append, List.replicate_succ, List.replicate_zero, List.set_cons_zero, List.set_cons_succ, Nat.reduceAdd, Nat.reduceSub, Nat.reduceEqDiff, Int.cast_ofNat_Int, Int.reduceEq, Int.reduceLT, Int.reduceLE, Int.reduceAdd, Int.reduceSub, Int.reduceMul, Int.reduceNeg, decide_true, decide_false, Bool.false_and, Bool.true_and, Bool.and_true, Bool.and_false, Bool.or_true, Bool.or_false, Bool.true_or, Bool.false_or, if_true, ite_true, ite_false, Bool.false_eq_true, reduceIte, Bool.not_true, Bool.not_false, asI_i, asB_b, asL_l, asL_t, asLst_l, dIs_int_none, dIs_int_bool, dIs_int_int, dIs_int_str, dIs_int_list, dIs_int_tuple, dIs_int_dict, dIs_bool_none, dIs_bool_bool, dIs_bool_int, dIs_bool_str, dIs_bool_list, dIs_bool_tuple, dIs_bool_dict, dIs_str_none, dIs_str_bool, dIs_str_int, dIs_str_str, dIs_str_list, dIs_str_tuple, dIs_str_dict, dIs_tuple_none, dIs_tuple_bool, dIs_tuple_int, dIs_tuple_str, dIs_tuple_list, dIs_tuple_tuple, dIs_tuple_dict, dIs_list_none, dIs_list_bool, dIs_list_int, dIs_list_str, dIs_list_list, dIs_list_tuple, dIs_list_dict, ad_i, ad_l, ad_t, ad_s, sb_i, mu_i, fd_i, md_i, pw_10_6, pw_10_9, pw_10_12, pw_10_18, pw_10_59, pw_10_60, c_lt, c_le, c_gt, c_ge, c_eq_i, c_ne_i, c_eq_b, c_ne_b, c_isN, c_inN, c_isB, c_inB, c_in, c_ni, b_len_l, b_len_t, b_len_s, b_int_i, b_int_b, b_tup_l, b_tup_t, b_lst_l, b_lst_t, b_abs, b2_max, b2_min, ix_l, ix_t, sl_l, sl_t, rv_l, rv_t, getS_z, getS_s, ne_ok, seq_n, seq_r, evSs_n, evSs_c, outR_r, outR_n, bT_n, bT_t, bTs_n, bTs_c, asS])
variable {N k : Nat}
theorem shared_loop {Φ : Cfg} : ∀ (b a F : Nat), b < F → whlL (testF Φ (.cmp .gt (.var 1) (.int 0))) (evSs Φ f_shared_by_b1) F [some (.int (a : Int)), some (.int (b : Int))] = .ok (.next [some (.int (Nat.gcd a b : Nat)), some (.int 0)]) := by
  intro b
  induction b using Nat.strongRecOn with
  | _ b ih =>
    intro a F hF
    obtain ⟨F, rfl⟩ : ∃ F', F = F' + 1 := ⟨F - 1, by omega⟩
    unfold whlL
    rw [testF_eq]
    bv_omega
    by_cases hb : (0 : Int) < (b : Int)
    · rw [decide_eq_true hb]
      bv_omega
      have st : evSs Φ f_shared_by_b1 [some (.int (a : Int)), some (.int (b : Int))] = .ok (.next [some (.int (b : Int)), some (.int ((a : Int) % (b : Int)))]) := by
        unfold f_shared_by_b1
        bv_omega
        rw [if_pos hb]
        bv_omega
      rw [st]
      bv_omega
      have hlt : a % b < b := Nat.mod_lt _ (by omega)
      rw [show (a : Int) % (b : Int) = ((a % b : Nat) : Int) from rfl, ih (a % b) hlt b F (by omega), Nat.gcd_comm b, ← Nat.gcd_rec, Nat.gcd_comm b a]
    · rw [decide_eq_false hb]
      bv_omega
      have : b = 0 := by omega
      subst this
      rw [Nat.gcd_zero_right]
      rfl
theorem lshared_loop {Φ : Cfg} : ∀ (b a F : Nat), b < F → whlL (testF Φ (.cmp .gt (.var 1) (.int 0))) (evSs Φ f_law_shared_b1) F [some (.int (a : Int)), some (.int (b : Int))] = .ok (.next [some (.int (Nat.gcd a b : Nat)), some (.int 0)]) := fun b a F h => shared_loop (Φ := Φ) b a F h
theorem shared_ok (a b : Nat) (h : b < N) : run Tb N (k + 1) 35 [.int (a : Int), .int (b : Int)] = .ok (.int (Nat.gcd a b : Nat)) := by
  rw [run_eq (fn := f_shared_by) rfl rfl]
  unfold f_shared_by
  bv_omega
  rw [shared_loop b a N h]
  bv_omega
theorem law_shared_ok (a b : Nat) (h : b < N) : run Tb N (k + 1) 38 [.int (a : Int), .int (b : Int)] = .ok (.int (Nat.gcd a b : Nat)) := by
  rw [run_eq (fn := f_law_shared) rfl rfl]
  unfold f_law_shared
  bv_omega
  rw [lshared_loop b a N h]
  bv_omega
end Ev
set_option Elab.async false
set_option linter.all false
set_option maxRecDepth 100000
set_option maxHeartbeats 4000000
namespace Ev
open PySem
local macro_rules | `(tactic| bv_omega) => `(tactic| try simp only [vE_var, vE_int, vE_bl, vE_non, vE_str, vE_cst, vE_bin, vE_cmp, vE_chain, vE_and, vE_or, vE_not, vE_neg, vE_ite, vE_isi, vE_tup, vE_lst, vE_lmul, vE_ix, vE_slice, vE_rev, vE_b1, vE_b2, vE_dm, vE_call, vE_call0, vE_comp, vEs_n, vEs_c, vO_n, vO_s, vC_n, vC_s, vI_1, vI_2, vI_3, vI_s, vI_z, vI_e, zR_l, zR_t, vS_asgT, vS_par, vS_app, vS_setIx, vS_aug, vS_ite, vS_whl, vS_for, vS_ret, vS_retN, vS_expr, vS_pass, aF_n, aF_r, uh_n, uh_c, ag_a, ag_s, cl_n, cl_c, List.getD_cons_zero, List.getD_cons_succ, R.ok_bind, R.exc_bind, R.bad_bind, R.pure_eq, List.length_cons, List.length_nil, List.map_cons, List.map_nil, List.cons_append, List.nil_append, List.replicate_succ, List.replicate_zero, List.set_cons_zero, List.set_cons_succ, Nat.reduceAdd, Nat.reduceSub, Nat.reduceEqDiff, Int.cast_ofNat_Int, Int.reduceEq, Int.reduceLT, Int.reduceLE, Int.reduceAdd, Int.reduceSub, Int.reduceMul, Int.reduceNeg, decide_true, decide_false, Bool.false_and, Bool.true_and, Bool.and_true, Bool.and_false, Bool.or_true, Bool.or_false, Bool.true_or, Bool.false_or, if_true, ite_true, ite_false, Bool.false_eq_true, reduceIte, Bool.not_true, Bool.not_false, asI_i, asB_b, asL_l, asL_t, asLst_l, dIs_int_none, dIs_int_bool, dIs_int_int, dIs_int_str, dIs_int_list, dIs_int_tuple, dIs_int_dict, dIs_bool_none, dIs_bool_bool, dIs_bool_int, dIs_bool_str, dIs_bool_list, dIs_bool_tuple, dIs_bool_dict, dIs_str_none, dIs_str_bool, dIs_str_int, dIs_str_str, dIs_str_list, dIs_str_tuple, dIs_str_dict, dIs_tuple_none, dIs_tuple_bool, dIs_tuple_int, dIs_tuple_str, dIs_tuple_list, dIs_tuple_tuple, dIs_tuple_dict, dIs_list_none, dIs_list_bool, dIs_list_int, dIs_list_str, dIs_list_list, dIs_list_tuple, dIs_list_dict, ad_i, ad_l, ad_t, ad_s, sb_i, mu_i, fd_i, md_i, pw_10_6, pw_10_9, pw_10_12, pw_10_18, pw_10_59, pw_10_60, c_lt, c_le, c_gt, c_ge, c_eq_i, c_ne_i, c_eq_b, c_ne_b, c_isN, c_inN, c_isB, c_inB, c_in, c_ni, b_len_l, b_len_t, b_len_s, b_int_i, b_int_b, b_tup_l, b_tup_t, b_lst_l, b_lst_t, b_abs, b2_max, b2_min, ix_l, ix_t, sl_l, sl_t, rv_l, rv_t, getS_z, getS_s, ne_ok, seq_n, seq_r, evSs_n, evSs_c, outR_r, outR_n, bT_n, bT_t, bTs_n, bTs_c, asS])
variable {N k : Nat}
theorem at4 {α : Type} (x y z u v : α) (r : List α) : L2.atI (x :: y :: z :: u :: v :: r) 4 = some v := L2.atI_nat (j := 4) rfl
theorem at5 {α : Type} (x y z u v w : α) (r : List α) : L2.atI (x :: y :: z :: u :: v :: w :: r) 5 = some w := L2.atI_nat (j := 5) rfl
theorem Per.dvd {f : Sq} {B q S : Nat} (h : Per f B q) (hd : q ∣ S) : Per f B S := by
  obtain ⟨n, rfl⟩ := hd
  exact fun x hx => h.mul n x hx
theorem sq_agree {f g : Sq} {B S : Nat} (hf : Per f B S) (hg : Per g B S) (h1 : 1 ≤ S) (h : ∀ x, x < B + S → f x = g x) : f = g := by
  funext x
  by_cases hx : x < B + S
  · exact h x hx
  · have e1 := hf.mul ((x - B) / S) (B + (x - B) % S) (by omega)
    have e2 := hg.mul ((x - B) / S) (B + (x - B) % S) (by omega)
    have hm := Nat.mod_lt (x - B) (show S > 0 by omega)
    rw [show B + (x - B) % S + S * ((x - B) / S) = x by have := Nat.mod_add_div (x - B) S; omega] at e1 e2
    rw [e1, e2, h _ (by omega)]
structure Pair (f g : Sq) (B S C T : Nat) : Prop where
  pf : Per f B S
  pg : Per g C T
  s1 : 1 ≤ S
  t1 : 1 ≤ T
  hB : B ≤ 3000
  hC : C ≤ 3000
  hS : S ≤ 840
  hT : T ≤ 840
  hW : Nat.lcm S T ≤ 840
theorem Pair.symm {f g : Sq} {B S C T : Nat} (h : Pair f g B S C T) : Pair g f C T B S :=
  ⟨h.pg, h.pf, h.t1, h.s1, h.hC, h.hB, h.hT, h.hS, by rw [Nat.lcm_comm]; exact h.hW⟩
theorem Pair.w1 {f g : Sq} {B S C T : Nat} (h : Pair f g B S C T) : 1 ≤ Nat.lcm S T := Nat.lcm_pos h.s1 h.t1
theorem Pair.per {f g : Sq} {B S C T M : Nat} (h : Pair f g B S C T) (hM : M = max B C) : Per f M (Nat.lcm S T) ∧ Per g M (Nat.lcm S T) :=
  ⟨(h.pf.dvd (Nat.dvd_lcm_left S T)).up (by omega), (h.pg.dvd (Nat.dvd_lcm_right S T)).up (by omega)⟩
theorem max_nat (B C : Nat) : (if (C : Int) > (B : Int) then (C : Int) else (B : Int)) = ((max B C : Nat) : Int) := by
  split <;> omega
theorem lcm_nat (S T : Nat) (h : 1 ≤ S) : (S : Int) * (T : Int) / ((Nat.gcd S T : Nat) : Int) = ((Nat.lcm S T : Nat) : Int) := by
  unfold Nat.lcm
  rw [Int.natCast_ediv, Int.natCast_mul]
theorem gcd_log {S T : Nat} (h : 1 ≤ S) (hS : S ≤ 840) : 0 < ((Nat.gcd S T : Nat) : Int) ∧ ((Nat.gcd S T : Nat) : Int).natAbs.log2 < 9000 := by
  have g1 := Nat.gcd_pos_of_pos_left T h
  have g2 := Nat.gcd_le_left T h
  exact log_ok (by omega)
theorem levelled_ok {f g : Sq} {B S C T : Nat} (h : Pair f g B S C T) (hN : 1000000 ≤ N) : run Tb N (k + 5) 36 [stD f B S, stD g C T] =
    .ok (.tuple [bitsD (bitsF f (max B C + Nat.lcm S T)), bitsD (bitsF g (max B C + Nat.lcm S T)), .int ((max B C : Nat) : Int), .int ((Nat.lcm S T : Nat) : Int)]) := by
  obtain ⟨pf, pg, s1, t1, hB, hC, hS, hT, hW⟩ := h
  rw [run_eq (fn := f_levelled) rfl rfl]
  unfold f_levelled
  have i1 := is_stair_ok (N := N) (k := k + 1) (stD f B S) (stD_th f B S (by omega)).sz
  have i2 := is_stair_ok (N := N) (k := k + 1) (stD g C T) (stD_th g C T (by omega)).sz
  rw [stD_is f B S s1] at i1
  rw [stD_is g C T t1] at i2
  try simp only [vE_var, vE_int, vE_bl, vE_non, vE_str, vE_cst, vE_bin, vE_cmp, vE_chain, vE_and, vE_or, vE_not, vE_neg, vE_ite, vE_isi, vE_tup, vE_lst, vE_lmul, vE_ix, vE_slice, vE_rev, vE_b1, vE_b2, vE_dm, vE_call, vE_call0, vE_comp, vEs_n, vEs_c, vO_n, vO_s, vC_n, vC_s, vI_1, vI_2, vI_3, vI_s, vI_z, vI_e, zR_l, zR_t, vS_asgT, vS_par, vS_app, vS_setIx, vS_aug, vS_ite, vS_whl, vS_for, vS_ret, vS_retN, vS_expr, vS_pass, aF_n, aF_r, uh_n, uh_c, ag_a, ag_s, cl_n, cl_c, List.getD_cons_zero, List.getD_cons_succ, R.ok_bind, R.exc_bind, R.bad_bind, R.pure_eq, List.length_cons, List.length_nil, List.map_cons, List.map_nil, List.cons_append, List.nil_append, List.replicate_succ, List.replicate_zero, List.set_cons_zero, List.set_cons_succ, Nat.reduceAdd, Nat.reduceSub, Nat.reduceEqDiff, Int.cast_ofNat_Int, Int.reduceEq, Int.reduceLT, Int.reduceLE, Int.reduceAdd, Int.reduceSub, Int.reduceMul, Int.reduceNeg, decide_true, decide_false, Bool.false_and, Bool.true_and, Bool.and_true, Bool.and_false, Bool.or_true, Bool.or_false, Bool.true_or, Bool.false_or, if_true, ite_true, ite_false, Bool.false_eq_true, reduceIte, Bool.not_true, Bool.not_false, asI_i, asB_b, asL_l, asL_t, asLst_l, dIs_int_none, dIs_int_bool, dIs_int_int, dIs_int_str, dIs_int_list, dIs_int_tuple, dIs_int_dict, dIs_bool_none, dIs_bool_bool, dIs_bool_int, dIs_bool_str, dIs_bool_list, dIs_bool_tuple, dIs_bool_dict, dIs_str_none, dIs_str_bool, dIs_str_int, dIs_str_str, dIs_str_list, dIs_str_tuple, dIs_str_dict, dIs_tuple_none, dIs_tuple_bool, dIs_tuple_int, dIs_tuple_str, dIs_tuple_list, dIs_tuple_tuple, dIs_tuple_dict, dIs_list_none, dIs_list_bool, dIs_list_int, dIs_list_str, dIs_list_list, dIs_list_tuple, dIs_list_dict, ad_i, ad_l, ad_t, ad_s, sb_i, mu_i, fd_i, md_i, pw_10_6, pw_10_9, pw_10_12, pw_10_18, pw_10_59, pw_10_60, c_lt, c_le, c_gt, c_ge, c_eq_i, c_ne_i, c_eq_b, c_ne_b, c_isN, c_inN, c_isB, c_inB, c_in, c_ni, b_len_l, b_len_t, b_len_s, b_int_i, b_int_b, b_tup_l, b_tup_t, b_lst_l, b_lst_t, b_abs, b2_max, b2_min, ix_l, ix_t, sl_l, sl_t, rv_l, rv_t, getS_z, getS_s, ne_ok, seq_n, seq_r, evSs_n, evSs_c, outR_r, outR_n, bT_n, bT_t, bTs_n, bTs_c, asS, i1, i2, check_stair_ok f B S s1 hB hS, check_stair_ok g C T t1 hC hT, stD_ix0, stD_ix1]
  rw [mulOk_l (by omega)]
  try simp only [vE_var, vE_int, vE_bl, vE_non, vE_str, vE_cst, vE_bin, vE_cmp, vE_chain, vE_and, vE_or, vE_not, vE_neg, vE_ite, vE_isi, vE_tup, vE_lst, vE_lmul, vE_ix, vE_slice, vE_rev, vE_b1, vE_b2, vE_dm, vE_call, vE_call0, vE_comp, vEs_n, vEs_c, vO_n, vO_s, vC_n, vC_s, vI_1, vI_2, vI_3, vI_s, vI_z, vI_e, zR_l, zR_t, vS_asgT, vS_par, vS_app, vS_setIx, vS_aug, vS_ite, vS_whl, vS_for, vS_ret, vS_retN, vS_expr, vS_pass, aF_n, aF_r, uh_n, uh_c, ag_a, ag_s, cl_n, cl_c, List.getD_cons_zero, List.getD_cons_succ, R.ok_bind, R.exc_bind, R.bad_bind, R.pure_eq, List.length_cons, List.length_nil, List.map_cons, List.map_nil, List.cons_append, List.nil_append, List.replicate_succ, List.replicate_zero, List.set_cons_zero, List.set_cons_succ, Nat.reduceAdd, Nat.reduceSub, Nat.reduceEqDiff, Int.cast_ofNat_Int, Int.reduceEq, Int.reduceLT, Int.reduceLE, Int.reduceAdd, Int.reduceSub, Int.reduceMul, Int.reduceNeg, decide_true, decide_false, Bool.false_and, Bool.true_and, Bool.and_true, Bool.and_false, Bool.or_true, Bool.or_false, Bool.true_or, Bool.false_or, if_true, ite_true, ite_false, Bool.false_eq_true, reduceIte, Bool.not_true, Bool.not_false, asI_i, asB_b, asL_l, asL_t, asLst_l, dIs_int_none, dIs_int_bool, dIs_int_int, dIs_int_str, dIs_int_list, dIs_int_tuple, dIs_int_dict, dIs_bool_none, dIs_bool_bool, dIs_bool_int, dIs_bool_str, dIs_bool_list, dIs_bool_tuple, dIs_bool_dict, dIs_str_none, dIs_str_bool, dIs_str_int, dIs_str_str, dIs_str_list, dIs_str_tuple, dIs_str_dict, dIs_tuple_none, dIs_tuple_bool, dIs_tuple_int, dIs_tuple_str, dIs_tuple_list, dIs_tuple_tuple, dIs_tuple_dict, dIs_list_none, dIs_list_bool, dIs_list_int, dIs_list_str, dIs_list_list, dIs_list_tuple, dIs_list_dict, ad_i, ad_l, ad_t, ad_s, sb_i, mu_i, fd_i, md_i, pw_10_6, pw_10_9, pw_10_12, pw_10_18, pw_10_59, pw_10_60, c_lt, c_le, c_gt, c_ge, c_eq_i, c_ne_i, c_eq_b, c_ne_b, c_isN, c_inN, c_isB, c_inB, c_in, c_ni, b_len_l, b_len_t, b_len_s, b_int_i, b_int_b, b_tup_l, b_tup_t, b_lst_l, b_lst_t, b_abs, b2_max, b2_min, ix_l, ix_t, sl_l, sl_t, rv_l, rv_t, getS_z, getS_s, ne_ok, seq_n, seq_r, evSs_n, evSs_c, outR_r, outR_n, bT_n, bT_t, bTs_n, bTs_c, asS, shared_ok (N := N) (k := k + 3) S T (by omega)]
  rw [if_pos (gcd_log s1 hS), lcm_nat S T s1]
  bv_omega
  obtain ⟨W, eW⟩ : ∃ W, W = Nat.lcm S T := ⟨_, rfl⟩
  rw [← eW] at hW ⊢
  rw [decide_eq_false (by omega)]
  try simp only [vE_var, vE_int, vE_bl, vE_non, vE_str, vE_cst, vE_bin, vE_cmp, vE_chain, vE_and, vE_or, vE_not, vE_neg, vE_ite, vE_isi, vE_tup, vE_lst, vE_lmul, vE_ix, vE_slice, vE_rev, vE_b1, vE_b2, vE_dm, vE_call, vE_call0, vE_comp, vEs_n, vEs_c, vO_n, vO_s, vC_n, vC_s, vI_1, vI_2, vI_3, vI_s, vI_z, vI_e, zR_l, zR_t, vS_asgT, vS_par, vS_app, vS_setIx, vS_aug, vS_ite, vS_whl, vS_for, vS_ret, vS_retN, vS_expr, vS_pass, aF_n, aF_r, uh_n, uh_c, ag_a, ag_s, cl_n, cl_c, List.getD_cons_zero, List.getD_cons_succ, R.ok_bind, R.exc_bind, R.bad_bind, R.pure_eq, List.length_cons, List.length_nil, List.map_cons, List.map_nil, List.cons_append, List.nil_append, List.replicate_succ, List.replicate_zero, List.set_cons_zero, List.set_cons_succ, Nat.reduceAdd, Nat.reduceSub, Nat.reduceEqDiff, Int.cast_ofNat_Int, Int.reduceEq, Int.reduceLT, Int.reduceLE, Int.reduceAdd, Int.reduceSub, Int.reduceMul, Int.reduceNeg, decide_true, decide_false, Bool.false_and, Bool.true_and, Bool.and_true, Bool.and_false, Bool.or_true, Bool.or_false, Bool.true_or, Bool.false_or, if_true, ite_true, ite_false, Bool.false_eq_true, reduceIte, Bool.not_true, Bool.not_false, asI_i, asB_b, asL_l, asL_t, asLst_l, dIs_int_none, dIs_int_bool, dIs_int_int, dIs_int_str, dIs_int_list, dIs_int_tuple, dIs_int_dict, dIs_bool_none, dIs_bool_bool, dIs_bool_int, dIs_bool_str, dIs_bool_list, dIs_bool_tuple, dIs_bool_dict, dIs_str_none, dIs_str_bool, dIs_str_int, dIs_str_str, dIs_str_list, dIs_str_tuple, dIs_str_dict, dIs_tuple_none, dIs_tuple_bool, dIs_tuple_int, dIs_tuple_str, dIs_tuple_list, dIs_tuple_tuple, dIs_tuple_dict, dIs_list_none, dIs_list_bool, dIs_list_int, dIs_list_str, dIs_list_list, dIs_list_tuple, dIs_list_dict, ad_i, ad_l, ad_t, ad_s, sb_i, mu_i, fd_i, md_i, pw_10_6, pw_10_9, pw_10_12, pw_10_18, pw_10_59, pw_10_60, c_lt, c_le, c_gt, c_ge, c_eq_i, c_ne_i, c_eq_b, c_ne_b, c_isN, c_inN, c_isB, c_inB, c_in, c_ni, b_len_l, b_len_t, b_len_s, b_int_i, b_int_b, b_tup_l, b_tup_t, b_lst_l, b_lst_t, b_abs, b2_max, b2_min, ix_l, ix_t, sl_l, sl_t, rv_l, rv_t, getS_z, getS_s, ne_ok, seq_n, seq_r, evSs_n, evSs_c, outR_r, outR_n, bT_n, bT_t, bTs_n, bTs_c, asS, stD_ix0, max_nat]
  obtain ⟨M, eM⟩ : ∃ M, M = max B C := ⟨_, rfl⟩
  rw [← eM]
  rw [show (M : Int) + (W : Int) = ((M + W : Nat) : Int) from rfl, bits_of_ok (k := k + 3) pf s1 (by omega) (by omega) (by omega), bits_of_ok (k := k + 3) pg t1 (by omega) (by omega) (by omega)]
  bv_omega
  rw [mkTup_ok (lt_size (by simp))]
  rfl
/-- the least number at which f and g part -/
def PartD (f g : Sq) (d : D) : Prop := (d = .none ∧ f = g) ∨ ∃ x : Nat, d = .int (x : Int) ∧ f x ≠ g x ∧ ∀ y, y < x → f y = g y
theorem PartD.uniq {f g : Sq} {d d' : D} (h : PartD f g d) (h' : PartD f g d') : d = d' := by
  rcases h with ⟨rfl, h⟩ | ⟨x, rfl, h1, h2⟩
  · rcases h' with ⟨rfl, _⟩ | ⟨y, rfl, h3, _⟩
    · rfl
    · exact absurd (by rw [h]) h3
  · rcases h' with ⟨rfl, h⟩ | ⟨y, rfl, h3, h4⟩
    · exact absurd (by rw [h]) h1
    · have a1 : ¬ x < y := fun z => h1 (h4 x z)
      have a2 : ¬ y < x := fun z => h3 (h2 y z)
      have : x = y := by omega
      rw [this]
theorem PartD.symm {f g : Sq} {d : D} (h : PartD f g d) : PartD g f d := by
  rcases h with ⟨e, h⟩ | ⟨x, e, h1, h2⟩
  · exact .inl ⟨e, h.symm⟩
  · exact .inr ⟨x, e, fun z => h1 z.symm, fun y hy => (h2 y hy).symm⟩
theorem c_ne_bl (a b : Bool) : dCmp .ne (.bool a) (.bool b) = .ok (.bool (!(a == b))) := c_ne_b a b
theorem parting_ok {f g : Sq} {B S C T : Nat} (h : Pair f g B S C T) (hN : 1000000 ≤ N) : ∃ d, run Tb N (k + 6) 37 [stD f B S, stD g C T] = .ok d ∧ PartD f g d := by
  rw [run_eq (fn := f_parting) rfl rfl]
  unfold f_parting
  try simp only [vE_var, vE_int, vE_bl, vE_non, vE_str, vE_cst, vE_bin, vE_cmp, vE_chain, vE_and, vE_or, vE_not, vE_neg, vE_ite, vE_isi, vE_tup, vE_lst, vE_lmul, vE_ix, vE_slice, vE_rev, vE_b1, vE_b2, vE_dm, vE_call, vE_call0, vE_comp, vEs_n, vEs_c, vO_n, vO_s, vC_n, vC_s, vI_1, vI_2, vI_3, vI_s, vI_z, vI_e, zR_l, zR_t, vS_asgT, vS_par, vS_app, vS_setIx, vS_aug, vS_ite, vS_whl, vS_for, vS_ret, vS_retN, vS_expr, vS_pass, aF_n, aF_r, uh_n, uh_c, ag_a, ag_s, cl_n, cl_c, List.getD_cons_zero, List.getD_cons_succ, R.ok_bind, R.exc_bind, R.bad_bind, R.pure_eq, List.length_cons, List.length_nil, List.map_cons, List.map_nil, List.cons_append, List.nil_append, List.replicate_succ, List.replicate_zero, List.set_cons_zero, List.set_cons_succ, Nat.reduceAdd, Nat.reduceSub, Nat.reduceEqDiff, Int.cast_ofNat_Int, Int.reduceEq, Int.reduceLT, Int.reduceLE, Int.reduceAdd, Int.reduceSub, Int.reduceMul, Int.reduceNeg, decide_true, decide_false, Bool.false_and, Bool.true_and, Bool.and_true, Bool.and_false, Bool.or_true, Bool.or_false, Bool.true_or, Bool.false_or, if_true, ite_true, ite_false, Bool.false_eq_true, reduceIte, Bool.not_true, Bool.not_false, asI_i, asB_b, asL_l, asL_t, asLst_l, dIs_int_none, dIs_int_bool, dIs_int_int, dIs_int_str, dIs_int_list, dIs_int_tuple, dIs_int_dict, dIs_bool_none, dIs_bool_bool, dIs_bool_int, dIs_bool_str, dIs_bool_list, dIs_bool_tuple, dIs_bool_dict, dIs_str_none, dIs_str_bool, dIs_str_int, dIs_str_str, dIs_str_list, dIs_str_tuple, dIs_str_dict, dIs_tuple_none, dIs_tuple_bool, dIs_tuple_int, dIs_tuple_str, dIs_tuple_list, dIs_tuple_tuple, dIs_tuple_dict, dIs_list_none, dIs_list_bool, dIs_list_int, dIs_list_str, dIs_list_list, dIs_list_tuple, dIs_list_dict, ad_i, ad_l, ad_t, ad_s, sb_i, mu_i, fd_i, md_i, pw_10_6, pw_10_9, pw_10_12, pw_10_18, pw_10_59, pw_10_60, c_lt, c_le, c_gt, c_ge, c_eq_i, c_ne_i, c_eq_b, c_ne_b, c_isN, c_inN, c_isB, c_inB, c_in, c_ni, b_len_l, b_len_t, b_len_s, b_int_i, b_int_b, b_tup_l, b_tup_t, b_lst_l, b_lst_t, b_abs, b2_max, b2_min, ix_l, ix_t, sl_l, sl_t, rv_l, rv_t, getS_z, getS_s, ne_ok, seq_n, seq_r, evSs_n, evSs_c, outR_r, outR_n, bT_n, bT_t, bTs_n, bTs_c, asS, levelled_ok (k := k) h hN]
  obtain ⟨qf, qg⟩ := h.per rfl
  have w1 := h.w1
  have hW := h.hW
  have hM : max B C ≤ 3000 := by have := h.hB; have := h.hC; omega
  obtain ⟨W, eW⟩ : ∃ W, W = Nat.lcm S T := ⟨_, rfl⟩
  obtain ⟨M, eM⟩ : ∃ M, M = max B C := ⟨_, rfl⟩
  rw [← eW] at hW w1 qf qg ⊢
  rw [← eM] at hM qf qg ⊢
  rw [small62_of (by omega)]
  bv_omega
  rcases forL_inv (f := stepF ⟨run Tb N (k + 5), N⟩ (.name 6) f_parting_b1) (Inv := fun i e => (∃ o : Option D, e = [some (stD f B S), some (stD g C T), some (bitsD (bitsF f (M + W))), some (bitsD (bitsF g (M + W))), some (.int (M : Int)), some (.int (W : Int)), o]) ∧ ∀ y, y < i → f y = g y) (P := fun d => ∃ x : Nat, d = .int (x : Int) ∧ f x ≠ g x ∧ ∀ y, y < x → f y = g y) (l := rng 0 ((M : Int) + (W : Int)).toNat 1) (e := [some (stD f B S), some (stD g C T), some (bitsD (bitsF f (M + W))), some (bitsD (bitsF g (M + W))), some (.int (M : Int)), some (.int (W : Int)), none]) (j := 0) (fun i d e hi ⟨⟨o, he⟩, hI⟩ => by
      obtain ⟨h1, rfl⟩ := rng_at hi
      subst he
      rw [Nat.zero_add] at hI ⊢
      rw [stepF_eq, show (0 : Int) + (i : Int) * 1 = (i : Int) by omega]
      unfold f_parting_b1 bitsD
      bv_omega
      rw [bitsF_at f (show i < M + W by omega), bitsF_at g (show i < M + W by omega)]
      try simp only [vE_var, vE_int, vE_bl, vE_non, vE_str, vE_cst, vE_bin, vE_cmp, vE_chain, vE_and, vE_or, vE_not, vE_neg, vE_ite, vE_isi, vE_tup, vE_lst, vE_lmul, vE_ix, vE_slice, vE_rev, vE_b1, vE_b2, vE_dm, vE_call, vE_call0, vE_comp, vEs_n, vEs_c, vO_n, vO_s, vC_n, vC_s, vI_1, vI_2, vI_3, vI_s, vI_z, vI_e, zR_l, zR_t, vS_asgT, vS_par, vS_app, vS_setIx, vS_aug, vS_ite, vS_whl, vS_for, vS_ret, vS_retN, vS_expr, vS_pass, aF_n, aF_r, uh_n, uh_c, ag_a, ag_s, cl_n, cl_c, List.getD_cons_zero, List.getD_cons_succ, R.ok_bind, R.exc_bind, R.bad_bind, R.pure_eq, List.length_cons, List.length_nil, List.map_cons, List.map_nil, List.cons_append, List.nil_append, List.replicate_succ, List.replicate_zero, List.set_cons_zero, List.set_cons_succ, Nat.reduceAdd, Nat.reduceSub, Nat.reduceEqDiff, Int.cast_ofNat_Int, Int.reduceEq, Int.reduceLT, Int.reduceLE, Int.reduceAdd, Int.reduceSub, Int.reduceMul, Int.reduceNeg, decide_true, decide_false, Bool.false_and, Bool.true_and, Bool.and_true, Bool.and_false, Bool.or_true, Bool.or_false, Bool.true_or, Bool.false_or, if_true, ite_true, ite_false, Bool.false_eq_true, reduceIte, Bool.not_true, Bool.not_false, asI_i, asB_b, asL_l, asL_t, asLst_l, dIs_int_none, dIs_int_bool, dIs_int_int, dIs_int_str, dIs_int_list, dIs_int_tuple, dIs_int_dict, dIs_bool_none, dIs_bool_bool, dIs_bool_int, dIs_bool_str, dIs_bool_list, dIs_bool_tuple, dIs_bool_dict, dIs_str_none, dIs_str_bool, dIs_str_int, dIs_str_str, dIs_str_list, dIs_str_tuple, dIs_str_dict, dIs_tuple_none, dIs_tuple_bool, dIs_tuple_int, dIs_tuple_str, dIs_tuple_list, dIs_tuple_tuple, dIs_tuple_dict, dIs_list_none, dIs_list_bool, dIs_list_int, dIs_list_str, dIs_list_list, dIs_list_tuple, dIs_list_dict, ad_i, ad_l, ad_t, ad_s, sb_i, mu_i, fd_i, md_i, pw_10_6, pw_10_9, pw_10_12, pw_10_18, pw_10_59, pw_10_60, c_lt, c_le, c_gt, c_ge, c_eq_i, c_ne_i, c_eq_b, c_ne_b, c_isN, c_inN, c_isB, c_inB, c_in, c_ni, b_len_l, b_len_t, b_len_s, b_int_i, b_int_b, b_tup_l, b_tup_t, b_lst_l, b_lst_t, b_abs, b2_max, b2_min, ix_l, ix_t, sl_l, sl_t, rv_l, rv_t, getS_z, getS_s, ne_ok, seq_n, seq_r, evSs_n, evSs_c, outR_r, outR_n, bT_n, bT_t, bTs_n, bTs_c, asS, ofO_s]
      by_cases hfg : f i = g i
      · left
        rw [hfg, beq_self_eq_true]
        bv_omega
        refine ⟨_, rfl, ⟨some (.int (i : Int)), rfl⟩, fun y hy => ?_⟩
        by_cases hy2 : y = i
        · subst hy2; exact hfg
        · exact hI y (by omega)
      · right
        rw [show (f i == g i) = false from beq_false_of_ne hfg]
        bv_omega
        exact ⟨_, rfl, i, rfl, hfg, hI⟩) ⟨⟨none, rfl⟩, fun y hy => absurd hy (Nat.not_lt_zero _)⟩ with ⟨e', l1, ⟨o, l2⟩, l3⟩ | ⟨v, l1, l2⟩
  · rw [Nat.zero_add, rng_length] at l3
    rw [l1, l2]
    bv_omega
    exact ⟨.none, rfl, .inl ⟨rfl, sq_agree qf qg w1 fun x hx => l3 x (by omega)⟩⟩
  · rw [l1]
    bv_omega
    exact ⟨v, rfl, .inr l2⟩
/-! ### two stairs drawn -/
theorem law_stepped_ok {f : Sq} {B S W : Nat} (hS : Per f B S) (h1 : 1 ≤ S) (h2 : B + S ≤ 900000) (hW : B + W ≤ 900000) : run Tb N (k + 2) 39 [stD f B S, .int (W : Int)] = .ok (stD f B W) := by
  rw [run_eq (fn := f_law_stepped) rfl rfl]
  unfold f_law_stepped
  try simp only [vE_var, vE_int, vE_bl, vE_non, vE_str, vE_cst, vE_bin, vE_cmp, vE_chain, vE_and, vE_or, vE_not, vE_neg, vE_ite, vE_isi, vE_tup, vE_lst, vE_lmul, vE_ix, vE_slice, vE_rev, vE_b1, vE_b2, vE_dm, vE_call, vE_call0, vE_comp, vEs_n, vEs_c, vO_n, vO_s, vC_n, vC_s, vI_1, vI_2, vI_3, vI_s, vI_z, vI_e, zR_l, zR_t, vS_asgT, vS_par, vS_app, vS_setIx, vS_aug, vS_ite, vS_whl, vS_for, vS_ret, vS_retN, vS_expr, vS_pass, aF_n, aF_r, uh_n, uh_c, ag_a, ag_s, cl_n, cl_c, List.getD_cons_zero, List.getD_cons_succ, R.ok_bind, R.exc_bind, R.bad_bind, R.pure_eq, List.length_cons, List.length_nil, List.map_cons, List.map_nil, List.cons_append, List.nil_append, List.replicate_succ, List.replicate_zero, List.set_cons_zero, List.set_cons_succ, Nat.reduceAdd, Nat.reduceSub, Nat.reduceEqDiff, Int.cast_ofNat_Int, Int.reduceEq, Int.reduceLT, Int.reduceLE, Int.reduceAdd, Int.reduceSub, Int.reduceMul, Int.reduceNeg, decide_true, decide_false, Bool.false_and, Bool.true_and, Bool.and_true, Bool.and_false, Bool.or_true, Bool.or_false, Bool.true_or, Bool.false_or, if_true, ite_true, ite_false, Bool.false_eq_true, reduceIte, Bool.not_true, Bool.not_false, asI_i, asB_b, asL_l, asL_t, asLst_l, dIs_int_none, dIs_int_bool, dIs_int_int, dIs_int_str, dIs_int_list, dIs_int_tuple, dIs_int_dict, dIs_bool_none, dIs_bool_bool, dIs_bool_int, dIs_bool_str, dIs_bool_list, dIs_bool_tuple, dIs_bool_dict, dIs_str_none, dIs_str_bool, dIs_str_int, dIs_str_str, dIs_str_list, dIs_str_tuple, dIs_str_dict, dIs_tuple_none, dIs_tuple_bool, dIs_tuple_int, dIs_tuple_str, dIs_tuple_list, dIs_tuple_tuple, dIs_tuple_dict, dIs_list_none, dIs_list_bool, dIs_list_int, dIs_list_str, dIs_list_list, dIs_list_tuple, dIs_list_dict, ad_i, ad_l, ad_t, ad_s, sb_i, mu_i, fd_i, md_i, pw_10_6, pw_10_9, pw_10_12, pw_10_18, pw_10_59, pw_10_60, c_lt, c_le, c_gt, c_ge, c_eq_i, c_ne_i, c_eq_b, c_ne_b, c_isN, c_inN, c_isB, c_inB, c_in, c_ni, b_len_l, b_len_t, b_len_s, b_int_i, b_int_b, b_tup_l, b_tup_t, b_lst_l, b_lst_t, b_abs, b2_max, b2_min, ix_l, ix_t, sl_l, sl_t, rv_l, rv_t, getS_z, getS_s, ne_ok, seq_n, seq_r, evSs_n, evSs_c, outR_r, outR_n, bT_n, bT_t, bTs_n, bTs_c, asS, stD_ix0]
  rw [show (B : Int) + (W : Int) = ((B + W : Nat) : Int) from rfl, law_stair_bits_ok hS h1 h2 hW]
  try simp only [vE_var, vE_int, vE_bl, vE_non, vE_str, vE_cst, vE_bin, vE_cmp, vE_chain, vE_and, vE_or, vE_not, vE_neg, vE_ite, vE_isi, vE_tup, vE_lst, vE_lmul, vE_ix, vE_slice, vE_rev, vE_b1, vE_b2, vE_dm, vE_call, vE_call0, vE_comp, vEs_n, vEs_c, vO_n, vO_s, vC_n, vC_s, vI_1, vI_2, vI_3, vI_s, vI_z, vI_e, zR_l, zR_t, vS_asgT, vS_par, vS_app, vS_setIx, vS_aug, vS_ite, vS_whl, vS_for, vS_ret, vS_retN, vS_expr, vS_pass, aF_n, aF_r, uh_n, uh_c, ag_a, ag_s, cl_n, cl_c, List.getD_cons_zero, List.getD_cons_succ, R.ok_bind, R.exc_bind, R.bad_bind, R.pure_eq, List.length_cons, List.length_nil, List.map_cons, List.map_nil, List.cons_append, List.nil_append, List.replicate_succ, List.replicate_zero, List.set_cons_zero, List.set_cons_succ, Nat.reduceAdd, Nat.reduceSub, Nat.reduceEqDiff, Int.cast_ofNat_Int, Int.reduceEq, Int.reduceLT, Int.reduceLE, Int.reduceAdd, Int.reduceSub, Int.reduceMul, Int.reduceNeg, decide_true, decide_false, Bool.false_and, Bool.true_and, Bool.and_true, Bool.and_false, Bool.or_true, Bool.or_false, Bool.true_or, Bool.false_or, if_true, ite_true, ite_false, Bool.false_eq_true, reduceIte, Bool.not_true, Bool.not_false, asI_i, asB_b, asL_l, asL_t, asLst_l, dIs_int_none, dIs_int_bool, dIs_int_int, dIs_int_str, dIs_int_list, dIs_int_tuple, dIs_int_dict, dIs_bool_none, dIs_bool_bool, dIs_bool_int, dIs_bool_str, dIs_bool_list, dIs_bool_tuple, dIs_bool_dict, dIs_str_none, dIs_str_bool, dIs_str_int, dIs_str_str, dIs_str_list, dIs_str_tuple, dIs_str_dict, dIs_tuple_none, dIs_tuple_bool, dIs_tuple_int, dIs_tuple_str, dIs_tuple_list, dIs_tuple_tuple, dIs_tuple_dict, dIs_list_none, dIs_list_bool, dIs_list_int, dIs_list_str, dIs_list_list, dIs_list_tuple, dIs_list_dict, ad_i, ad_l, ad_t, ad_s, sb_i, mu_i, fd_i, md_i, pw_10_6, pw_10_9, pw_10_12, pw_10_18, pw_10_59, pw_10_60, c_lt, c_le, c_gt, c_ge, c_eq_i, c_ne_i, c_eq_b, c_ne_b, c_isN, c_inN, c_isB, c_inB, c_in, c_ni, b_len_l, b_len_t, b_len_s, b_int_i, b_int_b, b_tup_l, b_tup_t, b_lst_l, b_lst_t, b_abs, b2_max, b2_min, ix_l, ix_t, sl_l, sl_t, rv_l, rv_t, getS_z, getS_s, ne_ok, seq_n, seq_r, evSs_n, evSs_c, outR_r, outR_n, bT_n, bT_t, bTs_n, bTs_c, asS, law_stair_of_F (N := N) (k := k) f (B + W) B W (Nat.le_refl _) hW]
/-- any first truths make a stair of their own -/
theorem stD_own (f : Sq) (B W : Nat) : ∃ f', stD f B W = stD f' B W ∧ Per f' B W := by
  refine ⟨seqOf (bitsF f (B + W)) B W, ?_, seqOf_per _ _ _⟩
  rw [← stairOf_st (bitsF_len f (B + W))]
  unfold stairOf stD onF
  have e1 : (bitsF f (B + W)).take B = (List.range B).map fun i => f (0 + i) := by
    have := bitsF_cut f (m := B + W) (lo := 0) (n := B) (by omega)
    rw [List.drop_zero] at this
    exact this
  rw [e1, bitsF_cut f (Nat.le_refl _)]
/-- what is drawn: a list of two stairs -/
def TwoD (d : D) : Prop := ∃ (f g : Sq) (B S C T : Nat), d = .list [stD f B S, stD g C T] ∧ Pair f g B S C T
theorem lcm_le {S T W : Nat} (hW : 1 ≤ W) (h1 : S ∣ W) (h2 : T ∣ W) : Nat.lcm S T ≤ W := Nat.le_of_dvd hW (Nat.lcm_dvd h1 h2)
theorem law_pair_ok {f g : Sq} {B S C T : Nat} (hf : Per f B S) (hg : Per g C T) (s1 : 1 ≤ S) (t1 : 1 ≤ T) (hB : B ≤ 3000) (hC : C ≤ 3000) (hS : S ≤ 840) (hT : T ≤ 840) (hN : 1000000 ≤ N) (c p : Int) (hp : 0 < p) :
    ∃ d, run Tb N (k + 3) 40 [stD f B S, stD g C T, .int c, .int p] = .ok d ∧ TwoD d := by
  obtain ⟨vs, d1, d2⟩ := law_draws_ok (N := N) (k := k) c [2, 60, 8, 840, 840] p (by decide) (by decide) hp
  have d1 : run Tb N (k + 2) 5 [.int c, .list [.int 2, .int 60, .int 8, .int 840, .int 840], .int p] = .ok (.list (vs.map .int)) := d1
  rw [run_eq (fn := f_law_pair) rfl rfl]
  unfold f_law_pair
  match vs, d2 with
  | [u, v, w, x, y], d2 =>
    obtain ⟨⟨u1, u2⟩, ⟨v1, v2⟩, ⟨w1, w2⟩, ⟨x1, x2⟩, ⟨y1, y2⟩, _⟩ := d2
    obtain ⟨v, rfl⟩ : ∃ v' : Nat, v = (v' : Int) := ⟨v.toNat, by omega⟩
    obtain ⟨x, rfl⟩ : ∃ v' : Nat, x = (v' : Int) := ⟨x.toNat, by omega⟩
    obtain ⟨y, rfl⟩ : ∃ v' : Nat, y = (v' : Int) := ⟨y.toNat, by omega⟩
    have fin : ∀ o5 o6 o7 : Option D, ∃ d, outR (evSs ⟨run Tb N (k + 2), N⟩ (.cons (.asg 0 5 (.bin .add (.int 1) (.ix (.var 4) (.int 1))) [])
        (.cons (.asg 0 6 (.bin .add (.int 1) (.bin .mod (.ix (.var 4) (.int 3)) (.b2 .min (.bin .fdiv (.int 840) (.var 5)) (.ix (.lst (.cons (.int 8) (.cons (.int 840) .nil))) (.b1 .int (.cmp .eq (.ix (.var 4) (.int 2)) (.int 7))))))) [])
        (.cons (.asg 0 7 (.bin .add (.int 1) (.bin .mod (.ix (.var 4) (.int 4)) (.bin .fdiv (.int 840) (.bin .mul (.var 5) (.var 6))))) [])
        (.cons (.ret 0 (.lst (.cons (.call 39 (.cons (.var 0) (.cons (.bin .mul (.var 6) (.var 5)) .nil))) (.cons (.call 39 (.cons (.var 1) (.cons (.bin .mul (.var 5) (.var 7)) .nil))) .nil))))
        .nil)))) [some (stD f B S), some (stD g C T), some (.int c), some (.int p), some (.list [.int u, .int (v : Int), .int w, .int (x : Int), .int (y : Int)]), o5, o6, o7]) = .ok d ∧ TwoD d := by
      intro o5 o6 o7
      have hm : ∃ m : Nat, m ≤ 840 / (1 + v) ∧ 1 ≤ m ∧ outR (evSs ⟨run Tb N (k + 2), N⟩ (.cons (.asg 0 5 (.bin .add (.int 1) (.ix (.var 4) (.int 1))) [])
        (.cons (.asg 0 6 (.bin .add (.int 1) (.bin .mod (.ix (.var 4) (.int 3)) (.b2 .min (.bin .fdiv (.int 840) (.var 5)) (.ix (.lst (.cons (.int 8) (.cons (.int 840) .nil))) (.b1 .int (.cmp .eq (.ix (.var 4) (.int 2)) (.int 7))))))) [])
        (.cons (.asg 0 7 (.bin .add (.int 1) (.bin .mod (.ix (.var 4) (.int 4)) (.bin .fdiv (.int 840) (.bin .mul (.var 5) (.var 6))))) [])
        (.cons (.ret 0 (.lst (.cons (.call 39 (.cons (.var 0) (.cons (.bin .mul (.var 6) (.var 5)) .nil))) (.cons (.call 39 (.cons (.var 1) (.cons (.bin .mul (.var 5) (.var 7)) .nil))) .nil))))
        .nil)))) [some (stD f B S), some (stD g C T), some (.int c), some (.int p), some (.list [.int u, .int (v : Int), .int w, .int (x : Int), .int (y : Int)]), o5, o6, o7]) =
          outR (evSs ⟨run Tb N (k + 2), N⟩ (.cons (.asg 0 7 (.bin .add (.int 1) (.bin .mod (.ix (.var 4) (.int 4)) (.bin .fdiv (.int 840) (.bin .mul (.var 5) (.var 6))))) [])
        (.cons (.ret 0 (.lst (.cons (.call 39 (.cons (.var 0) (.cons (.bin .mul (.var 6) (.var 5)) .nil))) (.cons (.call 39 (.cons (.var 1) (.cons (.bin .mul (.var 5) (.var 7)) .nil))) .nil))))
        .nil)) [some (stD f B S), some (stD g C T), some (.int c), some (.int p), some (.list [.int u, .int (v : Int), .int w, .int (x : Int), .int (y : Int)]), some (.int ((1 + v : Nat) : Int)), some (.int ((1 + x % m : Nat) : Int)), o7]) := by
        have hd : 14 ≤ 840 / (1 + v) := by
          rw [Nat.le_div_iff_mul_le (by omega)]
          omega
        have hlog : 0 < (1 : Int) + (v : Int) ∧ ((1 : Int) + (v : Int)).natAbs.log2 < 9000 := log_ok (by omega)
        have hq : (840 : Int) / (1 + (v : Int)) = ((840 / (1 + v) : Nat) : Int) := by rw [Int.natCast_ediv, Int.natCast_add]; rfl
        by_cases hw : w = 7
        · refine ⟨840 / (1 + v), Nat.le_refl _, by omega, ?_⟩
          have hle : 840 / (1 + v) ≤ 840 := Nat.div_le_self _ _
          try simp only [vE_var, vE_int, vE_bl, vE_non, vE_str, vE_cst, vE_bin, vE_cmp, vE_chain, vE_and, vE_or, vE_not, vE_neg, vE_ite, vE_isi, vE_tup, vE_lst, vE_lmul, vE_ix, vE_slice, vE_rev, vE_b1, vE_b2, vE_dm, vE_call, vE_call0, vE_comp, vEs_n, vEs_c, vO_n, vO_s, vC_n, vC_s, vI_1, vI_2, vI_3, vI_s, vI_z, vI_e, zR_l, zR_t, vS_asgT, vS_par, vS_app, vS_setIx, vS_aug, vS_ite, vS_whl, vS_for, vS_ret, vS_retN, vS_expr, vS_pass, aF_n, aF_r, uh_n, uh_c, ag_a, ag_s, cl_n, cl_c, List.getD_cons_zero, List.getD_cons_succ, R.ok_bind, R.exc_bind, R.bad_bind, R.pure_eq, List.length_cons, List.length_nil, List.map_cons, List.map_nil, List.cons_append, List.nil_append, List.replicate_succ, List.replicate_zero, List.set_cons_zero, List.set_cons_succ, Nat.reduceAdd, Nat.reduceSub, Nat.reduceEqDiff, Int.cast_ofNat_Int, Int.reduceEq, Int.reduceLT, Int.reduceLE, Int.reduceAdd, Int.reduceSub, Int.reduceMul, Int.reduceNeg, decide_true, decide_false, Bool.false_and, Bool.true_and, Bool.and_true, Bool.and_false, Bool.or_true, Bool.or_false, Bool.true_or, Bool.false_or, if_true, ite_true, ite_false, Bool.false_eq_true, reduceIte, Bool.not_true, Bool.not_false, asI_i, asB_b, asL_l, asL_t, asLst_l, dIs_int_none, dIs_int_bool, dIs_int_int, dIs_int_str, dIs_int_list, dIs_int_tuple, dIs_int_dict, dIs_bool_none, dIs_bool_bool, dIs_bool_int, dIs_bool_str, dIs_bool_list, dIs_bool_tuple, dIs_bool_dict, dIs_str_none, dIs_str_bool, dIs_str_int, dIs_str_str, dIs_str_list, dIs_str_tuple, dIs_str_dict, dIs_tuple_none, dIs_tuple_bool, dIs_tuple_int, dIs_tuple_str, dIs_tuple_list, dIs_tuple_tuple, dIs_tuple_dict, dIs_list_none, dIs_list_bool, dIs_list_int, dIs_list_str, dIs_list_list, dIs_list_tuple, dIs_list_dict, ad_i, ad_l, ad_t, ad_s, sb_i, mu_i, fd_i, md_i, pw_10_6, pw_10_9, pw_10_12, pw_10_18, pw_10_59, pw_10_60, c_lt, c_le, c_gt, c_ge, c_eq_i, c_ne_i, c_eq_b, c_ne_b, c_isN, c_inN, c_isB, c_inB, c_in, c_ni, b_len_l, b_len_t, b_len_s, b_int_i, b_int_b, b_tup_l, b_tup_t, b_lst_l, b_lst_t, b_abs, b2_max, b2_min, ix_l, ix_t, sl_l, sl_t, rv_l, rv_t, getS_z, getS_s, ne_ok, seq_n, seq_r, evSs_n, evSs_c, outR_r, outR_n, bT_n, bT_t, bTs_n, bTs_c, asS, at1, at3, at2, ofO_s, if_pos hlog]
          rw [sized_ok (lt_size (by simp))]
          simp only [hw, decide_true, if_true]
          try simp only [vE_var, vE_int, vE_bl, vE_non, vE_str, vE_cst, vE_bin, vE_cmp, vE_chain, vE_and, vE_or, vE_not, vE_neg, vE_ite, vE_isi, vE_tup, vE_lst, vE_lmul, vE_ix, vE_slice, vE_rev, vE_b1, vE_b2, vE_dm, vE_call, vE_call0, vE_comp, vEs_n, vEs_c, vO_n, vO_s, vC_n, vC_s, vI_1, vI_2, vI_3, vI_s, vI_z, vI_e, zR_l, zR_t, vS_asgT, vS_par, vS_app, vS_setIx, vS_aug, vS_ite, vS_whl, vS_for, vS_ret, vS_retN, vS_expr, vS_pass, aF_n, aF_r, uh_n, uh_c, ag_a, ag_s, cl_n, cl_c, List.getD_cons_zero, List.getD_cons_succ, R.ok_bind, R.exc_bind, R.bad_bind, R.pure_eq, List.length_cons, List.length_nil, List.map_cons, List.map_nil, List.cons_append, List.nil_append, List.replicate_succ, List.replicate_zero, List.set_cons_zero, List.set_cons_succ, Nat.reduceAdd, Nat.reduceSub, Nat.reduceEqDiff, Int.cast_ofNat_Int, Int.reduceEq, Int.reduceLT, Int.reduceLE, Int.reduceAdd, Int.reduceSub, Int.reduceMul, Int.reduceNeg, decide_true, decide_false, Bool.false_and, Bool.true_and, Bool.and_true, Bool.and_false, Bool.or_true, Bool.or_false, Bool.true_or, Bool.false_or, if_true, ite_true, ite_false, Bool.false_eq_true, reduceIte, Bool.not_true, Bool.not_false, asI_i, asB_b, asL_l, asL_t, asLst_l, dIs_int_none, dIs_int_bool, dIs_int_int, dIs_int_str, dIs_int_list, dIs_int_tuple, dIs_int_dict, dIs_bool_none, dIs_bool_bool, dIs_bool_int, dIs_bool_str, dIs_bool_list, dIs_bool_tuple, dIs_bool_dict, dIs_str_none, dIs_str_bool, dIs_str_int, dIs_str_str, dIs_str_list, dIs_str_tuple, dIs_str_dict, dIs_tuple_none, dIs_tuple_bool, dIs_tuple_int, dIs_tuple_str, dIs_tuple_list, dIs_tuple_tuple, dIs_tuple_dict, dIs_list_none, dIs_list_bool, dIs_list_int, dIs_list_str, dIs_list_list, dIs_list_tuple, dIs_list_dict, ad_i, ad_l, ad_t, ad_s, sb_i, mu_i, fd_i, md_i, pw_10_6, pw_10_9, pw_10_12, pw_10_18, pw_10_59, pw_10_60, c_lt, c_le, c_gt, c_ge, c_eq_i, c_ne_i, c_eq_b, c_ne_b, c_isN, c_inN, c_isB, c_inB, c_in, c_ni, b_len_l, b_len_t, b_len_s, b_int_i, b_int_b, b_tup_l, b_tup_t, b_lst_l, b_lst_t, b_abs, b2_max, b2_min, ix_l, ix_t, sl_l, sl_t, rv_l, rv_t, getS_z, getS_s, ne_ok, seq_n, seq_r, evSs_n, evSs_c, outR_r, outR_n, bT_n, bT_t, bTs_n, bTs_c, asS, at1, ofO_s, hq]
          rw [show (if (840 : Int) < ((840 / (1 + v) : Nat) : Int) then (840 : Int) else ((840 / (1 + v) : Nat) : Int)) = ((840 / (1 + v) : Nat) : Int) by rw [if_neg (by omega)], if_pos (by omega)]
          bv_omega
          rfl
        · refine ⟨8, by omega, by omega, ?_⟩
          try simp only [vE_var, vE_int, vE_bl, vE_non, vE_str, vE_cst, vE_bin, vE_cmp, vE_chain, vE_and, vE_or, vE_not, vE_neg, vE_ite, vE_isi, vE_tup, vE_lst, vE_lmul, vE_ix, vE_slice, vE_rev, vE_b1, vE_b2, vE_dm, vE_call, vE_call0, vE_comp, vEs_n, vEs_c, vO_n, vO_s, vC_n, vC_s, vI_1, vI_2, vI_3, vI_s, vI_z, vI_e, zR_l, zR_t, vS_asgT, vS_par, vS_app, vS_setIx, vS_aug, vS_ite, vS_whl, vS_for, vS_ret, vS_retN, vS_expr, vS_pass, aF_n, aF_r, uh_n, uh_c, ag_a, ag_s, cl_n, cl_c, List.getD_cons_zero, List.getD_cons_succ, R.ok_bind, R.exc_bind, R.bad_bind, R.pure_eq, List.length_cons, List.length_nil, List.map_cons, List.map_nil, List.cons_append, List.nil_append, List.replicate_succ, List.replicate_zero, List.set_cons_zero, List.set_cons_succ, Nat.reduceAdd, Nat.reduceSub, Nat.reduceEqDiff, Int.cast_ofNat_Int, Int.reduceEq, Int.reduceLT, Int.reduceLE, Int.reduceAdd, Int.reduceSub, Int.reduceMul, Int.reduceNeg, decide_true, decide_false, Bool.false_and, Bool.true_and, Bool.and_true, Bool.and_false, Bool.or_true, Bool.or_false, Bool.true_or, Bool.false_or, if_true, ite_true, ite_false, Bool.false_eq_true, reduceIte, Bool.not_true, Bool.not_false, asI_i, asB_b, asL_l, asL_t, asLst_l, dIs_int_none, dIs_int_bool, dIs_int_int, dIs_int_str, dIs_int_list, dIs_int_tuple, dIs_int_dict, dIs_bool_none, dIs_bool_bool, dIs_bool_int, dIs_bool_str, dIs_bool_list, dIs_bool_tuple, dIs_bool_dict, dIs_str_none, dIs_str_bool, dIs_str_int, dIs_str_str, dIs_str_list, dIs_str_tuple, dIs_str_dict, dIs_tuple_none, dIs_tuple_bool, dIs_tuple_int, dIs_tuple_str, dIs_tuple_list, dIs_tuple_tuple, dIs_tuple_dict, dIs_list_none, dIs_list_bool, dIs_list_int, dIs_list_str, dIs_list_list, dIs_list_tuple, dIs_list_dict, ad_i, ad_l, ad_t, ad_s, sb_i, mu_i, fd_i, md_i, pw_10_6, pw_10_9, pw_10_12, pw_10_18, pw_10_59, pw_10_60, c_lt, c_le, c_gt, c_ge, c_eq_i, c_ne_i, c_eq_b, c_ne_b, c_isN, c_inN, c_isB, c_inB, c_in, c_ni, b_len_l, b_len_t, b_len_s, b_int_i, b_int_b, b_tup_l, b_tup_t, b_lst_l, b_lst_t, b_abs, b2_max, b2_min, ix_l, ix_t, sl_l, sl_t, rv_l, rv_t, getS_z, getS_s, ne_ok, seq_n, seq_r, evSs_n, evSs_c, outR_r, outR_n, bT_n, bT_t, bTs_n, bTs_c, asS, at1, at3, at2, ofO_s, if_pos hlog]
          rw [sized_ok (lt_size (by simp))]
          simp only [hw, decide_false, if_false]
          try simp only [vE_var, vE_int, vE_bl, vE_non, vE_str, vE_cst, vE_bin, vE_cmp, vE_chain, vE_and, vE_or, vE_not, vE_neg, vE_ite, vE_isi, vE_tup, vE_lst, vE_lmul, vE_ix, vE_slice, vE_rev, vE_b1, vE_b2, vE_dm, vE_call, vE_call0, vE_comp, vEs_n, vEs_c, vO_n, vO_s, vC_n, vC_s, vI_1, vI_2, vI_3, vI_s, vI_z, vI_e, zR_l, zR_t, vS_asgT, vS_par, vS_app, vS_setIx, vS_aug, vS_ite, vS_whl, vS_for, vS_ret, vS_retN, vS_expr, vS_pass, aF_n, aF_r, uh_n, uh_c, ag_a, ag_s, cl_n, cl_c, List.getD_cons_zero, List.getD_cons_succ, R.ok_bind, R.exc_bind, R.bad_bind, R.pure_eq, List.length_cons, List.length_nil, List.map_cons, List.map_nil, List.cons_append, List.nil_append, List.replicate_succ, List.replicate_zero, List.set_cons_zero, List.set_cons_succ, Nat.reduceAdd, Nat.reduceSub, Nat.reduceEqDiff, Int.cast_ofNat_Int, Int.reduceEq, Int.reduceLT, Int.reduceLE, Int.reduceAdd, Int.reduceSub, Int.reduceMul, Int.reduceNeg, decide_true, decide_false, Bool.false_and, Bool.true_and, Bool.and_true, Bool.and_false, Bool.or_true, Bool.or_false, Bool.true_or, Bool.false_or, if_true, ite_true, ite_false, Bool.false_eq_true, reduceIte, Bool.not_true, Bool.not_false, asI_i, asB_b, asL_l, asL_t, asLst_l, dIs_int_none, dIs_int_bool, dIs_int_int, dIs_int_str, dIs_int_list, dIs_int_tuple, dIs_int_dict, dIs_bool_none, dIs_bool_bool, dIs_bool_int, dIs_bool_str, dIs_bool_list, dIs_bool_tuple, dIs_bool_dict, dIs_str_none, dIs_str_bool, dIs_str_int, dIs_str_str, dIs_str_list, dIs_str_tuple, dIs_str_dict, dIs_tuple_none, dIs_tuple_bool, dIs_tuple_int, dIs_tuple_str, dIs_tuple_list, dIs_tuple_tuple, dIs_tuple_dict, dIs_list_none, dIs_list_bool, dIs_list_int, dIs_list_str, dIs_list_list, dIs_list_tuple, dIs_list_dict, ad_i, ad_l, ad_t, ad_s, sb_i, mu_i, fd_i, md_i, pw_10_6, pw_10_9, pw_10_12, pw_10_18, pw_10_59, pw_10_60, c_lt, c_le, c_gt, c_ge, c_eq_i, c_ne_i, c_eq_b, c_ne_b, c_isN, c_inN, c_isB, c_inB, c_in, c_ni, b_len_l, b_len_t, b_len_s, b_int_i, b_int_b, b_tup_l, b_tup_t, b_lst_l, b_lst_t, b_abs, b2_max, b2_min, ix_l, ix_t, sl_l, sl_t, rv_l, rv_t, getS_z, getS_s, ne_ok, seq_n, seq_r, evSs_n, evSs_c, outR_r, outR_n, bT_n, bT_t, bTs_n, bTs_c, asS, at0, ofO_s, hq]
          rw [show (if (8 : Int) < ((840 / (1 + v) : Nat) : Int) then (8 : Int) else ((840 / (1 + v) : Nat) : Int)) = (8 : Int) by rw [if_pos (by omega)], if_pos (by omega)]
          bv_omega
          rfl
      obtain ⟨m, m1, m2, e⟩ := hm
      rw [e]
      clear e
      obtain ⟨d, hd⟩ : ∃ d, d = 1 + v := ⟨_, rfl⟩
      rw [← hd] at m1 ⊢
      have ha := Nat.mod_lt x (show m > 0 by omega)
      obtain ⟨a, haa⟩ : ∃ a, a = 1 + x % m := ⟨_, rfl⟩
      rw [← haa]
      have hda : a * d ≤ 840 := by
        have : a ≤ 840 / d := by omega
        exact (Nat.le_div_iff_mul_le (by omega)).mp this
      have hda1 : 1 ≤ a * d := Nat.mul_pos (by omega) (by omega)
      have hq1 : 1 ≤ 840 / (a * d) := (Nat.le_div_iff_mul_le (by omega)).mpr (by omega)
      have he := Nat.mod_lt y (show 840 / (a * d) > 0 by omega)
      obtain ⟨b, hb⟩ : ∃ b, b = 1 + y % (840 / (a * d)) := ⟨_, rfl⟩
      have hdab : b * (a * d) ≤ 840 := by
        have : b ≤ 840 / (a * d) := by omega
        exact (Nat.le_div_iff_mul_le (by omega)).mp this
      have hdb : d * b ≤ 840 := by
        refine Nat.le_trans ?_ hdab
        rw [show b * (a * d) = a * (d * b) by rw [Nat.mul_comm, Nat.mul_assoc]]
        exact Nat.le_mul_of_pos_left _ (by omega)
      have hdb1 : 1 ≤ d * b := Nat.mul_pos (by omega) (by omega)
      have hd60 : d ≤ 60 := by omega
      have ha840 : a ≤ 840 := Nat.le_trans (Nat.le_mul_of_pos_right a (show 0 < d by omega)) hda
      try simp only [vE_var, vE_int, vE_bl, vE_non, vE_str, vE_cst, vE_bin, vE_cmp, vE_chain, vE_and, vE_or, vE_not, vE_neg, vE_ite, vE_isi, vE_tup, vE_lst, vE_lmul, vE_ix, vE_slice, vE_rev, vE_b1, vE_b2, vE_dm, vE_call, vE_call0, vE_comp, vEs_n, vEs_c, vO_n, vO_s, vC_n, vC_s, vI_1, vI_2, vI_3, vI_s, vI_z, vI_e, zR_l, zR_t, vS_asgT, vS_par, vS_app, vS_setIx, vS_aug, vS_ite, vS_whl, vS_for, vS_ret, vS_retN, vS_expr, vS_pass, aF_n, aF_r, uh_n, uh_c, ag_a, ag_s, cl_n, cl_c, List.getD_cons_zero, List.getD_cons_succ, R.ok_bind, R.exc_bind, R.bad_bind, R.pure_eq, List.length_cons, List.length_nil, List.map_cons, List.map_nil, List.cons_append, List.nil_append, List.replicate_succ, List.replicate_zero, List.set_cons_zero, List.set_cons_succ, Nat.reduceAdd, Nat.reduceSub, Nat.reduceEqDiff, Int.cast_ofNat_Int, Int.reduceEq, Int.reduceLT, Int.reduceLE, Int.reduceAdd, Int.reduceSub, Int.reduceMul, Int.reduceNeg, decide_true, decide_false, Bool.false_and, Bool.true_and, Bool.and_true, Bool.and_false, Bool.or_true, Bool.or_false, Bool.true_or, Bool.false_or, if_true, ite_true, ite_false, Bool.false_eq_true, reduceIte, Bool.not_true, Bool.not_false, asI_i, asB_b, asL_l, asL_t, asLst_l, dIs_int_none, dIs_int_bool, dIs_int_int, dIs_int_str, dIs_int_list, dIs_int_tuple, dIs_int_dict, dIs_bool_none, dIs_bool_bool, dIs_bool_int, dIs_bool_str, dIs_bool_list, dIs_bool_tuple, dIs_bool_dict, dIs_str_none, dIs_str_bool, dIs_str_int, dIs_str_str, dIs_str_list, dIs_str_tuple, dIs_str_dict, dIs_tuple_none, dIs_tuple_bool, dIs_tuple_int, dIs_tuple_str, dIs_tuple_list, dIs_tuple_tuple, dIs_tuple_dict, dIs_list_none, dIs_list_bool, dIs_list_int, dIs_list_str, dIs_list_list, dIs_list_tuple, dIs_list_dict, ad_i, ad_l, ad_t, ad_s, sb_i, mu_i, fd_i, md_i, pw_10_6, pw_10_9, pw_10_12, pw_10_18, pw_10_59, pw_10_60, c_lt, c_le, c_gt, c_ge, c_eq_i, c_ne_i, c_eq_b, c_ne_b, c_isN, c_inN, c_isB, c_inB, c_in, c_ni, b_len_l, b_len_t, b_len_s, b_int_i, b_int_b, b_tup_l, b_tup_t, b_lst_l, b_lst_t, b_abs, b2_max, b2_min, ix_l, ix_t, sl_l, sl_t, rv_l, rv_t, getS_z, getS_s, ne_ok, seq_n, seq_r, evSs_n, evSs_c, outR_r, outR_n, bT_n, bT_t, bTs_n, bTs_c, asS, at4, ofO_s]
      rw [mulOk_l (by omega)]
      bv_omega
      rw [show (d : Int) * (a : Int) = ((a * d : Nat) : Int) by rw [Int.natCast_mul, Int.mul_comm], if_pos (log_ok (by omega))]
      bv_omega
      rw [show (840 : Int) / ((a * d : Nat) : Int) = ((840 / (a * d) : Nat) : Int) from rfl, if_pos (by omega)]
      bv_omega
      rw [show (1 : Int) + (y : Int) % ((840 / (a * d) : Nat) : Int) = (b : Int) by rw [hb, Int.natCast_add, Int.natCast_emod]; rfl]
      rw [mulOk_l (by omega), mulOk_l (by omega)]
      bv_omega
      rw [show (a : Int) * (d : Int) = ((a * d : Nat) : Int) from rfl, show (d : Int) * (b : Int) = ((d * b : Nat) : Int) from rfl]
      try simp only [vE_var, vE_int, vE_bl, vE_non, vE_str, vE_cst, vE_bin, vE_cmp, vE_chain, vE_and, vE_or, vE_not, vE_neg, vE_ite, vE_isi, vE_tup, vE_lst, vE_lmul, vE_ix, vE_slice, vE_rev, vE_b1, vE_b2, vE_dm, vE_call, vE_call0, vE_comp, vEs_n, vEs_c, vO_n, vO_s, vC_n, vC_s, vI_1, vI_2, vI_3, vI_s, vI_z, vI_e, zR_l, zR_t, vS_asgT, vS_par, vS_app, vS_setIx, vS_aug, vS_ite, vS_whl, vS_for, vS_ret, vS_retN, vS_expr, vS_pass, aF_n, aF_r, uh_n, uh_c, ag_a, ag_s, cl_n, cl_c, List.getD_cons_zero, List.getD_cons_succ, R.ok_bind, R.exc_bind, R.bad_bind, R.pure_eq, List.length_cons, List.length_nil, List.map_cons, List.map_nil, List.cons_append, List.nil_append, List.replicate_succ, List.replicate_zero, List.set_cons_zero, List.set_cons_succ, Nat.reduceAdd, Nat.reduceSub, Nat.reduceEqDiff, Int.cast_ofNat_Int, Int.reduceEq, Int.reduceLT, Int.reduceLE, Int.reduceAdd, Int.reduceSub, Int.reduceMul, Int.reduceNeg, decide_true, decide_false, Bool.false_and, Bool.true_and, Bool.and_true, Bool.and_false, Bool.or_true, Bool.or_false, Bool.true_or, Bool.false_or, if_true, ite_true, ite_false, Bool.false_eq_true, reduceIte, Bool.not_true, Bool.not_false, asI_i, asB_b, asL_l, asL_t, asLst_l, dIs_int_none, dIs_int_bool, dIs_int_int, dIs_int_str, dIs_int_list, dIs_int_tuple, dIs_int_dict, dIs_bool_none, dIs_bool_bool, dIs_bool_int, dIs_bool_str, dIs_bool_list, dIs_bool_tuple, dIs_bool_dict, dIs_str_none, dIs_str_bool, dIs_str_int, dIs_str_str, dIs_str_list, dIs_str_tuple, dIs_str_dict, dIs_tuple_none, dIs_tuple_bool, dIs_tuple_int, dIs_tuple_str, dIs_tuple_list, dIs_tuple_tuple, dIs_tuple_dict, dIs_list_none, dIs_list_bool, dIs_list_int, dIs_list_str, dIs_list_list, dIs_list_tuple, dIs_list_dict, ad_i, ad_l, ad_t, ad_s, sb_i, mu_i, fd_i, md_i, pw_10_6, pw_10_9, pw_10_12, pw_10_18, pw_10_59, pw_10_60, c_lt, c_le, c_gt, c_ge, c_eq_i, c_ne_i, c_eq_b, c_ne_b, c_isN, c_inN, c_isB, c_inB, c_in, c_ni, b_len_l, b_len_t, b_len_s, b_int_i, b_int_b, b_tup_l, b_tup_t, b_lst_l, b_lst_t, b_abs, b2_max, b2_min, ix_l, ix_t, sl_l, sl_t, rv_l, rv_t, getS_z, getS_s, ne_ok, seq_n, seq_r, evSs_n, evSs_c, outR_r, outR_n, bT_n, bT_t, bTs_n, bTs_c, asS, law_stepped_ok (N := N) (k := k) (W := a * d) hf s1 (by omega) (by omega), law_stepped_ok (N := N) (k := k) (W := d * b) hg t1 (by omega) (by omega)]
      rw [sized_ok (lt_size (by simp))]
      bv_omega
      obtain ⟨f', e1, p1⟩ := stD_own f B (a * d)
      obtain ⟨g', e2, p2⟩ := stD_own g C (d * b)
      refine ⟨_, rfl, f', g', B, a * d, C, d * b, by rw [e1, e2], p1, p2, hda1, hdb1, hB, hC, hda, hdb, ?_⟩
      exact Nat.le_trans (lcm_le (W := b * (a * d)) (Nat.mul_pos (by omega) (by omega)) (Nat.dvd_mul_left _ _) ⟨a, by rw [Nat.mul_comm b, Nat.mul_assoc, Nat.mul_comm]⟩) hdab
    bv_omega
    rw [sized_ok (lt_size (by simp))]
    try simp only [vE_var, vE_int, vE_bl, vE_non, vE_str, vE_cst, vE_bin, vE_cmp, vE_chain, vE_and, vE_or, vE_not, vE_neg, vE_ite, vE_isi, vE_tup, vE_lst, vE_lmul, vE_ix, vE_slice, vE_rev, vE_b1, vE_b2, vE_dm, vE_call, vE_call0, vE_comp, vEs_n, vEs_c, vO_n, vO_s, vC_n, vC_s, vI_1, vI_2, vI_3, vI_s, vI_z, vI_e, zR_l, zR_t, vS_asgT, vS_par, vS_app, vS_setIx, vS_aug, vS_ite, vS_whl, vS_for, vS_ret, vS_retN, vS_expr, vS_pass, aF_n, aF_r, uh_n, uh_c, ag_a, ag_s, cl_n, cl_c, List.getD_cons_zero, List.getD_cons_succ, R.ok_bind, R.exc_bind, R.bad_bind, R.pure_eq, List.length_cons, List.length_nil, List.map_cons, List.map_nil, List.cons_append, List.nil_append, List.replicate_succ, List.replicate_zero, List.set_cons_zero, List.set_cons_succ, Nat.reduceAdd, Nat.reduceSub, Nat.reduceEqDiff, Int.cast_ofNat_Int, Int.reduceEq, Int.reduceLT, Int.reduceLE, Int.reduceAdd, Int.reduceSub, Int.reduceMul, Int.reduceNeg, decide_true, decide_false, Bool.false_and, Bool.true_and, Bool.and_true, Bool.and_false, Bool.or_true, Bool.or_false, Bool.true_or, Bool.false_or, if_true, ite_true, ite_false, Bool.false_eq_true, reduceIte, Bool.not_true, Bool.not_false, asI_i, asB_b, asL_l, asL_t, asLst_l, dIs_int_none, dIs_int_bool, dIs_int_int, dIs_int_str, dIs_int_list, dIs_int_tuple, dIs_int_dict, dIs_bool_none, dIs_bool_bool, dIs_bool_int, dIs_bool_str, dIs_bool_list, dIs_bool_tuple, dIs_bool_dict, dIs_str_none, dIs_str_bool, dIs_str_int, dIs_str_str, dIs_str_list, dIs_str_tuple, dIs_str_dict, dIs_tuple_none, dIs_tuple_bool, dIs_tuple_int, dIs_tuple_str, dIs_tuple_list, dIs_tuple_tuple, dIs_tuple_dict, dIs_list_none, dIs_list_bool, dIs_list_int, dIs_list_str, dIs_list_list, dIs_list_tuple, dIs_list_dict, ad_i, ad_l, ad_t, ad_s, sb_i, mu_i, fd_i, md_i, pw_10_6, pw_10_9, pw_10_12, pw_10_18, pw_10_59, pw_10_60, c_lt, c_le, c_gt, c_ge, c_eq_i, c_ne_i, c_eq_b, c_ne_b, c_isN, c_inN, c_isB, c_inB, c_in, c_ni, b_len_l, b_len_t, b_len_s, b_int_i, b_int_b, b_tup_l, b_tup_t, b_lst_l, b_lst_t, b_abs, b2_max, b2_min, ix_l, ix_t, sl_l, sl_t, rv_l, rv_t, getS_z, getS_s, ne_ok, seq_n, seq_r, evSs_n, evSs_c, outR_r, outR_n, bT_n, bT_t, bTs_n, bTs_c, asS, d1, at0, ofO_s]
    by_cases hu : u = 0
    · simp only [hu, decide_true, if_true]
      try simp only [vE_var, vE_int, vE_bl, vE_non, vE_str, vE_cst, vE_bin, vE_cmp, vE_chain, vE_and, vE_or, vE_not, vE_neg, vE_ite, vE_isi, vE_tup, vE_lst, vE_lmul, vE_ix, vE_slice, vE_rev, vE_b1, vE_b2, vE_dm, vE_call, vE_call0, vE_comp, vEs_n, vEs_c, vO_n, vO_s, vC_n, vC_s, vI_1, vI_2, vI_3, vI_s, vI_z, vI_e, zR_l, zR_t, vS_asgT, vS_par, vS_app, vS_setIx, vS_aug, vS_ite, vS_whl, vS_for, vS_ret, vS_retN, vS_expr, vS_pass, aF_n, aF_r, uh_n, uh_c, ag_a, ag_s, cl_n, cl_c, List.getD_cons_zero, List.getD_cons_succ, R.ok_bind, R.exc_bind, R.bad_bind, R.pure_eq, List.length_cons, List.length_nil, List.map_cons, List.map_nil, List.cons_append, List.nil_append, List.replicate_succ, List.replicate_zero, List.set_cons_zero, List.set_cons_succ, Nat.reduceAdd, Nat.reduceSub, Nat.reduceEqDiff, Int.cast_ofNat_Int, Int.reduceEq, Int.reduceLT, Int.reduceLE, Int.reduceAdd, Int.reduceSub, Int.reduceMul, Int.reduceNeg, decide_true, decide_false, Bool.false_and, Bool.true_and, Bool.and_true, Bool.and_false, Bool.or_true, Bool.or_false, Bool.true_or, Bool.false_or, if_true, ite_true, ite_false, Bool.false_eq_true, reduceIte, Bool.not_true, Bool.not_false, asI_i, asB_b, asL_l, asL_t, asLst_l, dIs_int_none, dIs_int_bool, dIs_int_int, dIs_int_str, dIs_int_list, dIs_int_tuple, dIs_int_dict, dIs_bool_none, dIs_bool_bool, dIs_bool_int, dIs_bool_str, dIs_bool_list, dIs_bool_tuple, dIs_bool_dict, dIs_str_none, dIs_str_bool, dIs_str_int, dIs_str_str, dIs_str_list, dIs_str_tuple, dIs_str_dict, dIs_tuple_none, dIs_tuple_bool, dIs_tuple_int, dIs_tuple_str, dIs_tuple_list, dIs_tuple_tuple, dIs_tuple_dict, dIs_list_none, dIs_list_bool, dIs_list_int, dIs_list_str, dIs_list_list, dIs_list_tuple, dIs_list_dict, ad_i, ad_l, ad_t, ad_s, sb_i, mu_i, fd_i, md_i, pw_10_6, pw_10_9, pw_10_12, pw_10_18, pw_10_59, pw_10_60, c_lt, c_le, c_gt, c_ge, c_eq_i, c_ne_i, c_eq_b, c_ne_b, c_isN, c_inN, c_isB, c_inB, c_in, c_ni, b_len_l, b_len_t, b_len_s, b_int_i, b_int_b, b_tup_l, b_tup_t, b_lst_l, b_lst_t, b_abs, b2_max, b2_min, ix_l, ix_t, sl_l, sl_t, rv_l, rv_t, getS_z, getS_s, ne_ok, seq_n, seq_r, evSs_n, evSs_c, outR_r, outR_n, bT_n, bT_t, bTs_n, bTs_c, asS, stD_ix1]
      rw [mulOk_l (by omega)]
      try simp only [vE_var, vE_int, vE_bl, vE_non, vE_str, vE_cst, vE_bin, vE_cmp, vE_chain, vE_and, vE_or, vE_not, vE_neg, vE_ite, vE_isi, vE_tup, vE_lst, vE_lmul, vE_ix, vE_slice, vE_rev, vE_b1, vE_b2, vE_dm, vE_call, vE_call0, vE_comp, vEs_n, vEs_c, vO_n, vO_s, vC_n, vC_s, vI_1, vI_2, vI_3, vI_s, vI_z, vI_e, zR_l, zR_t, vS_asgT, vS_par, vS_app, vS_setIx, vS_aug, vS_ite, vS_whl, vS_for, vS_ret, vS_retN, vS_expr, vS_pass, aF_n, aF_r, uh_n, uh_c, ag_a, ag_s, cl_n, cl_c, List.getD_cons_zero, List.getD_cons_succ, R.ok_bind, R.exc_bind, R.bad_bind, R.pure_eq, List.length_cons, List.length_nil, List.map_cons, List.map_nil, List.cons_append, List.nil_append, List.replicate_succ, List.replicate_zero, List.set_cons_zero, List.set_cons_succ, Nat.reduceAdd, Nat.reduceSub, Nat.reduceEqDiff, Int.cast_ofNat_Int, Int.reduceEq, Int.reduceLT, Int.reduceLE, Int.reduceAdd, Int.reduceSub, Int.reduceMul, Int.reduceNeg, decide_true, decide_false, Bool.false_and, Bool.true_and, Bool.and_true, Bool.and_false, Bool.or_true, Bool.or_false, Bool.true_or, Bool.false_or, if_true, ite_true, ite_false, Bool.false_eq_true, reduceIte, Bool.not_true, Bool.not_false, asI_i, asB_b, asL_l, asL_t, asLst_l, dIs_int_none, dIs_int_bool, dIs_int_int, dIs_int_str, dIs_int_list, dIs_int_tuple, dIs_int_dict, dIs_bool_none, dIs_bool_bool, dIs_bool_int, dIs_bool_str, dIs_bool_list, dIs_bool_tuple, dIs_bool_dict, dIs_str_none, dIs_str_bool, dIs_str_int, dIs_str_str, dIs_str_list, dIs_str_tuple, dIs_str_dict, dIs_tuple_none, dIs_tuple_bool, dIs_tuple_int, dIs_tuple_str, dIs_tuple_list, dIs_tuple_tuple, dIs_tuple_dict, dIs_list_none, dIs_list_bool, dIs_list_int, dIs_list_str, dIs_list_list, dIs_list_tuple, dIs_list_dict, ad_i, ad_l, ad_t, ad_s, sb_i, mu_i, fd_i, md_i, pw_10_6, pw_10_9, pw_10_12, pw_10_18, pw_10_59, pw_10_60, c_lt, c_le, c_gt, c_ge, c_eq_i, c_ne_i, c_eq_b, c_ne_b, c_isN, c_inN, c_isB, c_inB, c_in, c_ni, b_len_l, b_len_t, b_len_s, b_int_i, b_int_b, b_tup_l, b_tup_t, b_lst_l, b_lst_t, b_abs, b2_max, b2_min, ix_l, ix_t, sl_l, sl_t, rv_l, rv_t, getS_z, getS_s, ne_ok, seq_n, seq_r, evSs_n, evSs_c, outR_r, outR_n, bT_n, bT_t, bTs_n, bTs_c, asS, law_shared_ok (N := N) (k := k + 1) S T (by omega)]
      rw [if_pos (gcd_log s1 hS), lcm_nat S T s1]
      bv_omega
      by_cases hl : Nat.lcm S T ≤ 840
      · rw [decide_eq_true (by omega)]
        bv_omega
        rw [sized_ok (lt_size (by simp))]
        bv_omega
        exact ⟨_, rfl, f, g, B, S, C, T, rfl, hf, hg, s1, t1, hB, hC, hS, hT, hl⟩
      · rw [decide_eq_false (by omega)]
        bv_omega
        subst hu
        exact fin none none none
    · simp only [hu, decide_false]
      bv_omega
      exact fin none none none
  | [], d2 => exact d2.elim
  | [_], d2 => exact d2.2.elim
  | [_, _], d2 => exact d2.2.2.elim
  | [_, _, _], d2 => exact d2.2.2.2.elim
  | [_, _, _, _], d2 => exact d2.2.2.2.2.elim
  | _ :: _ :: _ :: _ :: _ :: _ :: _, d2 => exact d2.2.2.2.2.2.elim
end Ev
set_option Elab.async false
set_option linter.all false
set_option maxRecDepth 100000
set_option maxHeartbeats 4000000
namespace Ev
open PySem
local macro_rules | `(tactic| bv_omega) => `(tactic| try simp only [vE_var, vE_int, vE_bl, vE_non, vE_str, vE_cst, vE_bin, vE_cmp, vE_chain, vE_and, vE_or, vE_not, vE_neg, vE_ite, vE_isi, vE_tup, vE_lst, vE_lmul, vE_ix, vE_slice, vE_rev, vE_b1, vE_b2, vE_dm, vE_call, vE_call0, vE_comp, vEs_n, vEs_c, vO_n, vO_s, vC_n, vC_s, vI_1, vI_2, vI_3, vI_s, vI_z, vI_e, zR_l, zR_t, vS_asgT, vS_par, vS_app, vS_setIx, vS_aug, vS_ite, vS_whl, vS_for, vS_ret, vS_retN, vS_expr, vS_pass, aF_n, aF_r, uh_n, uh_c, ag_a, ag_s, cl_n, cl_c, List.getD_cons_zero, List.getD_cons_succ, R.ok_bind, R.exc_bind, R.bad_bind, R.pure_eq, List.length_cons, List.length_nil, List.map_cons, List.map_nil, List.cons_append, List.nil_append, List.replicate_succ, List.replicate_zero, List.set_cons_zero, List.set_cons_succ, Nat.reduceAdd, Nat.reduceSub, Nat.reduceEqDiff, Int.cast_ofNat_Int, Int.reduceEq, Int.reduceLT, Int.reduceLE, Int.reduceAdd, Int.reduceSub, Int.reduceMul, Int.reduceNeg, decide_true, decide_false, Bool.false_and, Bool.true_and, Bool.and_true, Bool.and_false, Bool.or_true, Bool.or_false, Bool.true_or, Bool.false_or, if_true, ite_true, ite_false, Bool.false_eq_true, reduceIte, Bool.not_true, Bool.not_false, asI_i, asB_b, asL_l, asL_t, asLst_l, dIs_int_none, dIs_int_bool, dIs_int_int, dIs_int_str, dIs_int_list, dIs_int_tuple, dIs_int_dict, dIs_bool_none, dIs_bool_bool, dIs_bool_int, dIs_bool_str, dIs_bool_list, dIs_bool_tuple, dIs_bool_dict, dIs_str_none, dIs_str_bool, dIs_str_int, dIs_str_str, dIs_str_list, dIs_str_tuple, dIs_str_dict, dIs_tuple_none, dIs_tuple_bool, dIs_tuple_int, dIs_tuple_str, dIs_tuple_list, dIs_tuple_tuple, dIs_tuple_dict, dIs_list_none, dIs_list_bool, dIs_list_int, dIs_list_str, dIs_list_list, dIs_list_tuple, dIs_list_dict, ad_i, ad_l, ad_t, ad_s, sb_i, mu_i, fd_i, md_i, pw_10_6, pw_10_9, pw_10_12, pw_10_18, pw_10_59, pw_10_60, c_lt, c_le, c_gt, c_ge, c_eq_i, c_ne_i, c_eq_b, c_ne_b, c_isN, c_inN, c_isB, c_inB, c_in, c_ni, b_len_l, b_len_t, b_len_s, b_int_i, b_int_b, b_tup_l, b_tup_t, b_lst_l, b_lst_t, b_abs, b2_max, b2_min, ix_l, ix_t, sl_l, sl_t, rv_l, rv_t, getS_z, getS_s, ne_ok, seq_n, seq_r, evSs_n, evSs_c, outR_r, outR_n, bT_n, bT_t, bTs_n, bTs_c, asS])
variable {N k : Nat}
theorem min_nat (B C : Nat) : (if (C : Int) < (B : Int) then (C : Int) else (B : Int)) = ((min B C : Nat) : Int) := by
  split <;> omega
theorem bools_set (bs : List Bool) (x : Nat) (b : Bool) : (bs.map PyData.bool).set x (.bool b) = (bs.set x b).map .bool := by rw [List.map_set]
theorem law_two_drawn_ok (ns : List Int) (hN : 1000000 ≤ N) : ∃ d, run Tb N (k + 5) 41 [.list (ns.map .int)] = .ok d ∧ TwoD d := by
  have c0 : run Tb N (k + 4) 3 [.list (ns.map .int), .int 0] = .ok (.int (cellI ns 0)) := law_cell_ok (k := k + 3) ns 0 (by decide)
  have c1 : run Tb N (k + 4) 3 [.list (ns.map .int), .int 1] = .ok (.int (cellI ns 1)) := law_cell_ok (k := k + 3) ns 1 (by decide)
  have c2 : run Tb N (k + 4) 3 [.list (ns.map .int), .int 2] = .ok (.int (cellI ns 2)) := law_cell_ok (k := k + 3) ns 2 (by decide)
  have c3 : run Tb N (k + 4) 3 [.list (ns.map .int), .int 3] = .ok (.int (cellI ns 3)) := law_cell_ok (k := k + 3) ns 3 (by decide)
  obtain ⟨bs, B, S, e1, l1, h1, hS, hB⟩ := law_some_stair_ok (N := N) (k := k) (cellI ns 0) 999999937 (by decide)
  obtain ⟨bs2, C, T, e2, l2, t1, hT, hC⟩ := law_some_stair_ok (N := N) (k := k) (cellI ns 2) 999999893 (by decide)
  obtain ⟨vs, d1, d2⟩ := law_draws_ok (N := N) (k := k + 2) (cellI ns 1) [3, 2, 31, 1000000, 2, 840] 999999929 (by decide) (by decide) (by decide)
  have d1 : run Tb N (k + 4) 5 [.int (cellI ns 1), .list [.int 3, .int 2, .int 31, .int 1000000, .int 2, .int 840], .int 999999929] = .ok (.list (vs.map .int)) := d1
  rw [stairOf_st l1] at e1
  rw [stairOf_st l2] at e2
  have pf := seqOf_per bs B S
  have pg := seqOf_per bs2 C T
  obtain ⟨f, hf⟩ : ∃ f, f = seqOf bs B S := ⟨_, rfl⟩
  obtain ⟨g, hg⟩ : ∃ g, g = seqOf bs2 C T := ⟨_, rfl⟩
  rw [← hf] at e1 pf
  rw [← hg] at e2 pg
  obtain ⟨dp, e3, td⟩ := law_pair_ok (N := N) (k := k + 1) pf pg h1 t1 hB hC hS hT hN (cellI ns 3) 999999883 (by decide)
  rw [run_eq (fn := f_law_two_drawn) rfl rfl]
  unfold f_law_two_drawn
  match vs, d2 with
  | [u, v, w, x, y, z], d2 =>
    obtain ⟨⟨u1, u2⟩, ⟨v1, v2⟩, ⟨w1, w2⟩, ⟨x1, x2⟩, ⟨y1, y2⟩, ⟨z1, z2⟩, _⟩ := d2
    obtain ⟨w, rfl⟩ : ∃ v' : Nat, w = (v' : Int) := ⟨w.toNat, by omega⟩
    obtain ⟨x, rfl⟩ : ∃ v' : Nat, x = (v' : Int) := ⟨x.toNat, by omega⟩
    obtain ⟨z, rfl⟩ : ∃ v' : Nat, z = (v' : Int) := ⟨z.toNat, by omega⟩
    have fin : ∀ (f : Sq) (S : Nat), Per f B S → 1 ≤ S → S ≤ 840 → ∀ o3 : Option D, ∃ d, outR (evSs ⟨run Tb N (k + 4), N⟩ (.cons (.asgT (.cons (.name 4) (.cons (.name 5) .nil)) (.slice (.var 1) .none (.some (.int 2))) [])
        (.cons (.asg 0 6 (.b2 .min (.int 3000) (.bin .add (.var 4) (.ix (.var 2) (.int 2)))) [])
        (.cons (.asg 1 7 (.call 22 (.cons (.var 1) (.cons (.bin .add (.var 6) (.var 5)) .nil))) [])
        (.cons (.ite (.and (.cmp .eq (.ix (.var 2) (.int 1)) (.int 1)) (.cmp .gt (.var 6) (.int 0)))
          ((.cons (.asg 0 8 (.bin .mod (.ix (.var 2) (.int 3)) (.var 6)) [])
          (.cons (.setIx 7 (.var 8) (.not (.ix (.var 7) (.var 8))) [])
          .nil)))
          (.nil))
        (.cons (.ret 0 (.lst (.cons (.var 1) (.cons (.call 11 (.cons (.var 7) (.cons (.var 6) (.cons (.var 5) .nil)))) .nil))))
        .nil))))) [some (.list (ns.map .int)), some (stD f B S), some (.list [.int u, .int v, .int (w : Int), .int (x : Int), .int y, .int (z : Int)]), none, none, none, none, none, none]) = .ok d ∧ TwoD d := by
      intro f S pf h1 hS o3
      have est : stD f B S = .tuple [.int B, .int S, .tuple ((onF f 0 B).map .int), .tuple ((onF f B S).map .int)] := rfl
      have sl : dSlice (stD f B S) none (some 2) = .ok (.tuple [.int B, .int S]) := by rw [est, sl_t, cut2]
      try simp only [vE_var, vE_int, vE_bl, vE_non, vE_str, vE_cst, vE_bin, vE_cmp, vE_chain, vE_and, vE_or, vE_not, vE_neg, vE_ite, vE_isi, vE_tup, vE_lst, vE_lmul, vE_ix, vE_slice, vE_rev, vE_b1, vE_b2, vE_dm, vE_call, vE_call0, vE_comp, vEs_n, vEs_c, vO_n, vO_s, vC_n, vC_s, vI_1, vI_2, vI_3, vI_s, vI_z, vI_e, zR_l, zR_t, vS_asgT, vS_par, vS_app, vS_setIx, vS_aug, vS_ite, vS_whl, vS_for, vS_ret, vS_retN, vS_expr, vS_pass, aF_n, aF_r, uh_n, uh_c, ag_a, ag_s, cl_n, cl_c, List.getD_cons_zero, List.getD_cons_succ, R.ok_bind, R.exc_bind, R.bad_bind, R.pure_eq, List.length_cons, List.length_nil, List.map_cons, List.map_nil, List.cons_append, List.nil_append, List.replicate_succ, List.replicate_zero, List.set_cons_zero, List.set_cons_succ, Nat.reduceAdd, Nat.reduceSub, Nat.reduceEqDiff, Int.cast_ofNat_Int, Int.reduceEq, Int.reduceLT, Int.reduceLE, Int.reduceAdd, Int.reduceSub, Int.reduceMul, Int.reduceNeg, decide_true, decide_false, Bool.false_and, Bool.true_and, Bool.and_true, Bool.and_false, Bool.or_true, Bool.or_false, Bool.true_or, Bool.false_or, if_true, ite_true, ite_false, Bool.false_eq_true, reduceIte, Bool.not_true, Bool.not_false, asI_i, asB_b, asL_l, asL_t, asLst_l, dIs_int_none, dIs_int_bool, dIs_int_int, dIs_int_str, dIs_int_list, dIs_int_tuple, dIs_int_dict, dIs_bool_none, dIs_bool_bool, dIs_bool_int, dIs_bool_str, dIs_bool_list, dIs_bool_tuple, dIs_bool_dict, dIs_str_none, dIs_str_bool, dIs_str_int, dIs_str_str, dIs_str_list, dIs_str_tuple, dIs_str_dict, dIs_tuple_none, dIs_tuple_bool, dIs_tuple_int, dIs_tuple_str, dIs_tuple_list, dIs_tuple_tuple, dIs_tuple_dict, dIs_list_none, dIs_list_bool, dIs_list_int, dIs_list_str, dIs_list_list, dIs_list_tuple, dIs_list_dict, ad_i, ad_l, ad_t, ad_s, sb_i, mu_i, fd_i, md_i, pw_10_6, pw_10_9, pw_10_12, pw_10_18, pw_10_59, pw_10_60, c_lt, c_le, c_gt, c_ge, c_eq_i, c_ne_i, c_eq_b, c_ne_b, c_isN, c_inN, c_isB, c_inB, c_in, c_ni, b_len_l, b_len_t, b_len_s, b_int_i, b_int_b, b_tup_l, b_tup_t, b_lst_l, b_lst_t, b_abs, b2_max, b2_min, ix_l, ix_t, sl_l, sl_t, rv_l, rv_t, getS_z, getS_s, ne_ok, seq_n, seq_r, evSs_n, evSs_c, outR_r, outR_n, bT_n, bT_t, bTs_n, bTs_c, asS, sl, at2, ofO_s]
      rw [show (if (B : Int) + (w : Int) < 3000 then (B : Int) + (w : Int) else 3000) = ((min 3000 (B + w) : Nat) : Int) from min_nat 3000 (B + w)]
      obtain ⟨F, hF⟩ : ∃ F, F = min 3000 (B + w) := ⟨_, rfl⟩
      rw [← hF]
      rw [show (F : Int) + (S : Int) = ((F + S : Nat) : Int) from rfl, law_stair_bits_ok (k := k + 3) pf h1 (by omega) (by omega)]
      try simp only [vE_var, vE_int, vE_bl, vE_non, vE_str, vE_cst, vE_bin, vE_cmp, vE_chain, vE_and, vE_or, vE_not, vE_neg, vE_ite, vE_isi, vE_tup, vE_lst, vE_lmul, vE_ix, vE_slice, vE_rev, vE_b1, vE_b2, vE_dm, vE_call, vE_call0, vE_comp, vEs_n, vEs_c, vO_n, vO_s, vC_n, vC_s, vI_1, vI_2, vI_3, vI_s, vI_z, vI_e, zR_l, zR_t, vS_asgT, vS_par, vS_app, vS_setIx, vS_aug, vS_ite, vS_whl, vS_for, vS_ret, vS_retN, vS_expr, vS_pass, aF_n, aF_r, uh_n, uh_c, ag_a, ag_s, cl_n, cl_c, List.getD_cons_zero, List.getD_cons_succ, R.ok_bind, R.exc_bind, R.bad_bind, R.pure_eq, List.length_cons, List.length_nil, List.map_cons, List.map_nil, List.cons_append, List.nil_append, List.replicate_succ, List.replicate_zero, List.set_cons_zero, List.set_cons_succ, Nat.reduceAdd, Nat.reduceSub, Nat.reduceEqDiff, Int.cast_ofNat_Int, Int.reduceEq, Int.reduceLT, Int.reduceLE, Int.reduceAdd, Int.reduceSub, Int.reduceMul, Int.reduceNeg, decide_true, decide_false, Bool.false_and, Bool.true_and, Bool.and_true, Bool.and_false, Bool.or_true, Bool.or_false, Bool.true_or, Bool.false_or, if_true, ite_true, ite_false, Bool.false_eq_true, reduceIte, Bool.not_true, Bool.not_false, asI_i, asB_b, asL_l, asL_t, asLst_l, dIs_int_none, dIs_int_bool, dIs_int_int, dIs_int_str, dIs_int_list, dIs_int_tuple, dIs_int_dict, dIs_bool_none, dIs_bool_bool, dIs_bool_int, dIs_bool_str, dIs_bool_list, dIs_bool_tuple, dIs_bool_dict, dIs_str_none, dIs_str_bool, dIs_str_int, dIs_str_str, dIs_str_list, dIs_str_tuple, dIs_str_dict, dIs_tuple_none, dIs_tuple_bool, dIs_tuple_int, dIs_tuple_str, dIs_tuple_list, dIs_tuple_tuple, dIs_tuple_dict, dIs_list_none, dIs_list_bool, dIs_list_int, dIs_list_str, dIs_list_list, dIs_list_tuple, dIs_list_dict, ad_i, ad_l, ad_t, ad_s, sb_i, mu_i, fd_i, md_i, pw_10_6, pw_10_9, pw_10_12, pw_10_18, pw_10_59, pw_10_60, c_lt, c_le, c_gt, c_ge, c_eq_i, c_ne_i, c_eq_b, c_ne_b, c_isN, c_inN, c_isB, c_inB, c_in, c_ni, b_len_l, b_len_t, b_len_s, b_int_i, b_int_b, b_tup_l, b_tup_t, b_lst_l, b_lst_t, b_abs, b2_max, b2_min, ix_l, ix_t, sl_l, sl_t, rv_l, rv_t, getS_z, getS_s, ne_ok, seq_n, seq_r, evSs_n, evSs_c, outR_r, outR_n, bT_n, bT_t, bTs_n, bTs_c, asS, at1, ofO_s]
      have last : ∀ (bs : List Bool) (o8 : Option D), bs.length = F + S → ∃ d, outR (evSs ⟨run Tb N (k + 4), N⟩ (.cons (.ret 0 (.lst (.cons (.var 1) (.cons (.call 11 (.cons (.var 7) (.cons (.var 6) (.cons (.var 5) .nil)))) .nil)))) .nil)
          [some (.list (ns.map .int)), some (stD f B S), some (.list [.int u, .int v, .int (w : Int), .int (x : Int), .int y, .int (z : Int)]), none, some (.int (B : Int)), some (.int (S : Int)), some (.int (F : Int)), some (bitsD bs), o8]) = .ok d ∧ TwoD d := by
        intro bs o8 hl
        try simp only [vE_var, vE_int, vE_bl, vE_non, vE_str, vE_cst, vE_bin, vE_cmp, vE_chain, vE_and, vE_or, vE_not, vE_neg, vE_ite, vE_isi, vE_tup, vE_lst, vE_lmul, vE_ix, vE_slice, vE_rev, vE_b1, vE_b2, vE_dm, vE_call, vE_call0, vE_comp, vEs_n, vEs_c, vO_n, vO_s, vC_n, vC_s, vI_1, vI_2, vI_3, vI_s, vI_z, vI_e, zR_l, zR_t, vS_asgT, vS_par, vS_app, vS_setIx, vS_aug, vS_ite, vS_whl, vS_for, vS_ret, vS_retN, vS_expr, vS_pass, aF_n, aF_r, uh_n, uh_c, ag_a, ag_s, cl_n, cl_c, List.getD_cons_zero, List.getD_cons_succ, R.ok_bind, R.exc_bind, R.bad_bind, R.pure_eq, List.length_cons, List.length_nil, List.map_cons, List.map_nil, List.cons_append, List.nil_append, List.replicate_succ, List.replicate_zero, List.set_cons_zero, List.set_cons_succ, Nat.reduceAdd, Nat.reduceSub, Nat.reduceEqDiff, Int.cast_ofNat_Int, Int.reduceEq, Int.reduceLT, Int.reduceLE, Int.reduceAdd, Int.reduceSub, Int.reduceMul, Int.reduceNeg, decide_true, decide_false, Bool.false_and, Bool.true_and, Bool.and_true, Bool.and_false, Bool.or_true, Bool.or_false, Bool.true_or, Bool.false_or, if_true, ite_true, ite_false, Bool.false_eq_true, reduceIte, Bool.not_true, Bool.not_false, asI_i, asB_b, asL_l, asL_t, asLst_l, dIs_int_none, dIs_int_bool, dIs_int_int, dIs_int_str, dIs_int_list, dIs_int_tuple, dIs_int_dict, dIs_bool_none, dIs_bool_bool, dIs_bool_int, dIs_bool_str, dIs_bool_list, dIs_bool_tuple, dIs_bool_dict, dIs_str_none, dIs_str_bool, dIs_str_int, dIs_str_str, dIs_str_list, dIs_str_tuple, dIs_str_dict, dIs_tuple_none, dIs_tuple_bool, dIs_tuple_int, dIs_tuple_str, dIs_tuple_list, dIs_tuple_tuple, dIs_tuple_dict, dIs_list_none, dIs_list_bool, dIs_list_int, dIs_list_str, dIs_list_list, dIs_list_tuple, dIs_list_dict, ad_i, ad_l, ad_t, ad_s, sb_i, mu_i, fd_i, md_i, pw_10_6, pw_10_9, pw_10_12, pw_10_18, pw_10_59, pw_10_60, c_lt, c_le, c_gt, c_ge, c_eq_i, c_ne_i, c_eq_b, c_ne_b, c_isN, c_inN, c_isB, c_inB, c_in, c_ni, b_len_l, b_len_t, b_len_s, b_int_i, b_int_b, b_tup_l, b_tup_t, b_lst_l, b_lst_t, b_abs, b2_max, b2_min, ix_l, ix_t, sl_l, sl_t, rv_l, rv_t, getS_z, getS_s, ne_ok, seq_n, seq_r, evSs_n, evSs_c, outR_r, outR_n, bT_n, bT_t, bTs_n, bTs_c, asS, law_stair_of_ok (N := N) (k := k + 3) bs F S (by omega) (by omega)]
        rw [sized_ok (lt_size (by simp)), stairOf_st hl]
        bv_omega
        exact ⟨_, rfl, f, _, B, S, F, S, rfl, pf, seqOf_per _ _ _, h1, h1, hB, by omega, hS, hS, by rw [Nat.lcm_self]; exact hS⟩
      by_cases hv : v = 1
      · simp only [hv, decide_true, if_true]
        by_cases hF0 : (0 : Int) < (F : Int)
        · simp only [hF0, decide_true, if_true]
          try simp only [vE_var, vE_int, vE_bl, vE_non, vE_str, vE_cst, vE_bin, vE_cmp, vE_chain, vE_and, vE_or, vE_not, vE_neg, vE_ite, vE_isi, vE_tup, vE_lst, vE_lmul, vE_ix, vE_slice, vE_rev, vE_b1, vE_b2, vE_dm, vE_call, vE_call0, vE_comp, vEs_n, vEs_c, vO_n, vO_s, vC_n, vC_s, vI_1, vI_2, vI_3, vI_s, vI_z, vI_e, zR_l, zR_t, vS_asgT, vS_par, vS_app, vS_setIx, vS_aug, vS_ite, vS_whl, vS_for, vS_ret, vS_retN, vS_expr, vS_pass, aF_n, aF_r, uh_n, uh_c, ag_a, ag_s, cl_n, cl_c, List.getD_cons_zero, List.getD_cons_succ, R.ok_bind, R.exc_bind, R.bad_bind, R.pure_eq, List.length_cons, List.length_nil, List.map_cons, List.map_nil, List.cons_append, List.nil_append, List.replicate_succ, List.replicate_zero, List.set_cons_zero, List.set_cons_succ, Nat.reduceAdd, Nat.reduceSub, Nat.reduceEqDiff, Int.cast_ofNat_Int, Int.reduceEq, Int.reduceLT, Int.reduceLE, Int.reduceAdd, Int.reduceSub, Int.reduceMul, Int.reduceNeg, decide_true, decide_false, Bool.false_and, Bool.true_and, Bool.and_true, Bool.and_false, Bool.or_true, Bool.or_false, Bool.true_or, Bool.false_or, if_true, ite_true, ite_false, Bool.false_eq_true, reduceIte, Bool.not_true, Bool.not_false, asI_i, asB_b, asL_l, asL_t, asLst_l, dIs_int_none, dIs_int_bool, dIs_int_int, dIs_int_str, dIs_int_list, dIs_int_tuple, dIs_int_dict, dIs_bool_none, dIs_bool_bool, dIs_bool_int, dIs_bool_str, dIs_bool_list, dIs_bool_tuple, dIs_bool_dict, dIs_str_none, dIs_str_bool, dIs_str_int, dIs_str_str, dIs_str_list, dIs_str_tuple, dIs_str_dict, dIs_tuple_none, dIs_tuple_bool, dIs_tuple_int, dIs_tuple_str, dIs_tuple_list, dIs_tuple_tuple, dIs_tuple_dict, dIs_list_none, dIs_list_bool, dIs_list_int, dIs_list_str, dIs_list_list, dIs_list_tuple, dIs_list_dict, ad_i, ad_l, ad_t, ad_s, sb_i, mu_i, fd_i, md_i, pw_10_6, pw_10_9, pw_10_12, pw_10_18, pw_10_59, pw_10_60, c_lt, c_le, c_gt, c_ge, c_eq_i, c_ne_i, c_eq_b, c_ne_b, c_isN, c_inN, c_isB, c_inB, c_in, c_ni, b_len_l, b_len_t, b_len_s, b_int_i, b_int_b, b_tup_l, b_tup_t, b_lst_l, b_lst_t, b_abs, b2_max, b2_min, ix_l, ix_t, sl_l, sl_t, rv_l, rv_t, getS_z, getS_s, ne_ok, seq_n, seq_r, evSs_n, evSs_c, outR_r, outR_n, bT_n, bT_t, bTs_n, bTs_c, asS, at3, ofO_s]
          rw [if_pos hF0]
          bv_omega
          have hlt : x % F < F := Nat.mod_lt _ (by omega)
          unfold bitsD
          bv_omega
          rw [show (x : Int) % (F : Int) = ((x % F : Nat) : Int) from rfl, bitsF_at f (show x % F < F + S by omega)]
          try simp only [vE_var, vE_int, vE_bl, vE_non, vE_str, vE_cst, vE_bin, vE_cmp, vE_chain, vE_and, vE_or, vE_not, vE_neg, vE_ite, vE_isi, vE_tup, vE_lst, vE_lmul, vE_ix, vE_slice, vE_rev, vE_b1, vE_b2, vE_dm, vE_call, vE_call0, vE_comp, vEs_n, vEs_c, vO_n, vO_s, vC_n, vC_s, vI_1, vI_2, vI_3, vI_s, vI_z, vI_e, zR_l, zR_t, vS_asgT, vS_par, vS_app, vS_setIx, vS_aug, vS_ite, vS_whl, vS_for, vS_ret, vS_retN, vS_expr, vS_pass, aF_n, aF_r, uh_n, uh_c, ag_a, ag_s, cl_n, cl_c, List.getD_cons_zero, List.getD_cons_succ, R.ok_bind, R.exc_bind, R.bad_bind, R.pure_eq, List.length_cons, List.length_nil, List.map_cons, List.map_nil, List.cons_append, List.nil_append, List.replicate_succ, List.replicate_zero, List.set_cons_zero, List.set_cons_succ, Nat.reduceAdd, Nat.reduceSub, Nat.reduceEqDiff, Int.cast_ofNat_Int, Int.reduceEq, Int.reduceLT, Int.reduceLE, Int.reduceAdd, Int.reduceSub, Int.reduceMul, Int.reduceNeg, decide_true, decide_false, Bool.false_and, Bool.true_and, Bool.and_true, Bool.and_false, Bool.or_true, Bool.or_false, Bool.true_or, Bool.false_or, if_true, ite_true, ite_false, Bool.false_eq_true, reduceIte, Bool.not_true, Bool.not_false, asI_i, asB_b, asL_l, asL_t, asLst_l, dIs_int_none, dIs_int_bool, dIs_int_int, dIs_int_str, dIs_int_list, dIs_int_tuple, dIs_int_dict, dIs_bool_none, dIs_bool_bool, dIs_bool_int, dIs_bool_str, dIs_bool_list, dIs_bool_tuple, dIs_bool_dict, dIs_str_none, dIs_str_bool, dIs_str_int, dIs_str_str, dIs_str_list, dIs_str_tuple, dIs_str_dict, dIs_tuple_none, dIs_tuple_bool, dIs_tuple_int, dIs_tuple_str, dIs_tuple_list, dIs_tuple_tuple, dIs_tuple_dict, dIs_list_none, dIs_list_bool, dIs_list_int, dIs_list_str, dIs_list_list, dIs_list_tuple, dIs_list_dict, ad_i, ad_l, ad_t, ad_s, sb_i, mu_i, fd_i, md_i, pw_10_6, pw_10_9, pw_10_12, pw_10_18, pw_10_59, pw_10_60, c_lt, c_le, c_gt, c_ge, c_eq_i, c_ne_i, c_eq_b, c_ne_b, c_isN, c_inN, c_isB, c_inB, c_in, c_ni, b_len_l, b_len_t, b_len_s, b_int_i, b_int_b, b_tup_l, b_tup_t, b_lst_l, b_lst_t, b_abs, b2_max, b2_min, ix_l, ix_t, sl_l, sl_t, rv_l, rv_t, getS_z, getS_s, ne_ok, seq_n, seq_r, evSs_n, evSs_c, outR_r, outR_n, bT_n, bT_t, bTs_n, bTs_c, asS, ofO_s]
          rw [setAt_ok (by rw [bl_len, bitsF_len]; omega), bools_set]
          bv_omega
          subst hv
          have := last ((bitsF f (F + S)).set (x % F) (!f (x % F))) (some (.int ((x % F : Nat) : Int))) (by rw [List.length_set, bitsF_len])
          unfold bitsD at this
          simp only [evSs_c, evSs_n] at this
          exact this
        · simp only [hF0, decide_false]
          bv_omega
          subst hv
          have := last (bitsF f (F + S)) none (bitsF_len _ _)
          simp only [evSs_c, evSs_n] at this
          exact this
      · simp only [hv, decide_false]
        bv_omega
        have := last (bitsF f (F + S)) none (bitsF_len _ _)
        simp only [evSs_c, evSs_n] at this
        exact this
    try simp only [vE_var, vE_int, vE_bl, vE_non, vE_str, vE_cst, vE_bin, vE_cmp, vE_chain, vE_and, vE_or, vE_not, vE_neg, vE_ite, vE_isi, vE_tup, vE_lst, vE_lmul, vE_ix, vE_slice, vE_rev, vE_b1, vE_b2, vE_dm, vE_call, vE_call0, vE_comp, vEs_n, vEs_c, vO_n, vO_s, vC_n, vC_s, vI_1, vI_2, vI_3, vI_s, vI_z, vI_e, zR_l, zR_t, vS_asgT, vS_par, vS_app, vS_setIx, vS_aug, vS_ite, vS_whl, vS_for, vS_ret, vS_retN, vS_expr, vS_pass, aF_n, aF_r, uh_n, uh_c, ag_a, ag_s, cl_n, cl_c, List.getD_cons_zero, List.getD_cons_succ, R.ok_bind, R.exc_bind, R.bad_bind, R.pure_eq, List.length_cons, List.length_nil, List.map_cons, List.map_nil, List.cons_append, List.nil_append, List.replicate_succ, List.replicate_zero, List.set_cons_zero, List.set_cons_succ, Nat.reduceAdd, Nat.reduceSub, Nat.reduceEqDiff, Int.cast_ofNat_Int, Int.reduceEq, Int.reduceLT, Int.reduceLE, Int.reduceAdd, Int.reduceSub, Int.reduceMul, Int.reduceNeg, decide_true, decide_false, Bool.false_and, Bool.true_and, Bool.and_true, Bool.and_false, Bool.or_true, Bool.or_false, Bool.true_or, Bool.false_or, if_true, ite_true, ite_false, Bool.false_eq_true, reduceIte, Bool.not_true, Bool.not_false, asI_i, asB_b, asL_l, asL_t, asLst_l, dIs_int_none, dIs_int_bool, dIs_int_int, dIs_int_str, dIs_int_list, dIs_int_tuple, dIs_int_dict, dIs_bool_none, dIs_bool_bool, dIs_bool_int, dIs_bool_str, dIs_bool_list, dIs_bool_tuple, dIs_bool_dict, dIs_str_none, dIs_str_bool, dIs_str_int, dIs_str_str, dIs_str_list, dIs_str_tuple, dIs_str_dict, dIs_tuple_none, dIs_tuple_bool, dIs_tuple_int, dIs_tuple_str, dIs_tuple_list, dIs_tuple_tuple, dIs_tuple_dict, dIs_list_none, dIs_list_bool, dIs_list_int, dIs_list_str, dIs_list_list, dIs_list_tuple, dIs_list_dict, ad_i, ad_l, ad_t, ad_s, sb_i, mu_i, fd_i, md_i, pw_10_6, pw_10_9, pw_10_12, pw_10_18, pw_10_59, pw_10_60, c_lt, c_le, c_gt, c_ge, c_eq_i, c_ne_i, c_eq_b, c_ne_b, c_isN, c_inN, c_isB, c_inB, c_in, c_ni, b_len_l, b_len_t, b_len_s, b_int_i, b_int_b, b_tup_l, b_tup_t, b_lst_l, b_lst_t, b_abs, b2_max, b2_min, ix_l, ix_t, sl_l, sl_t, rv_l, rv_t, getS_z, getS_s, ne_ok, seq_n, seq_r, evSs_n, evSs_c, outR_r, outR_n, bT_n, bT_t, bTs_n, bTs_c, asS, c0, e1, c1]
    rw [sized_ok (lt_size (by simp))]
    try simp only [vE_var, vE_int, vE_bl, vE_non, vE_str, vE_cst, vE_bin, vE_cmp, vE_chain, vE_and, vE_or, vE_not, vE_neg, vE_ite, vE_isi, vE_tup, vE_lst, vE_lmul, vE_ix, vE_slice, vE_rev, vE_b1, vE_b2, vE_dm, vE_call, vE_call0, vE_comp, vEs_n, vEs_c, vO_n, vO_s, vC_n, vC_s, vI_1, vI_2, vI_3, vI_s, vI_z, vI_e, zR_l, zR_t, vS_asgT, vS_par, vS_app, vS_setIx, vS_aug, vS_ite, vS_whl, vS_for, vS_ret, vS_retN, vS_expr, vS_pass, aF_n, aF_r, uh_n, uh_c, ag_a, ag_s, cl_n, cl_c, List.getD_cons_zero, List.getD_cons_succ, R.ok_bind, R.exc_bind, R.bad_bind, R.pure_eq, List.length_cons, List.length_nil, List.map_cons, List.map_nil, List.cons_append, List.nil_append, List.replicate_succ, List.replicate_zero, List.set_cons_zero, List.set_cons_succ, Nat.reduceAdd, Nat.reduceSub, Nat.reduceEqDiff, Int.cast_ofNat_Int, Int.reduceEq, Int.reduceLT, Int.reduceLE, Int.reduceAdd, Int.reduceSub, Int.reduceMul, Int.reduceNeg, decide_true, decide_false, Bool.false_and, Bool.true_and, Bool.and_true, Bool.and_false, Bool.or_true, Bool.or_false, Bool.true_or, Bool.false_or, if_true, ite_true, ite_false, Bool.false_eq_true, reduceIte, Bool.not_true, Bool.not_false, asI_i, asB_b, asL_l, asL_t, asLst_l, dIs_int_none, dIs_int_bool, dIs_int_int, dIs_int_str, dIs_int_list, dIs_int_tuple, dIs_int_dict, dIs_bool_none, dIs_bool_bool, dIs_bool_int, dIs_bool_str, dIs_bool_list, dIs_bool_tuple, dIs_bool_dict, dIs_str_none, dIs_str_bool, dIs_str_int, dIs_str_str, dIs_str_list, dIs_str_tuple, dIs_str_dict, dIs_tuple_none, dIs_tuple_bool, dIs_tuple_int, dIs_tuple_str, dIs_tuple_list, dIs_tuple_tuple, dIs_tuple_dict, dIs_list_none, dIs_list_bool, dIs_list_int, dIs_list_str, dIs_list_list, dIs_list_tuple, dIs_list_dict, ad_i, ad_l, ad_t, ad_s, sb_i, mu_i, fd_i, md_i, pw_10_6, pw_10_9, pw_10_12, pw_10_18, pw_10_59, pw_10_60, c_lt, c_le, c_gt, c_ge, c_eq_i, c_ne_i, c_eq_b, c_ne_b, c_isN, c_inN, c_isB, c_inB, c_in, c_ni, b_len_l, b_len_t, b_len_s, b_int_i, b_int_b, b_tup_l, b_tup_t, b_lst_l, b_lst_t, b_abs, b2_max, b2_min, ix_l, ix_t, sl_l, sl_t, rv_l, rv_t, getS_z, getS_s, ne_ok, seq_n, seq_r, evSs_n, evSs_c, outR_r, outR_n, bT_n, bT_t, bTs_n, bTs_c, asS, d1, at0, ofO_s]
    by_cases hu : u = 0
    · simp only [hu, decide_true, if_true]
      try simp only [vE_var, vE_int, vE_bl, vE_non, vE_str, vE_cst, vE_bin, vE_cmp, vE_chain, vE_and, vE_or, vE_not, vE_neg, vE_ite, vE_isi, vE_tup, vE_lst, vE_lmul, vE_ix, vE_slice, vE_rev, vE_b1, vE_b2, vE_dm, vE_call, vE_call0, vE_comp, vEs_n, vEs_c, vO_n, vO_s, vC_n, vC_s, vI_1, vI_2, vI_3, vI_s, vI_z, vI_e, zR_l, zR_t, vS_asgT, vS_par, vS_app, vS_setIx, vS_aug, vS_ite, vS_whl, vS_for, vS_ret, vS_retN, vS_expr, vS_pass, aF_n, aF_r, uh_n, uh_c, ag_a, ag_s, cl_n, cl_c, List.getD_cons_zero, List.getD_cons_succ, R.ok_bind, R.exc_bind, R.bad_bind, R.pure_eq, List.length_cons, List.length_nil, List.map_cons, List.map_nil, List.cons_append, List.nil_append, List.replicate_succ, List.replicate_zero, List.set_cons_zero, List.set_cons_succ, Nat.reduceAdd, Nat.reduceSub, Nat.reduceEqDiff, Int.cast_ofNat_Int, Int.reduceEq, Int.reduceLT, Int.reduceLE, Int.reduceAdd, Int.reduceSub, Int.reduceMul, Int.reduceNeg, decide_true, decide_false, Bool.false_and, Bool.true_and, Bool.and_true, Bool.and_false, Bool.or_true, Bool.or_false, Bool.true_or, Bool.false_or, if_true, ite_true, ite_false, Bool.false_eq_true, reduceIte, Bool.not_true, Bool.not_false, asI_i, asB_b, asL_l, asL_t, asLst_l, dIs_int_none, dIs_int_bool, dIs_int_int, dIs_int_str, dIs_int_list, dIs_int_tuple, dIs_int_dict, dIs_bool_none, dIs_bool_bool, dIs_bool_int, dIs_bool_str, dIs_bool_list, dIs_bool_tuple, dIs_bool_dict, dIs_str_none, dIs_str_bool, dIs_str_int, dIs_str_str, dIs_str_list, dIs_str_tuple, dIs_str_dict, dIs_tuple_none, dIs_tuple_bool, dIs_tuple_int, dIs_tuple_str, dIs_tuple_list, dIs_tuple_tuple, dIs_tuple_dict, dIs_list_none, dIs_list_bool, dIs_list_int, dIs_list_str, dIs_list_list, dIs_list_tuple, dIs_list_dict, ad_i, ad_l, ad_t, ad_s, sb_i, mu_i, fd_i, md_i, pw_10_6, pw_10_9, pw_10_12, pw_10_18, pw_10_59, pw_10_60, c_lt, c_le, c_gt, c_ge, c_eq_i, c_ne_i, c_eq_b, c_ne_b, c_isN, c_inN, c_isB, c_inB, c_in, c_ni, b_len_l, b_len_t, b_len_s, b_int_i, b_int_b, b_tup_l, b_tup_t, b_lst_l, b_lst_t, b_abs, b2_max, b2_min, ix_l, ix_t, sl_l, sl_t, rv_l, rv_t, getS_z, getS_s, ne_ok, seq_n, seq_r, evSs_n, evSs_c, outR_r, outR_n, bT_n, bT_t, bTs_n, bTs_c, asS, c2, e2, c3, e3]
      exact ⟨_, rfl, td⟩
    · simp only [hu, decide_false]
      try simp only [vE_var, vE_int, vE_bl, vE_non, vE_str, vE_cst, vE_bin, vE_cmp, vE_chain, vE_and, vE_or, vE_not, vE_neg, vE_ite, vE_isi, vE_tup, vE_lst, vE_lmul, vE_ix, vE_slice, vE_rev, vE_b1, vE_b2, vE_dm, vE_call, vE_call0, vE_comp, vEs_n, vEs_c, vO_n, vO_s, vC_n, vC_s, vI_1, vI_2, vI_3, vI_s, vI_z, vI_e, zR_l, zR_t, vS_asgT, vS_par, vS_app, vS_setIx, vS_aug, vS_ite, vS_whl, vS_for, vS_ret, vS_retN, vS_expr, vS_pass, aF_n, aF_r, uh_n, uh_c, ag_a, ag_s, cl_n, cl_c, List.getD_cons_zero, List.getD_cons_succ, R.ok_bind, R.exc_bind, R.bad_bind, R.pure_eq, List.length_cons, List.length_nil, List.map_cons, List.map_nil, List.cons_append, List.nil_append, List.replicate_succ, List.replicate_zero, List.set_cons_zero, List.set_cons_succ, Nat.reduceAdd, Nat.reduceSub, Nat.reduceEqDiff, Int.cast_ofNat_Int, Int.reduceEq, Int.reduceLT, Int.reduceLE, Int.reduceAdd, Int.reduceSub, Int.reduceMul, Int.reduceNeg, decide_true, decide_false, Bool.false_and, Bool.true_and, Bool.and_true, Bool.and_false, Bool.or_true, Bool.or_false, Bool.true_or, Bool.false_or, if_true, ite_true, ite_false, Bool.false_eq_true, reduceIte, Bool.not_true, Bool.not_false, asI_i, asB_b, asL_l, asL_t, asLst_l, dIs_int_none, dIs_int_bool, dIs_int_int, dIs_int_str, dIs_int_list, dIs_int_tuple, dIs_int_dict, dIs_bool_none, dIs_bool_bool, dIs_bool_int, dIs_bool_str, dIs_bool_list, dIs_bool_tuple, dIs_bool_dict, dIs_str_none, dIs_str_bool, dIs_str_int, dIs_str_str, dIs_str_list, dIs_str_tuple, dIs_str_dict, dIs_tuple_none, dIs_tuple_bool, dIs_tuple_int, dIs_tuple_str, dIs_tuple_list, dIs_tuple_tuple, dIs_tuple_dict, dIs_list_none, dIs_list_bool, dIs_list_int, dIs_list_str, dIs_list_list, dIs_list_tuple, dIs_list_dict, ad_i, ad_l, ad_t, ad_s, sb_i, mu_i, fd_i, md_i, pw_10_6, pw_10_9, pw_10_12, pw_10_18, pw_10_59, pw_10_60, c_lt, c_le, c_gt, c_ge, c_eq_i, c_ne_i, c_eq_b, c_ne_b, c_isN, c_inN, c_isB, c_inB, c_in, c_ni, b_len_l, b_len_t, b_len_s, b_int_i, b_int_b, b_tup_l, b_tup_t, b_lst_l, b_lst_t, b_abs, b2_max, b2_min, ix_l, ix_t, sl_l, sl_t, rv_l, rv_t, getS_z, getS_s, ne_ok, seq_n, seq_r, evSs_n, evSs_c, outR_r, outR_n, bT_n, bT_t, bTs_n, bTs_c, asS, at4, ofO_s]
      by_cases hy : y = 1
      · simp only [hy, decide_true, if_true]
        try simp only [vE_var, vE_int, vE_bl, vE_non, vE_str, vE_cst, vE_bin, vE_cmp, vE_chain, vE_and, vE_or, vE_not, vE_neg, vE_ite, vE_isi, vE_tup, vE_lst, vE_lmul, vE_ix, vE_slice, vE_rev, vE_b1, vE_b2, vE_dm, vE_call, vE_call0, vE_comp, vEs_n, vEs_c, vO_n, vO_s, vC_n, vC_s, vI_1, vI_2, vI_3, vI_s, vI_z, vI_e, zR_l, zR_t, vS_asgT, vS_par, vS_app, vS_setIx, vS_aug, vS_ite, vS_whl, vS_for, vS_ret, vS_retN, vS_expr, vS_pass, aF_n, aF_r, uh_n, uh_c, ag_a, ag_s, cl_n, cl_c, List.getD_cons_zero, List.getD_cons_succ, R.ok_bind, R.exc_bind, R.bad_bind, R.pure_eq, List.length_cons, List.length_nil, List.map_cons, List.map_nil, List.cons_append, List.nil_append, List.replicate_succ, List.replicate_zero, List.set_cons_zero, List.set_cons_succ, Nat.reduceAdd, Nat.reduceSub, Nat.reduceEqDiff, Int.cast_ofNat_Int, Int.reduceEq, Int.reduceLT, Int.reduceLE, Int.reduceAdd, Int.reduceSub, Int.reduceMul, Int.reduceNeg, decide_true, decide_false, Bool.false_and, Bool.true_and, Bool.and_true, Bool.and_false, Bool.or_true, Bool.or_false, Bool.true_or, Bool.false_or, if_true, ite_true, ite_false, Bool.false_eq_true, reduceIte, Bool.not_true, Bool.not_false, asI_i, asB_b, asL_l, asL_t, asLst_l, dIs_int_none, dIs_int_bool, dIs_int_int, dIs_int_str, dIs_int_list, dIs_int_tuple, dIs_int_dict, dIs_bool_none, dIs_bool_bool, dIs_bool_int, dIs_bool_str, dIs_bool_list, dIs_bool_tuple, dIs_bool_dict, dIs_str_none, dIs_str_bool, dIs_str_int, dIs_str_str, dIs_str_list, dIs_str_tuple, dIs_str_dict, dIs_tuple_none, dIs_tuple_bool, dIs_tuple_int, dIs_tuple_str, dIs_tuple_list, dIs_tuple_tuple, dIs_tuple_dict, dIs_list_none, dIs_list_bool, dIs_list_int, dIs_list_str, dIs_list_list, dIs_list_tuple, dIs_list_dict, ad_i, ad_l, ad_t, ad_s, sb_i, mu_i, fd_i, md_i, pw_10_6, pw_10_9, pw_10_12, pw_10_18, pw_10_59, pw_10_60, c_lt, c_le, c_gt, c_ge, c_eq_i, c_ne_i, c_eq_b, c_ne_b, c_isN, c_inN, c_isB, c_inB, c_in, c_ni, b_len_l, b_len_t, b_len_s, b_int_i, b_int_b, b_tup_l, b_tup_t, b_lst_l, b_lst_t, b_abs, b2_max, b2_min, ix_l, ix_t, sl_l, sl_t, rv_l, rv_t, getS_z, getS_s, ne_ok, seq_n, seq_r, evSs_n, evSs_c, outR_r, outR_n, bT_n, bT_t, bTs_n, bTs_c, asS, at5, ofO_s]
        obtain ⟨f', q1, q2⟩ := stD_own f B (1 + z)
        have q3 := law_stepped_ok (N := N) (k := k + 2) (W := 1 + z) pf h1 (by omega) (by omega)
        rw [show (1 : Int) + (z : Int) = ((1 + z : Nat) : Int) from rfl, q3, q1]
        bv_omega
        subst hy
        have := fin f' (1 + z) q2 (by omega) (by omega) none
        simp only [vE_var, vE_int, vE_bl, vE_non, vE_str, vE_cst, vE_bin, vE_cmp, vE_chain, vE_and, vE_or, vE_not, vE_neg, vE_ite, vE_isi, vE_tup, vE_lst, vE_lmul, vE_ix, vE_slice, vE_rev, vE_b1, vE_b2, vE_dm, vE_call, vE_call0, vE_comp, vEs_n, vEs_c, vO_n, vO_s, vC_n, vC_s, vI_1, vI_2, vI_3, vI_s, vI_z, vI_e, zR_l, zR_t, vS_asgT, vS_par, vS_app, vS_setIx, vS_aug, vS_ite, vS_whl, vS_for, vS_ret, vS_retN, vS_expr, vS_pass, aF_n, aF_r, uh_n, uh_c, ag_a, ag_s, cl_n, cl_c, List.getD_cons_zero, List.getD_cons_succ, R.ok_bind, R.exc_bind, R.bad_bind, R.pure_eq, List.length_cons, List.length_nil, List.map_cons, List.map_nil, List.cons_append, List.nil_append, List.replicate_succ, List.replicate_zero, List.set_cons_zero, List.set_cons_succ, Nat.reduceAdd, Nat.reduceSub, Nat.reduceEqDiff, Int.cast_ofNat_Int, Int.reduceEq, Int.reduceLT, Int.reduceLE, Int.reduceAdd, Int.reduceSub, Int.reduceMul, Int.reduceNeg, decide_true, decide_false, Bool.false_and, Bool.true_and, Bool.and_true, Bool.and_false, Bool.or_true, Bool.or_false, Bool.true_or, Bool.false_or, if_true, ite_true, ite_false, Bool.false_eq_true, reduceIte, Bool.not_true, Bool.not_false, asI_i, asB_b, asL_l, asL_t, asLst_l, dIs_int_none, dIs_int_bool, dIs_int_int, dIs_int_str, dIs_int_list, dIs_int_tuple, dIs_int_dict, dIs_bool_none, dIs_bool_bool, dIs_bool_int, dIs_bool_str, dIs_bool_list, dIs_bool_tuple, dIs_bool_dict, dIs_str_none, dIs_str_bool, dIs_str_int, dIs_str_str, dIs_str_list, dIs_str_tuple, dIs_str_dict, dIs_tuple_none, dIs_tuple_bool, dIs_tuple_int, dIs_tuple_str, dIs_tuple_list, dIs_tuple_tuple, dIs_tuple_dict, dIs_list_none, dIs_list_bool, dIs_list_int, dIs_list_str, dIs_list_list, dIs_list_tuple, dIs_list_dict, ad_i, ad_l, ad_t, ad_s, sb_i, mu_i, fd_i, md_i, pw_10_6, pw_10_9, pw_10_12, pw_10_18, pw_10_59, pw_10_60, c_lt, c_le, c_gt, c_ge, c_eq_i, c_ne_i, c_eq_b, c_ne_b, c_isN, c_inN, c_isB, c_inB, c_in, c_ni, b_len_l, b_len_t, b_len_s, b_int_i, b_int_b, b_tup_l, b_tup_t, b_lst_l, b_lst_t, b_abs, b2_max, b2_min, ix_l, ix_t, sl_l, sl_t, rv_l, rv_t, getS_z, getS_s, ne_ok, seq_n, seq_r, evSs_n, evSs_c, outR_r, outR_n, bT_n, bT_t, bTs_n, bTs_c, asS] at this
        exact this
      · simp only [hy, decide_false]
        bv_omega
        have := fin f S pf h1 hS none
        simp only [vE_var, vE_int, vE_bl, vE_non, vE_str, vE_cst, vE_bin, vE_cmp, vE_chain, vE_and, vE_or, vE_not, vE_neg, vE_ite, vE_isi, vE_tup, vE_lst, vE_lmul, vE_ix, vE_slice, vE_rev, vE_b1, vE_b2, vE_dm, vE_call, vE_call0, vE_comp, vEs_n, vEs_c, vO_n, vO_s, vC_n, vC_s, vI_1, vI_2, vI_3, vI_s, vI_z, vI_e, zR_l, zR_t, vS_asgT, vS_par, vS_app, vS_setIx, vS_aug, vS_ite, vS_whl, vS_for, vS_ret, vS_retN, vS_expr, vS_pass, aF_n, aF_r, uh_n, uh_c, ag_a, ag_s, cl_n, cl_c, List.getD_cons_zero, List.getD_cons_succ, R.ok_bind, R.exc_bind, R.bad_bind, R.pure_eq, List.length_cons, List.length_nil, List.map_cons, List.map_nil, List.cons_append, List.nil_append, List.replicate_succ, List.replicate_zero, List.set_cons_zero, List.set_cons_succ, Nat.reduceAdd, Nat.reduceSub, Nat.reduceEqDiff, Int.cast_ofNat_Int, Int.reduceEq, Int.reduceLT, Int.reduceLE, Int.reduceAdd, Int.reduceSub, Int.reduceMul, Int.reduceNeg, decide_true, decide_false, Bool.false_and, Bool.true_and, Bool.and_true, Bool.and_false, Bool.or_true, Bool.or_false, Bool.true_or, Bool.false_or, if_true, ite_true, ite_false, Bool.false_eq_true, reduceIte, Bool.not_true, Bool.not_false, asI_i, asB_b, asL_l, asL_t, asLst_l, dIs_int_none, dIs_int_bool, dIs_int_int, dIs_int_str, dIs_int_list, dIs_int_tuple, dIs_int_dict, dIs_bool_none, dIs_bool_bool, dIs_bool_int, dIs_bool_str, dIs_bool_list, dIs_bool_tuple, dIs_bool_dict, dIs_str_none, dIs_str_bool, dIs_str_int, dIs_str_str, dIs_str_list, dIs_str_tuple, dIs_str_dict, dIs_tuple_none, dIs_tuple_bool, dIs_tuple_int, dIs_tuple_str, dIs_tuple_list, dIs_tuple_tuple, dIs_tuple_dict, dIs_list_none, dIs_list_bool, dIs_list_int, dIs_list_str, dIs_list_list, dIs_list_tuple, dIs_list_dict, ad_i, ad_l, ad_t, ad_s, sb_i, mu_i, fd_i, md_i, pw_10_6, pw_10_9, pw_10_12, pw_10_18, pw_10_59, pw_10_60, c_lt, c_le, c_gt, c_ge, c_eq_i, c_ne_i, c_eq_b, c_ne_b, c_isN, c_inN, c_isB, c_inB, c_in, c_ni, b_len_l, b_len_t, b_len_s, b_int_i, b_int_b, b_tup_l, b_tup_t, b_lst_l, b_lst_t, b_abs, b2_max, b2_min, ix_l, ix_t, sl_l, sl_t, rv_l, rv_t, getS_z, getS_s, ne_ok, seq_n, seq_r, evSs_n, evSs_c, outR_r, outR_n, bT_n, bT_t, bTs_n, bTs_c, asS] at this
        exact this
  | [], d2 => exact d2.elim
  | [_], d2 => exact d2.2.elim
  | [_, _], d2 => exact d2.2.2.elim
  | [_, _, _], d2 => exact d2.2.2.2.elim
  | [_, _, _, _], d2 => exact d2.2.2.2.2.elim
  | [_, _, _, _, _], d2 => exact d2.2.2.2.2.2.elim
  | _ :: _ :: _ :: _ :: _ :: _ :: _ :: _, d2 => exact d2.2.2.2.2.2.2.elim
/-! ### == of least forms -/
theorem eqvAll_ints : ∀ a b : List Int, PyData.eqvAll (a.map .int) (b.map .int) = decide (a = b)
  | [], [] => by simp [PyData.eqvAll]
  | [], _ :: _ => by simp [PyData.eqvAll]
  | _ :: _, [] => by simp [PyData.eqvAll]
  | x :: a, y :: b => by
    rw [List.map_cons, List.map_cons, PyData.eqvAll, eqvAll_ints a b, eqv_i]
    by_cases h : x = y
    · subst h
      by_cases g : a = b
      · subst g; simp
      · simp [g]
    · simp [h]
theorem sh_stD (f : Sq) (b p : Nat) : shN 3 (stD f b p) = true := by
  unfold stD
  have a1 := sh_intsT (onF f 0 b) 1
  have a2 := sh_intsT (onF f b p) 1
  show ([PyData.int b, .int p, .tuple ((onF f 0 b).map .int), .tuple ((onF f b p).map .int)].all (shN 2)) = true
  simp only [List.all_cons, List.all_nil, a1, a2, Bool.and_true]
  rfl
theorem eqv_stD (f g : Sq) (b p c q : Nat) : PyData.eqv (stD f b p) (stD g c q) = true ↔ stD f b p = stD g c q := by
  unfold stD
  rw [PyData.eqv, PyData.eqvAll, PyData.eqvAll, PyData.eqvAll, PyData.eqvAll, PyData.eqvAll, eqv_i, eqv_i, PyData.eqv, PyData.eqv, eqvAll_ints, eqvAll_ints]
  constructor
  · intro h
    simp only [Bool.and_eq_true, decide_eq_true_eq, and_true] at h
    obtain ⟨h1, h2, h3, h4⟩ := h
    rw [h1, h2, h3, h4]
  · intro h
    have inj : ∀ {a b : List Int}, a.map PyData.int = b.map PyData.int → a = b := fun {a} => by
      induction a with
      | nil => intro b h; cases b with | nil => rfl | cons _ _ => cases h
      | cons x a ih => intro b h; cases b with
        | nil => cases h
        | cons y b => rw [List.map_cons, List.map_cons] at h; injection h with h1 h2; injection h1 with h1; rw [h1, ih h2]
    injection h with h
    injection h with h1 h
    injection h with h2 h
    injection h with h3 h
    injection h with h4 h
    injection h1 with h1
    injection h2 with h2
    injection h3 with h3
    injection h4 with h4
    rw [inj h3, inj h4, h1, h2]
    simp
theorem stD_inj {f g : Sq} {b p c q : Nat} (hf : Per f b p) (hg : Per g c q) (h1 : 1 ≤ p) (h : stD f b p = stD g c q) : f = g := by
  have m1 : ∀ x : Int, x ∈ onF f 0 b ↔ PyData.int x ∈ (onF f 0 b).map PyData.int := fun x => by simp
  have inj : ∀ {a b : List Int}, a.map PyData.int = b.map PyData.int → ∀ x, x ∈ a ↔ x ∈ b := fun {a b} h x => by
    have e1 : x ∈ a ↔ PyData.int x ∈ a.map PyData.int := by simp
    have e2 : x ∈ b ↔ PyData.int x ∈ b.map PyData.int := by simp
    rw [e1, e2, h]
  unfold stD at h
  injection h with h
  injection h with h1' h
  injection h with h2' h
  injection h with h3 h
  injection h with h4 h
  injection h1' with h1'
  injection h2' with h2'
  injection h3 with h3
  injection h4 with h4
  have e1 : b = c := by omega
  have e2 : p = q := by omega
  subst e1
  subst e2
  have k3 := inj h3
  have k4 := inj h4
  refine sq_agree hf hg h1 fun x hx => ?_
  rw [Bool.eq_iff_iff]
  by_cases hb : x < b
  · have a1 := mem_onF f 0 b (x : Int)
    have a2 := mem_onF g 0 b (x : Int)
    have a3 := k3 (x : Int)
    constructor
    · intro hf'
      obtain ⟨i, i1, i2, i3⟩ := a2.mp (a3.mp (a1.mpr ⟨x, hb, by rw [Nat.zero_add]; exact hf', by omega⟩))
      have : i = x := by omega
      subst this
      rw [Nat.zero_add] at i2
      exact i2
    · intro hf'
      obtain ⟨i, i1, i2, i3⟩ := a1.mp (a3.mpr (a2.mpr ⟨x, hb, by rw [Nat.zero_add]; exact hf', by omega⟩))
      have : i = x := by omega
      subst this
      rw [Nat.zero_add] at i2
      exact i2
  · have a1 := mem_onF f b p (x : Int)
    have a2 := mem_onF g b p (x : Int)
    have a3 := k4 (x : Int)
    constructor
    · intro hf'
      obtain ⟨i, i1, i2, i3⟩ := a2.mp (a3.mp (a1.mpr ⟨x - b, by omega, by rw [show b + (x - b) = x by omega]; exact hf', by omega⟩))
      have : b + i = x := by omega
      rw [this] at i2
      exact i2
    · intro hf'
      obtain ⟨i, i1, i2, i3⟩ := a1.mp (a3.mpr (a2.mpr ⟨x - b, by omega, by rw [show b + (x - b) = x by omega]; exact hf', by omega⟩))
      have : b + i = x := by omega
      rw [this] at i2
      exact i2
theorem eq_canon {f g : Sq} {b p c q : Nat} (hf : Canon f b p) (hg : Canon g c q) : ∃ t : Bool, dCmp .eq (stD f b p) (stD g c q) = .ok (.bool t) ∧ dCmp .ne (stD f b p) (stD g c q) = .ok (.bool (!t)) ∧ (t = true ↔ f = g) := by
  refine ⟨PyData.eqv (stD f b p) (stD g c q), ?_, ?_, ?_⟩
  · rw [c_eq, shaped_of (sh_stD f b p) (by decide), shaped_of (sh_stD g c q) (by decide)]
    rfl
  · rw [c_ne, shaped_of (sh_stD f b p) (by decide), shaped_of (sh_stD g c q) (by decide)]
    rfl
  · rw [eqv_stD]
    constructor
    · exact stD_inj hf.per hg.per hf.one
    · intro e
      subst e
      obtain ⟨rfl, rfl⟩ := hf.uniq hg
      rfl
theorem law_is_ok (x : Int) : run Tb N (k + 2) 20 [.int x, .int x] = .ok (.bool true) := by
  rw [run_eq (fn := f_law_is) rfl rfl]
  unfold f_law_is
  try simp only [vE_var, vE_int, vE_bl, vE_non, vE_str, vE_cst, vE_bin, vE_cmp, vE_chain, vE_and, vE_or, vE_not, vE_neg, vE_ite, vE_isi, vE_tup, vE_lst, vE_lmul, vE_ix, vE_slice, vE_rev, vE_b1, vE_b2, vE_dm, vE_call, vE_call0, vE_comp, vEs_n, vEs_c, vO_n, vO_s, vC_n, vC_s, vI_1, vI_2, vI_3, vI_s, vI_z, vI_e, zR_l, zR_t, vS_asgT, vS_par, vS_app, vS_setIx, vS_aug, vS_ite, vS_whl, vS_for, vS_ret, vS_retN, vS_expr, vS_pass, aF_n, aF_r, uh_n, uh_c, ag_a, ag_s, cl_n, cl_c, List.getD_cons_zero, List.getD_cons_succ, R.ok_bind, R.exc_bind, R.bad_bind, R.pure_eq, List.length_cons, List.length_nil, List.map_cons, List.map_nil, List.cons_append, List.nil_append, List.replicate_succ, List.replicate_zero, List.set_cons_zero, List.set_cons_succ, Nat.reduceAdd, Nat.reduceSub, Nat.reduceEqDiff, Int.cast_ofNat_Int, Int.reduceEq, Int.reduceLT, Int.reduceLE, Int.reduceAdd, Int.reduceSub, Int.reduceMul, Int.reduceNeg, decide_true, decide_false, Bool.false_and, Bool.true_and, Bool.and_true, Bool.and_false, Bool.or_true, Bool.or_false, Bool.true_or, Bool.false_or, if_true, ite_true, ite_false, Bool.false_eq_true, reduceIte, Bool.not_true, Bool.not_false, asI_i, asB_b, asL_l, asL_t, asLst_l, dIs_int_none, dIs_int_bool, dIs_int_int, dIs_int_str, dIs_int_list, dIs_int_tuple, dIs_int_dict, dIs_bool_none, dIs_bool_bool, dIs_bool_int, dIs_bool_str, dIs_bool_list, dIs_bool_tuple, dIs_bool_dict, dIs_str_none, dIs_str_bool, dIs_str_int, dIs_str_str, dIs_str_list, dIs_str_tuple, dIs_str_dict, dIs_tuple_none, dIs_tuple_bool, dIs_tuple_int, dIs_tuple_str, dIs_tuple_list, dIs_tuple_tuple, dIs_tuple_dict, dIs_list_none, dIs_list_bool, dIs_list_int, dIs_list_str, dIs_list_list, dIs_list_tuple, dIs_list_dict, ad_i, ad_l, ad_t, ad_s, sb_i, mu_i, fd_i, md_i, pw_10_6, pw_10_9, pw_10_12, pw_10_18, pw_10_59, pw_10_60, c_lt, c_le, c_gt, c_ge, c_eq_i, c_ne_i, c_eq_b, c_ne_b, c_isN, c_inN, c_isB, c_inB, c_in, c_ni, b_len_l, b_len_t, b_len_s, b_int_i, b_int_b, b_tup_l, b_tup_t, b_lst_l, b_lst_t, b_abs, b2_max, b2_min, ix_l, ix_t, sl_l, sl_t, rv_l, rv_t, getS_z, getS_s, ne_ok, seq_n, seq_r, evSs_n, evSs_c, outR_r, outR_n, bT_n, bT_t, bTs_n, bTs_c, asS, whole_ok, isNum]
theorem k05_run (hN : 1000000 ≤ N) (ns : List Int) : run Tb N 10 42 [.list (ns.map .int)] = .ok (.bool true) := by
  obtain ⟨d, e1, f, g, B, S, C, T, rfl, hp⟩ := law_two_drawn_ok (N := N) (k := 4) ns hN
  have e1 : run Tb N 9 41 [.list (ns.map .int)] = _ := e1
  rw [run_eq (k := 9) (fn := f_law_v3) rfl rfl]
  unfold f_law_v3
  obtain ⟨qf, qg⟩ := hp.per rfl
  have w1 := hp.w1
  have hM : max B C ≤ 3000 := by have := hp.hB; have := hp.hC; omega
  obtain ⟨pd1, p1, pp1⟩ := parting_ok (N := N) (k := 3) hp hN
  obtain ⟨pd2, p2, pp2⟩ := parting_ok (N := N) (k := 3) hp.symm hN
  have hself : Pair f f B S B S := ⟨hp.pf, hp.pf, hp.s1, hp.s1, hp.hB, hp.hB, hp.hS, hp.hS, by rw [Nat.lcm_self]; exact hp.hS⟩
  have hself2 : Pair g g C T C T := ⟨hp.pg, hp.pg, hp.t1, hp.t1, hp.hC, hp.hC, hp.hT, hp.hT, by rw [Nat.lcm_self]; exact hp.hT⟩
  obtain ⟨pd3, p3, pp3⟩ := parting_ok (N := N) (k := 3) hself hN
  obtain ⟨pd4, p4, pp4⟩ := parting_ok (N := N) (k := 3) hself2 hN
  have pn3 : pd3 = .none := pp3.uniq (.inl ⟨rfl, rfl⟩)
  have pn4 : pd4 = .none := pp4.uniq (.inl ⟨rfl, rfl⟩)
  have pe := pp1.symm.uniq pp2
  subst pn3 pn4 pe
  obtain ⟨b, p, q1, c1, hb1, hp1⟩ := least_ok (N := N) (k := 4) hp.pf hp.s1 hp.hB hp.hS hN
  obtain ⟨c, q, q2, c2, hb2, hp2⟩ := least_ok (N := N) (k := 4) hp.pg hp.t1 hp.hC hp.hT hN
  obtain ⟨t, t1, _, t2⟩ := eq_canon c1 c2
  obtain ⟨M, eM⟩ : ∃ M, M = max B C := ⟨_, rfl⟩
  rw [← eM] at hM qf qg
  have sb := hp.s1
  have tb := hp.t1
  have hS := hp.hS
  have hT := hp.hT
  have hBb := hp.hB
  have hCb := hp.hC
  have hW := hp.hW
  try simp only [vE_var, vE_int, vE_bl, vE_non, vE_str, vE_cst, vE_bin, vE_cmp, vE_chain, vE_and, vE_or, vE_not, vE_neg, vE_ite, vE_isi, vE_tup, vE_lst, vE_lmul, vE_ix, vE_slice, vE_rev, vE_b1, vE_b2, vE_dm, vE_call, vE_call0, vE_comp, vEs_n, vEs_c, vO_n, vO_s, vC_n, vC_s, vI_1, vI_2, vI_3, vI_s, vI_z, vI_e, zR_l, zR_t, vS_asgT, vS_par, vS_app, vS_setIx, vS_aug, vS_ite, vS_whl, vS_for, vS_ret, vS_retN, vS_expr, vS_pass, aF_n, aF_r, uh_n, uh_c, ag_a, ag_s, cl_n, cl_c, List.getD_cons_zero, List.getD_cons_succ, R.ok_bind, R.exc_bind, R.bad_bind, R.pure_eq, List.length_cons, List.length_nil, List.map_cons, List.map_nil, List.cons_append, List.nil_append, List.replicate_succ, List.replicate_zero, List.set_cons_zero, List.set_cons_succ, Nat.reduceAdd, Nat.reduceSub, Nat.reduceEqDiff, Int.cast_ofNat_Int, Int.reduceEq, Int.reduceLT, Int.reduceLE, Int.reduceAdd, Int.reduceSub, Int.reduceMul, Int.reduceNeg, decide_true, decide_false, Bool.false_and, Bool.true_and, Bool.and_true, Bool.and_false, Bool.or_true, Bool.or_false, Bool.true_or, Bool.false_or, if_true, ite_true, ite_false, Bool.false_eq_true, reduceIte, Bool.not_true, Bool.not_false, asI_i, asB_b, asL_l, asL_t, asLst_l, dIs_int_none, dIs_int_bool, dIs_int_int, dIs_int_str, dIs_int_list, dIs_int_tuple, dIs_int_dict, dIs_bool_none, dIs_bool_bool, dIs_bool_int, dIs_bool_str, dIs_bool_list, dIs_bool_tuple, dIs_bool_dict, dIs_str_none, dIs_str_bool, dIs_str_int, dIs_str_str, dIs_str_list, dIs_str_tuple, dIs_str_dict, dIs_tuple_none, dIs_tuple_bool, dIs_tuple_int, dIs_tuple_str, dIs_tuple_list, dIs_tuple_tuple, dIs_tuple_dict, dIs_list_none, dIs_list_bool, dIs_list_int, dIs_list_str, dIs_list_list, dIs_list_tuple, dIs_list_dict, ad_i, ad_l, ad_t, ad_s, sb_i, mu_i, fd_i, md_i, pw_10_6, pw_10_9, pw_10_12, pw_10_18, pw_10_59, pw_10_60, c_lt, c_le, c_gt, c_ge, c_eq_i, c_ne_i, c_eq_b, c_ne_b, c_isN, c_inN, c_isB, c_inB, c_in, c_ni, b_len_l, b_len_t, b_len_s, b_int_i, b_int_b, b_tup_l, b_tup_t, b_lst_l, b_lst_t, b_abs, b2_max, b2_min, ix_l, ix_t, sl_l, sl_t, rv_l, rv_t, getS_z, getS_s, ne_ok, seq_n, seq_r, evSs_n, evSs_c, outR_r, outR_n, bT_n, bT_t, bTs_n, bTs_c, asS, e1, stD_ix0, max_nat]
  rw [← eM, show (M : Int) + 840 = ((M + 840 : Nat) : Int) from rfl, law_stair_bits_ok (k := 8) hp.pf sb (by omega) (by omega)]
  bv_omega
  rw [law_stair_bits_ok (k := 8) hp.pg tb (by omega) (by omega)]
  bv_omega
  rw [small62_of (by omega)]
  bv_omega
  obtain ⟨e', l1, o7, due, l2, l3⟩ := forL_rng (f := stepF ⟨run Tb N 9, N⟩ (.name 7) f_law_v3_b1) (lo := 0) (c := 1) (n := (((M + 840 : Nat) : Int)).toNat) (e := [some (.list (ns.map .int)), some (stD f B S), some (stD g C T), some (.int ((M + 840 : Nat) : Int)), some (bitsD (bitsF f (M + 840))), some (bitsD (bitsF g (M + 840))), some .none, none, none, none])
    (Inv := fun i e => ∃ (o7 : Option D) (due : D), e = [some (.list (ns.map .int)), some (stD f B S), some (stD g C T), some (.int ((M + 840 : Nat) : Int)), some (bitsD (bitsF f (M + 840))), some (bitsD (bitsF g (M + 840))), some due, o7, none, none] ∧
      ((due = .none ∧ ∀ y, y < i → f y = g y) ∨ ∃ x : Nat, due = .int (x : Int) ∧ f x ≠ g x ∧ ∀ y, y < x → f y = g y))
    (fun i e hi ⟨o7, due, he, hI⟩ => by
      subst he
      rw [stepF_eq, show (0 : Int) + (i : Int) * 1 = (i : Int) by omega]
      unfold f_law_v3_b1 bitsD
      rcases hI with ⟨rfl, hI⟩ | ⟨x, rfl, h1, h2⟩
      · try simp only [vE_var, vE_int, vE_bl, vE_non, vE_str, vE_cst, vE_bin, vE_cmp, vE_chain, vE_and, vE_or, vE_not, vE_neg, vE_ite, vE_isi, vE_tup, vE_lst, vE_lmul, vE_ix, vE_slice, vE_rev, vE_b1, vE_b2, vE_dm, vE_call, vE_call0, vE_comp, vEs_n, vEs_c, vO_n, vO_s, vC_n, vC_s, vI_1, vI_2, vI_3, vI_s, vI_z, vI_e, zR_l, zR_t, vS_asgT, vS_par, vS_app, vS_setIx, vS_aug, vS_ite, vS_whl, vS_for, vS_ret, vS_retN, vS_expr, vS_pass, aF_n, aF_r, uh_n, uh_c, ag_a, ag_s, cl_n, cl_c, List.getD_cons_zero, List.getD_cons_succ, R.ok_bind, R.exc_bind, R.bad_bind, R.pure_eq, List.length_cons, List.length_nil, List.map_cons, List.map_nil, List.cons_append, List.nil_append, List.replicate_succ, List.replicate_zero, List.set_cons_zero, List.set_cons_succ, Nat.reduceAdd, Nat.reduceSub, Nat.reduceEqDiff, Int.cast_ofNat_Int, Int.reduceEq, Int.reduceLT, Int.reduceLE, Int.reduceAdd, Int.reduceSub, Int.reduceMul, Int.reduceNeg, decide_true, decide_false, Bool.false_and, Bool.true_and, Bool.and_true, Bool.and_false, Bool.or_true, Bool.or_false, Bool.true_or, Bool.false_or, if_true, ite_true, ite_false, Bool.false_eq_true, reduceIte, Bool.not_true, Bool.not_false, asI_i, asB_b, asL_l, asL_t, asLst_l, dIs_int_none, dIs_int_bool, dIs_int_int, dIs_int_str, dIs_int_list, dIs_int_tuple, dIs_int_dict, dIs_bool_none, dIs_bool_bool, dIs_bool_int, dIs_bool_str, dIs_bool_list, dIs_bool_tuple, dIs_bool_dict, dIs_str_none, dIs_str_bool, dIs_str_int, dIs_str_str, dIs_str_list, dIs_str_tuple, dIs_str_dict, dIs_tuple_none, dIs_tuple_bool, dIs_tuple_int, dIs_tuple_str, dIs_tuple_list, dIs_tuple_tuple, dIs_tuple_dict, dIs_list_none, dIs_list_bool, dIs_list_int, dIs_list_str, dIs_list_list, dIs_list_tuple, dIs_list_dict, ad_i, ad_l, ad_t, ad_s, sb_i, mu_i, fd_i, md_i, pw_10_6, pw_10_9, pw_10_12, pw_10_18, pw_10_59, pw_10_60, c_lt, c_le, c_gt, c_ge, c_eq_i, c_ne_i, c_eq_b, c_ne_b, c_isN, c_inN, c_isB, c_inB, c_in, c_ni, b_len_l, b_len_t, b_len_s, b_int_i, b_int_b, b_tup_l, b_tup_t, b_lst_l, b_lst_t, b_abs, b2_max, b2_min, ix_l, ix_t, sl_l, sl_t, rv_l, rv_t, getS_z, getS_s, ne_ok, seq_n, seq_r, evSs_n, evSs_c, outR_r, outR_n, bT_n, bT_t, bTs_n, bTs_c, asS, isNone]
        rw [bitsF_at f (show i < M + 840 by omega), bitsF_at g (show i < M + 840 by omega)]
        try simp only [vE_var, vE_int, vE_bl, vE_non, vE_str, vE_cst, vE_bin, vE_cmp, vE_chain, vE_and, vE_or, vE_not, vE_neg, vE_ite, vE_isi, vE_tup, vE_lst, vE_lmul, vE_ix, vE_slice, vE_rev, vE_b1, vE_b2, vE_dm, vE_call, vE_call0, vE_comp, vEs_n, vEs_c, vO_n, vO_s, vC_n, vC_s, vI_1, vI_2, vI_3, vI_s, vI_z, vI_e, zR_l, zR_t, vS_asgT, vS_par, vS_app, vS_setIx, vS_aug, vS_ite, vS_whl, vS_for, vS_ret, vS_retN, vS_expr, vS_pass, aF_n, aF_r, uh_n, uh_c, ag_a, ag_s, cl_n, cl_c, List.getD_cons_zero, List.getD_cons_succ, R.ok_bind, R.exc_bind, R.bad_bind, R.pure_eq, List.length_cons, List.length_nil, List.map_cons, List.map_nil, List.cons_append, List.nil_append, List.replicate_succ, List.replicate_zero, List.set_cons_zero, List.set_cons_succ, Nat.reduceAdd, Nat.reduceSub, Nat.reduceEqDiff, Int.cast_ofNat_Int, Int.reduceEq, Int.reduceLT, Int.reduceLE, Int.reduceAdd, Int.reduceSub, Int.reduceMul, Int.reduceNeg, decide_true, decide_false, Bool.false_and, Bool.true_and, Bool.and_true, Bool.and_false, Bool.or_true, Bool.or_false, Bool.true_or, Bool.false_or, if_true, ite_true, ite_false, Bool.false_eq_true, reduceIte, Bool.not_true, Bool.not_false, asI_i, asB_b, asL_l, asL_t, asLst_l, dIs_int_none, dIs_int_bool, dIs_int_int, dIs_int_str, dIs_int_list, dIs_int_tuple, dIs_int_dict, dIs_bool_none, dIs_bool_bool, dIs_bool_int, dIs_bool_str, dIs_bool_list, dIs_bool_tuple, dIs_bool_dict, dIs_str_none, dIs_str_bool, dIs_str_int, dIs_str_str, dIs_str_list, dIs_str_tuple, dIs_str_dict, dIs_tuple_none, dIs_tuple_bool, dIs_tuple_int, dIs_tuple_str, dIs_tuple_list, dIs_tuple_tuple, dIs_tuple_dict, dIs_list_none, dIs_list_bool, dIs_list_int, dIs_list_str, dIs_list_list, dIs_list_tuple, dIs_list_dict, ad_i, ad_l, ad_t, ad_s, sb_i, mu_i, fd_i, md_i, pw_10_6, pw_10_9, pw_10_12, pw_10_18, pw_10_59, pw_10_60, c_lt, c_le, c_gt, c_ge, c_eq_i, c_ne_i, c_eq_b, c_ne_b, c_isN, c_inN, c_isB, c_inB, c_in, c_ni, b_len_l, b_len_t, b_len_s, b_int_i, b_int_b, b_tup_l, b_tup_t, b_lst_l, b_lst_t, b_abs, b2_max, b2_min, ix_l, ix_t, sl_l, sl_t, rv_l, rv_t, getS_z, getS_s, ne_ok, seq_n, seq_r, evSs_n, evSs_c, outR_r, outR_n, bT_n, bT_t, bTs_n, bTs_c, asS, ofO_s]
        by_cases hfg : f i = g i
        · rw [hfg, beq_self_eq_true]
          bv_omega
          refine ⟨_, rfl, some (.int (i : Int)), .none, rfl, .inl ⟨rfl, fun y hy => ?_⟩⟩
          by_cases hy2 : y = i
          · subst hy2; exact hfg
          · exact hI y (by omega)
        · rw [show (f i == g i) = false from beq_false_of_ne hfg]
          bv_omega
          exact ⟨_, rfl, some (.int (i : Int)), .int (i : Int), rfl, .inr ⟨i, rfl, hfg, hI⟩⟩
      · try simp only [vE_var, vE_int, vE_bl, vE_non, vE_str, vE_cst, vE_bin, vE_cmp, vE_chain, vE_and, vE_or, vE_not, vE_neg, vE_ite, vE_isi, vE_tup, vE_lst, vE_lmul, vE_ix, vE_slice, vE_rev, vE_b1, vE_b2, vE_dm, vE_call, vE_call0, vE_comp, vEs_n, vEs_c, vO_n, vO_s, vC_n, vC_s, vI_1, vI_2, vI_3, vI_s, vI_z, vI_e, zR_l, zR_t, vS_asgT, vS_par, vS_app, vS_setIx, vS_aug, vS_ite, vS_whl, vS_for, vS_ret, vS_retN, vS_expr, vS_pass, aF_n, aF_r, uh_n, uh_c, ag_a, ag_s, cl_n, cl_c, List.getD_cons_zero, List.getD_cons_succ, R.ok_bind, R.exc_bind, R.bad_bind, R.pure_eq, List.length_cons, List.length_nil, List.map_cons, List.map_nil, List.cons_append, List.nil_append, List.replicate_succ, List.replicate_zero, List.set_cons_zero, List.set_cons_succ, Nat.reduceAdd, Nat.reduceSub, Nat.reduceEqDiff, Int.cast_ofNat_Int, Int.reduceEq, Int.reduceLT, Int.reduceLE, Int.reduceAdd, Int.reduceSub, Int.reduceMul, Int.reduceNeg, decide_true, decide_false, Bool.false_and, Bool.true_and, Bool.and_true, Bool.and_false, Bool.or_true, Bool.or_false, Bool.true_or, Bool.false_or, if_true, ite_true, ite_false, Bool.false_eq_true, reduceIte, Bool.not_true, Bool.not_false, asI_i, asB_b, asL_l, asL_t, asLst_l, dIs_int_none, dIs_int_bool, dIs_int_int, dIs_int_str, dIs_int_list, dIs_int_tuple, dIs_int_dict, dIs_bool_none, dIs_bool_bool, dIs_bool_int, dIs_bool_str, dIs_bool_list, dIs_bool_tuple, dIs_bool_dict, dIs_str_none, dIs_str_bool, dIs_str_int, dIs_str_str, dIs_str_list, dIs_str_tuple, dIs_str_dict, dIs_tuple_none, dIs_tuple_bool, dIs_tuple_int, dIs_tuple_str, dIs_tuple_list, dIs_tuple_tuple, dIs_tuple_dict, dIs_list_none, dIs_list_bool, dIs_list_int, dIs_list_str, dIs_list_list, dIs_list_tuple, dIs_list_dict, ad_i, ad_l, ad_t, ad_s, sb_i, mu_i, fd_i, md_i, pw_10_6, pw_10_9, pw_10_12, pw_10_18, pw_10_59, pw_10_60, c_lt, c_le, c_gt, c_ge, c_eq_i, c_ne_i, c_eq_b, c_ne_b, c_isN, c_inN, c_isB, c_inB, c_in, c_ni, b_len_l, b_len_t, b_len_s, b_int_i, b_int_b, b_tup_l, b_tup_t, b_lst_l, b_lst_t, b_abs, b2_max, b2_min, ix_l, ix_t, sl_l, sl_t, rv_l, rv_t, getS_z, getS_s, ne_ok, seq_n, seq_r, evSs_n, evSs_c, outR_r, outR_n, bT_n, bT_t, bTs_n, bTs_c, asS, isNone]
        exact ⟨_, rfl, some (.int (i : Int)), .int (x : Int), rfl, .inr ⟨x, rfl, h1, h2⟩⟩)
    ⟨none, .none, rfl, .inl ⟨rfl, fun y hy => absurd hy (Nat.not_lt_zero _)⟩⟩
  have hdue : PartD f g due := by
    rcases l3 with ⟨h1, h2⟩ | ⟨x, h1, h2, h3⟩
    · exact .inl ⟨h1, sq_agree qf qg w1 fun x hx => h2 x (by omega)⟩
    · exact .inr ⟨x, h1, h2, h3⟩
  have ed := hdue.uniq pp1
  subst ed
  have p1 : run Tb N 9 37 [stD f B S, stD g C T] = _ := p1
  have p2 : run Tb N 9 37 [stD g C T, stD f B S] = _ := p2
  have p3 : run Tb N 9 37 [stD f B S, stD f B S] = _ := p3
  have p4 : run Tb N 9 37 [stD g C T, stD g C T] = _ := p4
  have q1 : run Tb N 9 31 [stD f B S] = _ := q1
  have q2 : run Tb N 9 31 [stD g C T] = _ := q2
  rw [l1, l2]
  bv_omega
  rw [mkTup_ok (lt_size (by simp)), mkTup_ok (lt_size (by simp))]
  bv_omega
  rw [sized_ok (lt_size (by simp))]
  bv_omega
  have body : ∀ (x y : D) (o8 o9 : Option D), run Tb N 9 37 [x, y] = .ok due → forL (stepF ⟨run Tb N 9, N⟩ (.name 8) f_law_v3_b2) [.tuple [x, y]] [some (.list (ns.map .int)), some (stD f B S), some (stD g C T), some (.int ((M + 840 : Nat) : Int)), some (bitsD (bitsF f (M + 840))), some (bitsD (bitsF g (M + 840))), some due, o7, o8, o9] =
      .ok (.next [some (.list (ns.map .int)), some (stD f B S), some (stD g C T), some (.int ((M + 840 : Nat) : Int)), some (bitsD (bitsF f (M + 840))), some (bitsD (bitsF g (M + 840))), some due, o7, some (.tuple [x, y]), some due]) := by
    intro x y o8 o9 h
    rw [forL_cons, stepF_eq]
    unfold f_law_v3_b2
    try simp only [vE_var, vE_int, vE_bl, vE_non, vE_str, vE_cst, vE_bin, vE_cmp, vE_chain, vE_and, vE_or, vE_not, vE_neg, vE_ite, vE_isi, vE_tup, vE_lst, vE_lmul, vE_ix, vE_slice, vE_rev, vE_b1, vE_b2, vE_dm, vE_call, vE_call0, vE_comp, vEs_n, vEs_c, vO_n, vO_s, vC_n, vC_s, vI_1, vI_2, vI_3, vI_s, vI_z, vI_e, zR_l, zR_t, vS_asgT, vS_par, vS_app, vS_setIx, vS_aug, vS_ite, vS_whl, vS_for, vS_ret, vS_retN, vS_expr, vS_pass, aF_n, aF_r, uh_n, uh_c, ag_a, ag_s, cl_n, cl_c, List.getD_cons_zero, List.getD_cons_succ, R.ok_bind, R.exc_bind, R.bad_bind, R.pure_eq, List.length_cons, List.length_nil, List.map_cons, List.map_nil, List.cons_append, List.nil_append, List.replicate_succ, List.replicate_zero, List.set_cons_zero, List.set_cons_succ, Nat.reduceAdd, Nat.reduceSub, Nat.reduceEqDiff, Int.cast_ofNat_Int, Int.reduceEq, Int.reduceLT, Int.reduceLE, Int.reduceAdd, Int.reduceSub, Int.reduceMul, Int.reduceNeg, decide_true, decide_false, Bool.false_and, Bool.true_and, Bool.and_true, Bool.and_false, Bool.or_true, Bool.or_false, Bool.true_or, Bool.false_or, if_true, ite_true, ite_false, Bool.false_eq_true, reduceIte, Bool.not_true, Bool.not_false, asI_i, asB_b, asL_l, asL_t, asLst_l, dIs_int_none, dIs_int_bool, dIs_int_int, dIs_int_str, dIs_int_list, dIs_int_tuple, dIs_int_dict, dIs_bool_none, dIs_bool_bool, dIs_bool_int, dIs_bool_str, dIs_bool_list, dIs_bool_tuple, dIs_bool_dict, dIs_str_none, dIs_str_bool, dIs_str_int, dIs_str_str, dIs_str_list, dIs_str_tuple, dIs_str_dict, dIs_tuple_none, dIs_tuple_bool, dIs_tuple_int, dIs_tuple_str, dIs_tuple_list, dIs_tuple_tuple, dIs_tuple_dict, dIs_list_none, dIs_list_bool, dIs_list_int, dIs_list_str, dIs_list_list, dIs_list_tuple, dIs_list_dict, ad_i, ad_l, ad_t, ad_s, sb_i, mu_i, fd_i, md_i, pw_10_6, pw_10_9, pw_10_12, pw_10_18, pw_10_59, pw_10_60, c_lt, c_le, c_gt, c_ge, c_eq_i, c_ne_i, c_eq_b, c_ne_b, c_isN, c_inN, c_isB, c_inB, c_in, c_ni, b_len_l, b_len_t, b_len_s, b_int_i, b_int_b, b_tup_l, b_tup_t, b_lst_l, b_lst_t, b_abs, b2_max, b2_min, ix_l, ix_t, sl_l, sl_t, rv_l, rv_t, getS_z, getS_s, ne_ok, seq_n, seq_r, evSs_n, evSs_c, outR_r, outR_n, bT_n, bT_t, bTs_n, bTs_c, asS, at0, at1, ofO_s, h]
    rcases hdue with ⟨rfl, _⟩ | ⟨z, rfl, _⟩
    · try simp only [vE_var, vE_int, vE_bl, vE_non, vE_str, vE_cst, vE_bin, vE_cmp, vE_chain, vE_and, vE_or, vE_not, vE_neg, vE_ite, vE_isi, vE_tup, vE_lst, vE_lmul, vE_ix, vE_slice, vE_rev, vE_b1, vE_b2, vE_dm, vE_call, vE_call0, vE_comp, vEs_n, vEs_c, vO_n, vO_s, vC_n, vC_s, vI_1, vI_2, vI_3, vI_s, vI_z, vI_e, zR_l, zR_t, vS_asgT, vS_par, vS_app, vS_setIx, vS_aug, vS_ite, vS_whl, vS_for, vS_ret, vS_retN, vS_expr, vS_pass, aF_n, aF_r, uh_n, uh_c, ag_a, ag_s, cl_n, cl_c, List.getD_cons_zero, List.getD_cons_succ, R.ok_bind, R.exc_bind, R.bad_bind, R.pure_eq, List.length_cons, List.length_nil, List.map_cons, List.map_nil, List.cons_append, List.nil_append, List.replicate_succ, List.replicate_zero, List.set_cons_zero, List.set_cons_succ, Nat.reduceAdd, Nat.reduceSub, Nat.reduceEqDiff, Int.cast_ofNat_Int, Int.reduceEq, Int.reduceLT, Int.reduceLE, Int.reduceAdd, Int.reduceSub, Int.reduceMul, Int.reduceNeg, decide_true, decide_false, Bool.false_and, Bool.true_and, Bool.and_true, Bool.and_false, Bool.or_true, Bool.or_false, Bool.true_or, Bool.false_or, if_true, ite_true, ite_false, Bool.false_eq_true, reduceIte, Bool.not_true, Bool.not_false, asI_i, asB_b, asL_l, asL_t, asLst_l, dIs_int_none, dIs_int_bool, dIs_int_int, dIs_int_str, dIs_int_list, dIs_int_tuple, dIs_int_dict, dIs_bool_none, dIs_bool_bool, dIs_bool_int, dIs_bool_str, dIs_bool_list, dIs_bool_tuple, dIs_bool_dict, dIs_str_none, dIs_str_bool, dIs_str_int, dIs_str_str, dIs_str_list, dIs_str_tuple, dIs_str_dict, dIs_tuple_none, dIs_tuple_bool, dIs_tuple_int, dIs_tuple_str, dIs_tuple_list, dIs_tuple_tuple, dIs_tuple_dict, dIs_list_none, dIs_list_bool, dIs_list_int, dIs_list_str, dIs_list_list, dIs_list_tuple, dIs_list_dict, ad_i, ad_l, ad_t, ad_s, sb_i, mu_i, fd_i, md_i, pw_10_6, pw_10_9, pw_10_12, pw_10_18, pw_10_59, pw_10_60, c_lt, c_le, c_gt, c_ge, c_eq_i, c_ne_i, c_eq_b, c_ne_b, c_isN, c_inN, c_isB, c_inB, c_in, c_ni, b_len_l, b_len_t, b_len_s, b_int_i, b_int_b, b_tup_l, b_tup_t, b_lst_l, b_lst_t, b_abs, b2_max, b2_min, ix_l, ix_t, sl_l, sl_t, rv_l, rv_t, getS_z, getS_s, ne_ok, seq_n, seq_r, evSs_n, evSs_c, outR_r, outR_n, bT_n, bT_t, bTs_n, bTs_c, asS, isNone, forL_nil]
    · try simp only [vE_var, vE_int, vE_bl, vE_non, vE_str, vE_cst, vE_bin, vE_cmp, vE_chain, vE_and, vE_or, vE_not, vE_neg, vE_ite, vE_isi, vE_tup, vE_lst, vE_lmul, vE_ix, vE_slice, vE_rev, vE_b1, vE_b2, vE_dm, vE_call, vE_call0, vE_comp, vEs_n, vEs_c, vO_n, vO_s, vC_n, vC_s, vI_1, vI_2, vI_3, vI_s, vI_z, vI_e, zR_l, zR_t, vS_asgT, vS_par, vS_app, vS_setIx, vS_aug, vS_ite, vS_whl, vS_for, vS_ret, vS_retN, vS_expr, vS_pass, aF_n, aF_r, uh_n, uh_c, ag_a, ag_s, cl_n, cl_c, List.getD_cons_zero, List.getD_cons_succ, R.ok_bind, R.exc_bind, R.bad_bind, R.pure_eq, List.length_cons, List.length_nil, List.map_cons, List.map_nil, List.cons_append, List.nil_append, List.replicate_succ, List.replicate_zero, List.set_cons_zero, List.set_cons_succ, Nat.reduceAdd, Nat.reduceSub, Nat.reduceEqDiff, Int.cast_ofNat_Int, Int.reduceEq, Int.reduceLT, Int.reduceLE, Int.reduceAdd, Int.reduceSub, Int.reduceMul, Int.reduceNeg, decide_true, decide_false, Bool.false_and, Bool.true_and, Bool.and_true, Bool.and_false, Bool.or_true, Bool.or_false, Bool.true_or, Bool.false_or, if_true, ite_true, ite_false, Bool.false_eq_true, reduceIte, Bool.not_true, Bool.not_false, asI_i, asB_b, asL_l, asL_t, asLst_l, dIs_int_none, dIs_int_bool, dIs_int_int, dIs_int_str, dIs_int_list, dIs_int_tuple, dIs_int_dict, dIs_bool_none, dIs_bool_bool, dIs_bool_int, dIs_bool_str, dIs_bool_list, dIs_bool_tuple, dIs_bool_dict, dIs_str_none, dIs_str_bool, dIs_str_int, dIs_str_str, dIs_str_list, dIs_str_tuple, dIs_str_dict, dIs_tuple_none, dIs_tuple_bool, dIs_tuple_int, dIs_tuple_str, dIs_tuple_list, dIs_tuple_tuple, dIs_tuple_dict, dIs_list_none, dIs_list_bool, dIs_list_int, dIs_list_str, dIs_list_list, dIs_list_tuple, dIs_list_dict, ad_i, ad_l, ad_t, ad_s, sb_i, mu_i, fd_i, md_i, pw_10_6, pw_10_9, pw_10_12, pw_10_18, pw_10_59, pw_10_60, c_lt, c_le, c_gt, c_ge, c_eq_i, c_ne_i, c_eq_b, c_ne_b, c_isN, c_inN, c_isB, c_inB, c_in, c_ni, b_len_l, b_len_t, b_len_s, b_int_i, b_int_b, b_tup_l, b_tup_t, b_lst_l, b_lst_t, b_abs, b2_max, b2_min, ix_l, ix_t, sl_l, sl_t, rv_l, rv_t, getS_z, getS_s, ne_ok, seq_n, seq_r, evSs_n, evSs_c, outR_r, outR_n, bT_n, bT_t, bTs_n, bTs_c, asS, isNone, forL_nil, law_is_ok (N := N) (k := 7) (z : Int)]
  have two : ∀ (f : D → Env → R Out) (a b : D) (e : Env), forL f [a, b] e = seqO (forL f [a] e) (forL f [b]) := fun f a b e => by
    rw [forL_cons, forL_cons]
    cases f a e with
    | ok o => cases o <;> rfl
    | exc _ => rfl
    | bad => rfl
  rw [two, body _ _ _ _ p1]
  bv_omega
  rw [body _ _ _ _ p2]
  try simp only [vE_var, vE_int, vE_bl, vE_non, vE_str, vE_cst, vE_bin, vE_cmp, vE_chain, vE_and, vE_or, vE_not, vE_neg, vE_ite, vE_isi, vE_tup, vE_lst, vE_lmul, vE_ix, vE_slice, vE_rev, vE_b1, vE_b2, vE_dm, vE_call, vE_call0, vE_comp, vEs_n, vEs_c, vO_n, vO_s, vC_n, vC_s, vI_1, vI_2, vI_3, vI_s, vI_z, vI_e, zR_l, zR_t, vS_asgT, vS_par, vS_app, vS_setIx, vS_aug, vS_ite, vS_whl, vS_for, vS_ret, vS_retN, vS_expr, vS_pass, aF_n, aF_r, uh_n, uh_c, ag_a, ag_s, cl_n, cl_c, List.getD_cons_zero, List.getD_cons_succ, R.ok_bind, R.exc_bind, R.bad_bind, R.pure_eq, List.length_cons, List.length_nil, List.map_cons, List.map_nil, List.cons_append, List.nil_append, List.replicate_succ, List.replicate_zero, List.set_cons_zero, List.set_cons_succ, Nat.reduceAdd, Nat.reduceSub, Nat.reduceEqDiff, Int.cast_ofNat_Int, Int.reduceEq, Int.reduceLT, Int.reduceLE, Int.reduceAdd, Int.reduceSub, Int.reduceMul, Int.reduceNeg, decide_true, decide_false, Bool.false_and, Bool.true_and, Bool.and_true, Bool.and_false, Bool.or_true, Bool.or_false, Bool.true_or, Bool.false_or, if_true, ite_true, ite_false, Bool.false_eq_true, reduceIte, Bool.not_true, Bool.not_false, asI_i, asB_b, asL_l, asL_t, asLst_l, dIs_int_none, dIs_int_bool, dIs_int_int, dIs_int_str, dIs_int_list, dIs_int_tuple, dIs_int_dict, dIs_bool_none, dIs_bool_bool, dIs_bool_int, dIs_bool_str, dIs_bool_list, dIs_bool_tuple, dIs_bool_dict, dIs_str_none, dIs_str_bool, dIs_str_int, dIs_str_str, dIs_str_list, dIs_str_tuple, dIs_str_dict, dIs_tuple_none, dIs_tuple_bool, dIs_tuple_int, dIs_tuple_str, dIs_tuple_list, dIs_tuple_tuple, dIs_tuple_dict, dIs_list_none, dIs_list_bool, dIs_list_int, dIs_list_str, dIs_list_list, dIs_list_tuple, dIs_list_dict, ad_i, ad_l, ad_t, ad_s, sb_i, mu_i, fd_i, md_i, pw_10_6, pw_10_9, pw_10_12, pw_10_18, pw_10_59, pw_10_60, c_lt, c_le, c_gt, c_ge, c_eq_i, c_ne_i, c_eq_b, c_ne_b, c_isN, c_inN, c_isB, c_inB, c_in, c_ni, b_len_l, b_len_t, b_len_s, b_int_i, b_int_b, b_tup_l, b_tup_t, b_lst_l, b_lst_t, b_abs, b2_max, b2_min, ix_l, ix_t, sl_l, sl_t, rv_l, rv_t, getS_z, getS_s, ne_ok, seq_n, seq_r, evSs_n, evSs_c, outR_r, outR_n, bT_n, bT_t, bTs_n, bTs_c, asS, q1, q2, t1, p3, p4]
  have ht : t = isNone due := by
    rcases hdue with ⟨rfl, h⟩ | ⟨z, rfl, h, _⟩
    · exact t2.mpr h
    · have ht : t = false := Bool.eq_false_iff.mpr fun z => h (by rw [t2.mp z])
      rw [ht]
      rfl
  rw [ht]
  bv_omega
  rw [beq_self_eq_true]
  try simp only [vE_var, vE_int, vE_bl, vE_non, vE_str, vE_cst, vE_bin, vE_cmp, vE_chain, vE_and, vE_or, vE_not, vE_neg, vE_ite, vE_isi, vE_tup, vE_lst, vE_lmul, vE_ix, vE_slice, vE_rev, vE_b1, vE_b2, vE_dm, vE_call, vE_call0, vE_comp, vEs_n, vEs_c, vO_n, vO_s, vC_n, vC_s, vI_1, vI_2, vI_3, vI_s, vI_z, vI_e, zR_l, zR_t, vS_asgT, vS_par, vS_app, vS_setIx, vS_aug, vS_ite, vS_whl, vS_for, vS_ret, vS_retN, vS_expr, vS_pass, aF_n, aF_r, uh_n, uh_c, ag_a, ag_s, cl_n, cl_c, List.getD_cons_zero, List.getD_cons_succ, R.ok_bind, R.exc_bind, R.bad_bind, R.pure_eq, List.length_cons, List.length_nil, List.map_cons, List.map_nil, List.cons_append, List.nil_append, List.replicate_succ, List.replicate_zero, List.set_cons_zero, List.set_cons_succ, Nat.reduceAdd, Nat.reduceSub, Nat.reduceEqDiff, Int.cast_ofNat_Int, Int.reduceEq, Int.reduceLT, Int.reduceLE, Int.reduceAdd, Int.reduceSub, Int.reduceMul, Int.reduceNeg, decide_true, decide_false, Bool.false_and, Bool.true_and, Bool.and_true, Bool.and_false, Bool.or_true, Bool.or_false, Bool.true_or, Bool.false_or, if_true, ite_true, ite_false, Bool.false_eq_true, reduceIte, Bool.not_true, Bool.not_false, asI_i, asB_b, asL_l, asL_t, asLst_l, dIs_int_none, dIs_int_bool, dIs_int_int, dIs_int_str, dIs_int_list, dIs_int_tuple, dIs_int_dict, dIs_bool_none, dIs_bool_bool, dIs_bool_int, dIs_bool_str, dIs_bool_list, dIs_bool_tuple, dIs_bool_dict, dIs_str_none, dIs_str_bool, dIs_str_int, dIs_str_str, dIs_str_list, dIs_str_tuple, dIs_str_dict, dIs_tuple_none, dIs_tuple_bool, dIs_tuple_int, dIs_tuple_str, dIs_tuple_list, dIs_tuple_tuple, dIs_tuple_dict, dIs_list_none, dIs_list_bool, dIs_list_int, dIs_list_str, dIs_list_list, dIs_list_tuple, dIs_list_dict, ad_i, ad_l, ad_t, ad_s, sb_i, mu_i, fd_i, md_i, pw_10_6, pw_10_9, pw_10_12, pw_10_18, pw_10_59, pw_10_60, c_lt, c_le, c_gt, c_ge, c_eq_i, c_ne_i, c_eq_b, c_ne_b, c_isN, c_inN, c_isB, c_inB, c_in, c_ni, b_len_l, b_len_t, b_len_s, b_int_i, b_int_b, b_tup_l, b_tup_t, b_lst_l, b_lst_t, b_abs, b2_max, b2_min, ix_l, ix_t, sl_l, sl_t, rv_l, rv_t, getS_z, getS_s, ne_ok, seq_n, seq_r, evSs_n, evSs_c, outR_r, outR_n, bT_n, bT_t, bTs_n, bTs_c, asS, p3, p4, isNone]
theorem k05_go (ns : List Int) (hn : ns.length ≤ 63) : run Tb 1000000000 10 42 [.list (ns.map .int)] = .ok (.bool true) := k05_run (by decide) ns
end Ev
set_option Elab.async false
set_option linter.all false
set_option maxRecDepth 100000
set_option maxHeartbeats 4000000
namespace Ev
open PySem
local macro_rules | `(tactic| bv_omega) => `(tactic| try simp only [vE_var, vE_int, vE_bl, vE_non, vE_str, vE_cst, vE_bin, vE_cmp, vE_chain, vE_and, vE_or, vE_not, vE_neg, vE_ite, vE_isi, vE_tup, vE_lst, vE_lmul, vE_ix, vE_slice, vE_rev, vE_b1, vE_b2, vE_dm, vE_call, vE_call0, vE_comp, vEs_n, vEs_c, vO_n, vO_s, vC_n, vC_s, vI_1, vI_2, vI_3, vI_s, vI_z, vI_e, zR_l, zR_t, vS_asgT, vS_par, vS_app, vS_setIx, vS_aug, vS_ite, vS_whl, vS_for, vS_ret, vS_retN, vS_expr, vS_pass, aF_n, aF_r, uh_n, uh_c, ag_a, ag_s, cl_n, cl_c, List.getD_cons_zero, List.getD_cons_succ, R.ok_bind, R.exc_bind, R.bad_bind, R.pure_eq, List.length_cons, List.length_nil, List.map_cons, List.map_nil, List.cons_append, List.nil_append, List.replicate_succ, List.replicate_zero, List.set_cons_zero, List.set_cons_succ, Nat.reduceAdd, Nat.reduceSub, Nat.reduceEqDiff, Int.cast_ofNat_Int, Int.reduceEq, Int.reduceLT, Int.reduceLE, Int.reduceAdd, Int.reduceSub, Int.reduceMul, Int.reduceNeg, decide_true, decide_false, Bool.false_and, Bool.true_and, Bool.and_true, Bool.and_false, Bool.or_true, Bool.or_false, Bool.true_or, Bool.false_or, if_true, ite_true, ite_false, Bool.false_eq_true, reduceIte, Bool.not_true, Bool.not_false, asI_i, asB_b, asL_l, asL_t, asLst_l, dIs_int_none, dIs_int_bool, dIs_int_int, dIs_int_str, dIs_int_list, dIs_int_tuple, dIs_int_dict, dIs_bool_none, dIs_bool_bool, dIs_bool_int, dIs_bool_str, dIs_bool_list, dIs_bool_tuple, dIs_bool_dict, dIs_str_none, dIs_str_bool, dIs_str_int, dIs_str_str, dIs_str_list, dIs_str_tuple, dIs_str_dict, dIs_tuple_none, dIs_tuple_bool, dIs_tuple_int, dIs_tuple_str, dIs_tuple_list, dIs_tuple_tuple, dIs_tuple_dict, dIs_list_none, dIs_list_bool, dIs_list_int, dIs_list_str, dIs_list_list, dIs_list_tuple, dIs_list_dict, ad_i, ad_l, ad_t, ad_s, sb_i, mu_i, fd_i, md_i, pw_10_6, pw_10_9, pw_10_12, pw_10_18, pw_10_59, pw_10_60, c_lt, c_le, c_gt, c_ge, c_eq_i, c_ne_i, c_eq_b, c_ne_b, c_isN, c_inN, c_isB, c_inB, c_in, c_ni, b_len_l, b_len_t, b_len_s, b_int_i, b_int_b, b_tup_l, b_tup_t, b_lst_l, b_lst_t, b_abs, b2_max, b2_min, ix_l, ix_t, sl_l, sl_t, rv_l, rv_t, getS_z, getS_s, ne_ok, seq_n, seq_r, evSs_n, evSs_c, outR_r, outR_n, bT_n, bT_t, bTs_n, bTs_c, asS])
variable {N k : Nat}
def opF (op : Bool → Bool → Bool) (f g : Sq) : Sq := fun x => op (f x) (g x)
theorem Per.op {f g : Sq} {B S : Nat} (op : Bool → Bool → Bool) (hf : Per f B S) (hg : Per g B S) : Per (opF op f g) B S := fun x hx => by
  unfold opF
  rw [hf x hx, hg x hx]
theorem comp_zip0 {op : Bool → Bool → Bool} (F : D → R (Option D)) (hF : ∀ a b, F (.tuple [.bool a, .bool b]) = .ok (some (.bool (op a b)))) : ∀ as bs : List Bool,
    compL F (zipD (as.map .bool) (bs.map .bool)) = .ok ((List.zipWith op as bs).map .bool)
  | [], [] => rfl
  | [], _ :: _ => rfl
  | _ :: _, [] => rfl
  | a :: as, b :: bs => by
    rw [List.map_cons, List.map_cons, zipD, compL, hF, comp_zip0 F hF as bs]
    rfl
theorem zip_bitsF (op : Bool → Bool → Bool) (f g : Sq) (m : Nat) : List.zipWith op (bitsF f m) (bitsF g m) = bitsF (opF op f g) m := by
  unfold bitsF opF
  rw [List.zipWith_map, List.zipWith_self]
theorem comp_zip {op : Bool → Bool → Bool} {F : D → R (Option D)} (hF : ∀ a b, F (.tuple [.bool a, .bool b]) = .ok (some (.bool (op a b)))) (f g : Sq) (m : Nat) :
    compL F (zipD ((bitsF f m).map .bool) ((bitsF g m).map .bool)) = .ok ((bitsF (opF op f g) m).map .bool) := by
  rw [comp_zip0 F hF, zip_bitsF]
theorem any_bools' (bs : List Bool) : dB1 .any (.list (bs.map .bool)) = .ok (.bool (bs.any id)) := by
  have e : mapR asB (bs.map PyData.bool) = .ok bs := by
    induction bs with
    | nil => rfl
    | cons b bs ih => rw [List.map_cons, mapR, ih]; rfl
  show (mapR asB (bs.map PyData.bool) >>= fun bs => R.ok (PyData.bool (bs.any id))) = _
  rw [e]
  rfl
theorem bitsF_any (f : Sq) (m : Nat) : (bitsF f m).any id = true ↔ ∃ x, x < m ∧ f x = true := by
  unfold bitsF
  rw [List.any_map, List.any_eq_true]
  simp
theorem bitsF_all (f : Sq) (m : Nat) : (bitsF f m).all id = true ↔ ∀ x, x < m → f x = true := by
  unfold bitsF
  rw [List.all_map, List.all_eq_true]
  simp
def Sub (f g : Sq) : Prop := ∀ x, f x = true → g x = true
def andN (a b : Bool) : Bool := a && !b
section
variable {f g : Sq} {B S C T : Nat}
theorem Pair.bounds (h : Pair f g B S C T) : max B C ≤ 3000 ∧ 1 ≤ Nat.lcm S T ∧ Nat.lcm S T ≤ 840 := by
  have := h.hB
  have := h.hC
  exact ⟨by omega, h.w1, h.hW⟩
theorem within_ok (h : Pair f g B S C T) (hN : 1000000 ≤ N) : ∃ t : Bool, run Tb N (k + 6) 43 [stD f B S, stD g C T] = .ok (.bool t) ∧ (t = true ↔ Sub f g) := by
  obtain ⟨b1, b2, b3⟩ := h.bounds
  obtain ⟨qf, qg⟩ := h.per rfl
  have e := levelled_ok (N := N) (k := k) h hN
  rw [run_eq (fn := f_within) rfl rfl]
  unfold f_within
  obtain ⟨W, eW⟩ : ∃ W, W = Nat.lcm S T := ⟨_, rfl⟩
  obtain ⟨M, eM⟩ : ∃ M, M = max B C := ⟨_, rfl⟩
  simp only [← eW, ← eM] at e b1 b2 b3 qf qg
  refine ⟨!(bitsF (opF andN f g) (M + W)).any id, ?_, ?_⟩
  · unfold bitsD at e
    try simp only [vE_var, vE_int, vE_bl, vE_non, vE_str, vE_cst, vE_bin, vE_cmp, vE_chain, vE_and, vE_or, vE_not, vE_neg, vE_ite, vE_isi, vE_tup, vE_lst, vE_lmul, vE_ix, vE_slice, vE_rev, vE_b1, vE_b2, vE_dm, vE_call, vE_call0, vE_comp, vEs_n, vEs_c, vO_n, vO_s, vC_n, vC_s, vI_1, vI_2, vI_3, vI_s, vI_z, vI_e, zR_l, zR_t, vS_asgT, vS_par, vS_app, vS_setIx, vS_aug, vS_ite, vS_whl, vS_for, vS_ret, vS_retN, vS_expr, vS_pass, aF_n, aF_r, uh_n, uh_c, ag_a, ag_s, cl_n, cl_c, List.getD_cons_zero, List.getD_cons_succ, R.ok_bind, R.exc_bind, R.bad_bind, R.pure_eq, List.length_cons, List.length_nil, List.map_cons, List.map_nil, List.cons_append, List.nil_append, List.replicate_succ, List.replicate_zero, List.set_cons_zero, List.set_cons_succ, Nat.reduceAdd, Nat.reduceSub, Nat.reduceEqDiff, Int.cast_ofNat_Int, Int.reduceEq, Int.reduceLT, Int.reduceLE, Int.reduceAdd, Int.reduceSub, Int.reduceMul, Int.reduceNeg, decide_true, decide_false, Bool.false_and, Bool.true_and, Bool.and_true, Bool.and_false, Bool.or_true, Bool.or_false, Bool.true_or, Bool.false_or, if_true, ite_true, ite_false, Bool.false_eq_true, reduceIte, Bool.not_true, Bool.not_false, asI_i, asB_b, asL_l, asL_t, asLst_l, dIs_int_none, dIs_int_bool, dIs_int_int, dIs_int_str, dIs_int_list, dIs_int_tuple, dIs_int_dict, dIs_bool_none, dIs_bool_bool, dIs_bool_int, dIs_bool_str, dIs_bool_list, dIs_bool_tuple, dIs_bool_dict, dIs_str_none, dIs_str_bool, dIs_str_int, dIs_str_str, dIs_str_list, dIs_str_tuple, dIs_str_dict, dIs_tuple_none, dIs_tuple_bool, dIs_tuple_int, dIs_tuple_str, dIs_tuple_list, dIs_tuple_tuple, dIs_tuple_dict, dIs_list_none, dIs_list_bool, dIs_list_int, dIs_list_str, dIs_list_list, dIs_list_tuple, dIs_list_dict, ad_i, ad_l, ad_t, ad_s, sb_i, mu_i, fd_i, md_i, pw_10_6, pw_10_9, pw_10_12, pw_10_18, pw_10_59, pw_10_60, c_lt, c_le, c_gt, c_ge, c_eq_i, c_ne_i, c_eq_b, c_ne_b, c_isN, c_inN, c_isB, c_inB, c_in, c_ni, b_len_l, b_len_t, b_len_s, b_int_i, b_int_b, b_tup_l, b_tup_t, b_lst_l, b_lst_t, b_abs, b2_max, b2_min, ix_l, ix_t, sl_l, sl_t, rv_l, rv_t, getS_z, getS_s, ne_ok, seq_n, seq_r, evSs_n, evSs_c, outR_r, outR_n, bT_n, bT_t, bTs_n, bTs_c, asS, e]
    rw [comp_zip (op := andN) (by intro a b; cases a <;> cases b <;> rfl)]
    bv_omega
    rw [sized_ok (lt_size (by rw [bl_len, bitsF_len]; omega))]
    try simp only [vE_var, vE_int, vE_bl, vE_non, vE_str, vE_cst, vE_bin, vE_cmp, vE_chain, vE_and, vE_or, vE_not, vE_neg, vE_ite, vE_isi, vE_tup, vE_lst, vE_lmul, vE_ix, vE_slice, vE_rev, vE_b1, vE_b2, vE_dm, vE_call, vE_call0, vE_comp, vEs_n, vEs_c, vO_n, vO_s, vC_n, vC_s, vI_1, vI_2, vI_3, vI_s, vI_z, vI_e, zR_l, zR_t, vS_asgT, vS_par, vS_app, vS_setIx, vS_aug, vS_ite, vS_whl, vS_for, vS_ret, vS_retN, vS_expr, vS_pass, aF_n, aF_r, uh_n, uh_c, ag_a, ag_s, cl_n, cl_c, List.getD_cons_zero, List.getD_cons_succ, R.ok_bind, R.exc_bind, R.bad_bind, R.pure_eq, List.length_cons, List.length_nil, List.map_cons, List.map_nil, List.cons_append, List.nil_append, List.replicate_succ, List.replicate_zero, List.set_cons_zero, List.set_cons_succ, Nat.reduceAdd, Nat.reduceSub, Nat.reduceEqDiff, Int.cast_ofNat_Int, Int.reduceEq, Int.reduceLT, Int.reduceLE, Int.reduceAdd, Int.reduceSub, Int.reduceMul, Int.reduceNeg, decide_true, decide_false, Bool.false_and, Bool.true_and, Bool.and_true, Bool.and_false, Bool.or_true, Bool.or_false, Bool.true_or, Bool.false_or, if_true, ite_true, ite_false, Bool.false_eq_true, reduceIte, Bool.not_true, Bool.not_false, asI_i, asB_b, asL_l, asL_t, asLst_l, dIs_int_none, dIs_int_bool, dIs_int_int, dIs_int_str, dIs_int_list, dIs_int_tuple, dIs_int_dict, dIs_bool_none, dIs_bool_bool, dIs_bool_int, dIs_bool_str, dIs_bool_list, dIs_bool_tuple, dIs_bool_dict, dIs_str_none, dIs_str_bool, dIs_str_int, dIs_str_str, dIs_str_list, dIs_str_tuple, dIs_str_dict, dIs_tuple_none, dIs_tuple_bool, dIs_tuple_int, dIs_tuple_str, dIs_tuple_list, dIs_tuple_tuple, dIs_tuple_dict, dIs_list_none, dIs_list_bool, dIs_list_int, dIs_list_str, dIs_list_list, dIs_list_tuple, dIs_list_dict, ad_i, ad_l, ad_t, ad_s, sb_i, mu_i, fd_i, md_i, pw_10_6, pw_10_9, pw_10_12, pw_10_18, pw_10_59, pw_10_60, c_lt, c_le, c_gt, c_ge, c_eq_i, c_ne_i, c_eq_b, c_ne_b, c_isN, c_inN, c_isB, c_inB, c_in, c_ni, b_len_l, b_len_t, b_len_s, b_int_i, b_int_b, b_tup_l, b_tup_t, b_lst_l, b_lst_t, b_abs, b2_max, b2_min, ix_l, ix_t, sl_l, sl_t, rv_l, rv_t, getS_z, getS_s, ne_ok, seq_n, seq_r, evSs_n, evSs_c, outR_r, outR_n, bT_n, bT_t, bTs_n, bTs_c, asS, any_bools']
  · rw [Bool.not_eq_true', Bool.eq_false_iff, Ne, bitsF_any]
    constructor
    · intro hno x hx
      have hz : opF andN f g = fun _ => false := sq_agree (qf.op andN qg) (fun _ _ => rfl) b2 fun y hy => by
        cases q : opF andN f g y with
        | false => rfl
        | true => exact absurd ⟨y, hy, q⟩ hno
      have hzx := congrFun hz x
      unfold opF andN at hzx
      rw [hx] at hzx
      cases q : g x with
      | true => rfl
      | false => rw [q] at hzx; cases hzx
    · rintro hs ⟨x, _, hx⟩
      unfold opF andN at hx
      cases q : f x with
      | false => rw [q] at hx; cases hx
      | true => rw [q, hs x q] at hx; cases hx
theorem both_ok (h : Pair f g B S C T) (hN : 1000000 ≤ N) : ∃ b p : Nat, run Tb N (k + 6) 44 [stD f B S, stD g C T] = .ok (stD (opF and f g) b p) ∧ Canon (opF and f g) b p ∧ b ≤ max B C ∧ p ≤ Nat.lcm S T := by
  obtain ⟨b1, b2, b3⟩ := h.bounds
  obtain ⟨qf, qg⟩ := h.per rfl
  have e := levelled_ok (N := N) (k := k) h hN
  rw [run_eq (fn := f_both) rfl rfl]
  unfold f_both
  obtain ⟨W, eW⟩ : ∃ W, W = Nat.lcm S T := ⟨_, rfl⟩
  obtain ⟨M, eM⟩ : ∃ M, M = max B C := ⟨_, rfl⟩
  simp only [← eW, ← eM] at e b1 b2 b3 qf qg ⊢
  obtain ⟨b, p, e2, r⟩ := least_of_bits_ok (N := N) (k := k + 3) (m := M + W) (qf.op and qg) b2 (Nat.le_refl _) (by omega) hN
  refine ⟨b, p, ?_, r⟩
  unfold bitsD at e e2
  try simp only [vE_var, vE_int, vE_bl, vE_non, vE_str, vE_cst, vE_bin, vE_cmp, vE_chain, vE_and, vE_or, vE_not, vE_neg, vE_ite, vE_isi, vE_tup, vE_lst, vE_lmul, vE_ix, vE_slice, vE_rev, vE_b1, vE_b2, vE_dm, vE_call, vE_call0, vE_comp, vEs_n, vEs_c, vO_n, vO_s, vC_n, vC_s, vI_1, vI_2, vI_3, vI_s, vI_z, vI_e, zR_l, zR_t, vS_asgT, vS_par, vS_app, vS_setIx, vS_aug, vS_ite, vS_whl, vS_for, vS_ret, vS_retN, vS_expr, vS_pass, aF_n, aF_r, uh_n, uh_c, ag_a, ag_s, cl_n, cl_c, List.getD_cons_zero, List.getD_cons_succ, R.ok_bind, R.exc_bind, R.bad_bind, R.pure_eq, List.length_cons, List.length_nil, List.map_cons, List.map_nil, List.cons_append, List.nil_append, List.replicate_succ, List.replicate_zero, List.set_cons_zero, List.set_cons_succ, Nat.reduceAdd, Nat.reduceSub, Nat.reduceEqDiff, Int.cast_ofNat_Int, Int.reduceEq, Int.reduceLT, Int.reduceLE, Int.reduceAdd, Int.reduceSub, Int.reduceMul, Int.reduceNeg, decide_true, decide_false, Bool.false_and, Bool.true_and, Bool.and_true, Bool.and_false, Bool.or_true, Bool.or_false, Bool.true_or, Bool.false_or, if_true, ite_true, ite_false, Bool.false_eq_true, reduceIte, Bool.not_true, Bool.not_false, asI_i, asB_b, asL_l, asL_t, asLst_l, dIs_int_none, dIs_int_bool, dIs_int_int, dIs_int_str, dIs_int_list, dIs_int_tuple, dIs_int_dict, dIs_bool_none, dIs_bool_bool, dIs_bool_int, dIs_bool_str, dIs_bool_list, dIs_bool_tuple, dIs_bool_dict, dIs_str_none, dIs_str_bool, dIs_str_int, dIs_str_str, dIs_str_list, dIs_str_tuple, dIs_str_dict, dIs_tuple_none, dIs_tuple_bool, dIs_tuple_int, dIs_tuple_str, dIs_tuple_list, dIs_tuple_tuple, dIs_tuple_dict, dIs_list_none, dIs_list_bool, dIs_list_int, dIs_list_str, dIs_list_list, dIs_list_tuple, dIs_list_dict, ad_i, ad_l, ad_t, ad_s, sb_i, mu_i, fd_i, md_i, pw_10_6, pw_10_9, pw_10_12, pw_10_18, pw_10_59, pw_10_60, c_lt, c_le, c_gt, c_ge, c_eq_i, c_ne_i, c_eq_b, c_ne_b, c_isN, c_inN, c_isB, c_inB, c_in, c_ni, b_len_l, b_len_t, b_len_s, b_int_i, b_int_b, b_tup_l, b_tup_t, b_lst_l, b_lst_t, b_abs, b2_max, b2_min, ix_l, ix_t, sl_l, sl_t, rv_l, rv_t, getS_z, getS_s, ne_ok, seq_n, seq_r, evSs_n, evSs_c, outR_r, outR_n, bT_n, bT_t, bTs_n, bTs_c, asS, e]
  rw [comp_zip (op := and) (by intro a b; cases a <;> cases b <;> rfl)]
  bv_omega
  rw [sized_ok (lt_size (by rw [bl_len, bitsF_len]; omega))]
  try simp only [vE_var, vE_int, vE_bl, vE_non, vE_str, vE_cst, vE_bin, vE_cmp, vE_chain, vE_and, vE_or, vE_not, vE_neg, vE_ite, vE_isi, vE_tup, vE_lst, vE_lmul, vE_ix, vE_slice, vE_rev, vE_b1, vE_b2, vE_dm, vE_call, vE_call0, vE_comp, vEs_n, vEs_c, vO_n, vO_s, vC_n, vC_s, vI_1, vI_2, vI_3, vI_s, vI_z, vI_e, zR_l, zR_t, vS_asgT, vS_par, vS_app, vS_setIx, vS_aug, vS_ite, vS_whl, vS_for, vS_ret, vS_retN, vS_expr, vS_pass, aF_n, aF_r, uh_n, uh_c, ag_a, ag_s, cl_n, cl_c, List.getD_cons_zero, List.getD_cons_succ, R.ok_bind, R.exc_bind, R.bad_bind, R.pure_eq, List.length_cons, List.length_nil, List.map_cons, List.map_nil, List.cons_append, List.nil_append, List.replicate_succ, List.replicate_zero, List.set_cons_zero, List.set_cons_succ, Nat.reduceAdd, Nat.reduceSub, Nat.reduceEqDiff, Int.cast_ofNat_Int, Int.reduceEq, Int.reduceLT, Int.reduceLE, Int.reduceAdd, Int.reduceSub, Int.reduceMul, Int.reduceNeg, decide_true, decide_false, Bool.false_and, Bool.true_and, Bool.and_true, Bool.and_false, Bool.or_true, Bool.or_false, Bool.true_or, Bool.false_or, if_true, ite_true, ite_false, Bool.false_eq_true, reduceIte, Bool.not_true, Bool.not_false, asI_i, asB_b, asL_l, asL_t, asLst_l, dIs_int_none, dIs_int_bool, dIs_int_int, dIs_int_str, dIs_int_list, dIs_int_tuple, dIs_int_dict, dIs_bool_none, dIs_bool_bool, dIs_bool_int, dIs_bool_str, dIs_bool_list, dIs_bool_tuple, dIs_bool_dict, dIs_str_none, dIs_str_bool, dIs_str_int, dIs_str_str, dIs_str_list, dIs_str_tuple, dIs_str_dict, dIs_tuple_none, dIs_tuple_bool, dIs_tuple_int, dIs_tuple_str, dIs_tuple_list, dIs_tuple_tuple, dIs_tuple_dict, dIs_list_none, dIs_list_bool, dIs_list_int, dIs_list_str, dIs_list_list, dIs_list_tuple, dIs_list_dict, ad_i, ad_l, ad_t, ad_s, sb_i, mu_i, fd_i, md_i, pw_10_6, pw_10_9, pw_10_12, pw_10_18, pw_10_59, pw_10_60, c_lt, c_le, c_gt, c_ge, c_eq_i, c_ne_i, c_eq_b, c_ne_b, c_isN, c_inN, c_isB, c_inB, c_in, c_ni, b_len_l, b_len_t, b_len_s, b_int_i, b_int_b, b_tup_l, b_tup_t, b_lst_l, b_lst_t, b_abs, b2_max, b2_min, ix_l, ix_t, sl_l, sl_t, rv_l, rv_t, getS_z, getS_s, ne_ok, seq_n, seq_r, evSs_n, evSs_c, outR_r, outR_n, bT_n, bT_t, bTs_n, bTs_c, asS, e2]
theorem either_ok (h : Pair f g B S C T) (hN : 1000000 ≤ N) : ∃ b p : Nat, run Tb N (k + 6) 45 [stD f B S, stD g C T] = .ok (stD (opF or f g) b p) ∧ Canon (opF or f g) b p ∧ b ≤ max B C ∧ p ≤ Nat.lcm S T := by
  obtain ⟨b1, b2, b3⟩ := h.bounds
  obtain ⟨qf, qg⟩ := h.per rfl
  have e := levelled_ok (N := N) (k := k) h hN
  rw [run_eq (fn := f_either) rfl rfl]
  unfold f_either
  obtain ⟨W, eW⟩ : ∃ W, W = Nat.lcm S T := ⟨_, rfl⟩
  obtain ⟨M, eM⟩ : ∃ M, M = max B C := ⟨_, rfl⟩
  simp only [← eW, ← eM] at e b1 b2 b3 qf qg ⊢
  obtain ⟨b, p, e2, r⟩ := least_of_bits_ok (N := N) (k := k + 3) (m := M + W) (qf.op or qg) b2 (Nat.le_refl _) (by omega) hN
  refine ⟨b, p, ?_, r⟩
  unfold bitsD at e e2
  try simp only [vE_var, vE_int, vE_bl, vE_non, vE_str, vE_cst, vE_bin, vE_cmp, vE_chain, vE_and, vE_or, vE_not, vE_neg, vE_ite, vE_isi, vE_tup, vE_lst, vE_lmul, vE_ix, vE_slice, vE_rev, vE_b1, vE_b2, vE_dm, vE_call, vE_call0, vE_comp, vEs_n, vEs_c, vO_n, vO_s, vC_n, vC_s, vI_1, vI_2, vI_3, vI_s, vI_z, vI_e, zR_l, zR_t, vS_asgT, vS_par, vS_app, vS_setIx, vS_aug, vS_ite, vS_whl, vS_for, vS_ret, vS_retN, vS_expr, vS_pass, aF_n, aF_r, uh_n, uh_c, ag_a, ag_s, cl_n, cl_c, List.getD_cons_zero, List.getD_cons_succ, R.ok_bind, R.exc_bind, R.bad_bind, R.pure_eq, List.length_cons, List.length_nil, List.map_cons, List.map_nil, List.cons_append, List.nil_append, List.replicate_succ, List.replicate_zero, List.set_cons_zero, List.set_cons_succ, Nat.reduceAdd, Nat.reduceSub, Nat.reduceEqDiff, Int.cast_ofNat_Int, Int.reduceEq, Int.reduceLT, Int.reduceLE, Int.reduceAdd, Int.reduceSub, Int.reduceMul, Int.reduceNeg, decide_true, decide_false, Bool.false_and, Bool.true_and, Bool.and_true, Bool.and_false, Bool.or_true, Bool.or_false, Bool.true_or, Bool.false_or, if_true, ite_true, ite_false, Bool.false_eq_true, reduceIte, Bool.not_true, Bool.not_false, asI_i, asB_b, asL_l, asL_t, asLst_l, dIs_int_none, dIs_int_bool, dIs_int_int, dIs_int_str, dIs_int_list, dIs_int_tuple, dIs_int_dict, dIs_bool_none, dIs_bool_bool, dIs_bool_int, dIs_bool_str, dIs_bool_list, dIs_bool_tuple, dIs_bool_dict, dIs_str_none, dIs_str_bool, dIs_str_int, dIs_str_str, dIs_str_list, dIs_str_tuple, dIs_str_dict, dIs_tuple_none, dIs_tuple_bool, dIs_tuple_int, dIs_tuple_str, dIs_tuple_list, dIs_tuple_tuple, dIs_tuple_dict, dIs_list_none, dIs_list_bool, dIs_list_int, dIs_list_str, dIs_list_list, dIs_list_tuple, dIs_list_dict, ad_i, ad_l, ad_t, ad_s, sb_i, mu_i, fd_i, md_i, pw_10_6, pw_10_9, pw_10_12, pw_10_18, pw_10_59, pw_10_60, c_lt, c_le, c_gt, c_ge, c_eq_i, c_ne_i, c_eq_b, c_ne_b, c_isN, c_inN, c_isB, c_inB, c_in, c_ni, b_len_l, b_len_t, b_len_s, b_int_i, b_int_b, b_tup_l, b_tup_t, b_lst_l, b_lst_t, b_abs, b2_max, b2_min, ix_l, ix_t, sl_l, sl_t, rv_l, rv_t, getS_z, getS_s, ne_ok, seq_n, seq_r, evSs_n, evSs_c, outR_r, outR_n, bT_n, bT_t, bTs_n, bTs_c, asS, e]
  rw [comp_zip (op := or) (by intro a b; cases a <;> cases b <;> rfl)]
  bv_omega
  rw [sized_ok (lt_size (by rw [bl_len, bitsF_len]; omega))]
  try simp only [vE_var, vE_int, vE_bl, vE_non, vE_str, vE_cst, vE_bin, vE_cmp, vE_chain, vE_and, vE_or, vE_not, vE_neg, vE_ite, vE_isi, vE_tup, vE_lst, vE_lmul, vE_ix, vE_slice, vE_rev, vE_b1, vE_b2, vE_dm, vE_call, vE_call0, vE_comp, vEs_n, vEs_c, vO_n, vO_s, vC_n, vC_s, vI_1, vI_2, vI_3, vI_s, vI_z, vI_e, zR_l, zR_t, vS_asgT, vS_par, vS_app, vS_setIx, vS_aug, vS_ite, vS_whl, vS_for, vS_ret, vS_retN, vS_expr, vS_pass, aF_n, aF_r, uh_n, uh_c, ag_a, ag_s, cl_n, cl_c, List.getD_cons_zero, List.getD_cons_succ, R.ok_bind, R.exc_bind, R.bad_bind, R.pure_eq, List.length_cons, List.length_nil, List.map_cons, List.map_nil, List.cons_append, List.nil_append, List.replicate_succ, List.replicate_zero, List.set_cons_zero, List.set_cons_succ, Nat.reduceAdd, Nat.reduceSub, Nat.reduceEqDiff, Int.cast_ofNat_Int, Int.reduceEq, Int.reduceLT, Int.reduceLE, Int.reduceAdd, Int.reduceSub, Int.reduceMul, Int.reduceNeg, decide_true, decide_false, Bool.false_and, Bool.true_and, Bool.and_true, Bool.and_false, Bool.or_true, Bool.or_false, Bool.true_or, Bool.false_or, if_true, ite_true, ite_false, Bool.false_eq_true, reduceIte, Bool.not_true, Bool.not_false, asI_i, asB_b, asL_l, asL_t, asLst_l, dIs_int_none, dIs_int_bool, dIs_int_int, dIs_int_str, dIs_int_list, dIs_int_tuple, dIs_int_dict, dIs_bool_none, dIs_bool_bool, dIs_bool_int, dIs_bool_str, dIs_bool_list, dIs_bool_tuple, dIs_bool_dict, dIs_str_none, dIs_str_bool, dIs_str_int, dIs_str_str, dIs_str_list, dIs_str_tuple, dIs_str_dict, dIs_tuple_none, dIs_tuple_bool, dIs_tuple_int, dIs_tuple_str, dIs_tuple_list, dIs_tuple_tuple, dIs_tuple_dict, dIs_list_none, dIs_list_bool, dIs_list_int, dIs_list_str, dIs_list_list, dIs_list_tuple, dIs_list_dict, ad_i, ad_l, ad_t, ad_s, sb_i, mu_i, fd_i, md_i, pw_10_6, pw_10_9, pw_10_12, pw_10_18, pw_10_59, pw_10_60, c_lt, c_le, c_gt, c_ge, c_eq_i, c_ne_i, c_eq_b, c_ne_b, c_isN, c_inN, c_isB, c_inB, c_in, c_ni, b_len_l, b_len_t, b_len_s, b_int_i, b_int_b, b_tup_l, b_tup_t, b_lst_l, b_lst_t, b_abs, b2_max, b2_min, ix_l, ix_t, sl_l, sl_t, rv_l, rv_t, getS_z, getS_s, ne_ok, seq_n, seq_r, evSs_n, evSs_c, outR_r, outR_n, bT_n, bT_t, bTs_n, bTs_c, asS, e2]
theorem less_ok (h : Pair f g B S C T) (hN : 1000000 ≤ N) : ∃ b p : Nat, run Tb N (k + 6) 46 [stD f B S, stD g C T] = .ok (stD (opF andN f g) b p) ∧ Canon (opF andN f g) b p ∧ b ≤ max B C ∧ p ≤ Nat.lcm S T := by
  obtain ⟨b1, b2, b3⟩ := h.bounds
  obtain ⟨qf, qg⟩ := h.per rfl
  have e := levelled_ok (N := N) (k := k) h hN
  rw [run_eq (fn := f_less) rfl rfl]
  unfold f_less
  obtain ⟨W, eW⟩ : ∃ W, W = Nat.lcm S T := ⟨_, rfl⟩
  obtain ⟨M, eM⟩ : ∃ M, M = max B C := ⟨_, rfl⟩
  simp only [← eW, ← eM] at e b1 b2 b3 qf qg ⊢
  obtain ⟨b, p, e2, r⟩ := least_of_bits_ok (N := N) (k := k + 3) (m := M + W) (qf.op andN qg) b2 (Nat.le_refl _) (by omega) hN
  refine ⟨b, p, ?_, r⟩
  unfold bitsD at e e2
  try simp only [vE_var, vE_int, vE_bl, vE_non, vE_str, vE_cst, vE_bin, vE_cmp, vE_chain, vE_and, vE_or, vE_not, vE_neg, vE_ite, vE_isi, vE_tup, vE_lst, vE_lmul, vE_ix, vE_slice, vE_rev, vE_b1, vE_b2, vE_dm, vE_call, vE_call0, vE_comp, vEs_n, vEs_c, vO_n, vO_s, vC_n, vC_s, vI_1, vI_2, vI_3, vI_s, vI_z, vI_e, zR_l, zR_t, vS_asgT, vS_par, vS_app, vS_setIx, vS_aug, vS_ite, vS_whl, vS_for, vS_ret, vS_retN, vS_expr, vS_pass, aF_n, aF_r, uh_n, uh_c, ag_a, ag_s, cl_n, cl_c, List.getD_cons_zero, List.getD_cons_succ, R.ok_bind, R.exc_bind, R.bad_bind, R.pure_eq, List.length_cons, List.length_nil, List.map_cons, List.map_nil, List.cons_append, List.nil_append, List.replicate_succ, List.replicate_zero, List.set_cons_zero, List.set_cons_succ, Nat.reduceAdd, Nat.reduceSub, Nat.reduceEqDiff, Int.cast_ofNat_Int, Int.reduceEq, Int.reduceLT, Int.reduceLE, Int.reduceAdd, Int.reduceSub, Int.reduceMul, Int.reduceNeg, decide_true, decide_false, Bool.false_and, Bool.true_and, Bool.and_true, Bool.and_false, Bool.or_true, Bool.or_false, Bool.true_or, Bool.false_or, if_true, ite_true, ite_false, Bool.false_eq_true, reduceIte, Bool.not_true, Bool.not_false, asI_i, asB_b, asL_l, asL_t, asLst_l, dIs_int_none, dIs_int_bool, dIs_int_int, dIs_int_str, dIs_int_list, dIs_int_tuple, dIs_int_dict, dIs_bool_none, dIs_bool_bool, dIs_bool_int, dIs_bool_str, dIs_bool_list, dIs_bool_tuple, dIs_bool_dict, dIs_str_none, dIs_str_bool, dIs_str_int, dIs_str_str, dIs_str_list, dIs_str_tuple, dIs_str_dict, dIs_tuple_none, dIs_tuple_bool, dIs_tuple_int, dIs_tuple_str, dIs_tuple_list, dIs_tuple_tuple, dIs_tuple_dict, dIs_list_none, dIs_list_bool, dIs_list_int, dIs_list_str, dIs_list_list, dIs_list_tuple, dIs_list_dict, ad_i, ad_l, ad_t, ad_s, sb_i, mu_i, fd_i, md_i, pw_10_6, pw_10_9, pw_10_12, pw_10_18, pw_10_59, pw_10_60, c_lt, c_le, c_gt, c_ge, c_eq_i, c_ne_i, c_eq_b, c_ne_b, c_isN, c_inN, c_isB, c_inB, c_in, c_ni, b_len_l, b_len_t, b_len_s, b_int_i, b_int_b, b_tup_l, b_tup_t, b_lst_l, b_lst_t, b_abs, b2_max, b2_min, ix_l, ix_t, sl_l, sl_t, rv_l, rv_t, getS_z, getS_s, ne_ok, seq_n, seq_r, evSs_n, evSs_c, outR_r, outR_n, bT_n, bT_t, bTs_n, bTs_c, asS, e]
  rw [comp_zip (op := andN) (by intro a b; cases a <;> cases b <;> rfl)]
  bv_omega
  rw [sized_ok (lt_size (by rw [bl_len, bitsF_len]; omega))]
  try simp only [vE_var, vE_int, vE_bl, vE_non, vE_str, vE_cst, vE_bin, vE_cmp, vE_chain, vE_and, vE_or, vE_not, vE_neg, vE_ite, vE_isi, vE_tup, vE_lst, vE_lmul, vE_ix, vE_slice, vE_rev, vE_b1, vE_b2, vE_dm, vE_call, vE_call0, vE_comp, vEs_n, vEs_c, vO_n, vO_s, vC_n, vC_s, vI_1, vI_2, vI_3, vI_s, vI_z, vI_e, zR_l, zR_t, vS_asgT, vS_par, vS_app, vS_setIx, vS_aug, vS_ite, vS_whl, vS_for, vS_ret, vS_retN, vS_expr, vS_pass, aF_n, aF_r, uh_n, uh_c, ag_a, ag_s, cl_n, cl_c, List.getD_cons_zero, List.getD_cons_succ, R.ok_bind, R.exc_bind, R.bad_bind, R.pure_eq, List.length_cons, List.length_nil, List.map_cons, List.map_nil, List.cons_append, List.nil_append, List.replicate_succ, List.replicate_zero, List.set_cons_zero, List.set_cons_succ, Nat.reduceAdd, Nat.reduceSub, Nat.reduceEqDiff, Int.cast_ofNat_Int, Int.reduceEq, Int.reduceLT, Int.reduceLE, Int.reduceAdd, Int.reduceSub, Int.reduceMul, Int.reduceNeg, decide_true, decide_false, Bool.false_and, Bool.true_and, Bool.and_true, Bool.and_false, Bool.or_true, Bool.or_false, Bool.true_or, Bool.false_or, if_true, ite_true, ite_false, Bool.false_eq_true, reduceIte, Bool.not_true, Bool.not_false, asI_i, asB_b, asL_l, asL_t, asLst_l, dIs_int_none, dIs_int_bool, dIs_int_int, dIs_int_str, dIs_int_list, dIs_int_tuple, dIs_int_dict, dIs_bool_none, dIs_bool_bool, dIs_bool_int, dIs_bool_str, dIs_bool_list, dIs_bool_tuple, dIs_bool_dict, dIs_str_none, dIs_str_bool, dIs_str_int, dIs_str_str, dIs_str_list, dIs_str_tuple, dIs_str_dict, dIs_tuple_none, dIs_tuple_bool, dIs_tuple_int, dIs_tuple_str, dIs_tuple_list, dIs_tuple_tuple, dIs_tuple_dict, dIs_list_none, dIs_list_bool, dIs_list_int, dIs_list_str, dIs_list_list, dIs_list_tuple, dIs_list_dict, ad_i, ad_l, ad_t, ad_s, sb_i, mu_i, fd_i, md_i, pw_10_6, pw_10_9, pw_10_12, pw_10_18, pw_10_59, pw_10_60, c_lt, c_le, c_gt, c_ge, c_eq_i, c_ne_i, c_eq_b, c_ne_b, c_isN, c_inN, c_isB, c_inB, c_in, c_ni, b_len_l, b_len_t, b_len_s, b_int_i, b_int_b, b_tup_l, b_tup_t, b_lst_l, b_lst_t, b_abs, b2_max, b2_min, ix_l, ix_t, sl_l, sl_t, rv_l, rv_t, getS_z, getS_s, ne_ok, seq_n, seq_r, evSs_n, evSs_c, outR_r, outR_n, bT_n, bT_t, bTs_n, bTs_c, asS, e2]
theorem law_right_ok (h : Pair f g B S C T) (hN : 1000000 ≤ N) : run Tb N (k + 7) 47 [stD f B S, stD g C T] = .ok (.bool true) := by
  obtain ⟨b1, b2, b3⟩ := h.bounds
  obtain ⟨qf, qg⟩ := h.per rfl
  obtain ⟨t, w1, w2⟩ := within_ok (N := N) (k := k) h hN
  obtain ⟨bb, bp, bo1, bo2, bo3, bo4⟩ := both_ok (N := N) (k := k) h hN
  obtain ⟨eb, ep, ei1, ei2, ei3, ei4⟩ := either_ok (N := N) (k := k) h hN
  obtain ⟨lb, lp, le1, le2, le3, le4⟩ := less_ok (N := N) (k := k) h hN
  have sf := law_stair_bits_ok (N := N) (k := k + 5) (m := max B C + Nat.lcm S T) h.pf h.s1 (by have := h.hB; have := h.hS; omega) (by omega)
  have sg := law_stair_bits_ok (N := N) (k := k + 5) (m := max B C + Nat.lcm S T) h.pg h.t1 (by have := h.hC; have := h.hT; omega) (by omega)
  obtain ⟨W, eW⟩ : ∃ W, W = Nat.lcm S T := ⟨_, rfl⟩
  obtain ⟨M, eM⟩ : ∃ M, M = max B C := ⟨_, rfl⟩
  rw [← eW] at sf sg b2 b3 qf qg bo4 ei4 le4
  rw [← eM] at sf sg b1 qf qg bo3 ei3 le3
  obtain ⟨b5, p5, q5, c5, _, _⟩ := law_least_ok (N := N) (k := k + 5) (m := M + W) (qf.op and qg) b2 (Nat.le_refl _) (by omega) hN
  obtain ⟨b6, p6, q6, c6, _, _⟩ := law_least_ok (N := N) (k := k + 5) (m := M + W) (qf.op or qg) b2 (Nat.le_refl _) (by omega) hN
  obtain ⟨b7, p7, q7, c7, _, _⟩ := law_least_ok (N := N) (k := k + 5) (m := M + W) (qf.op andN qg) b2 (Nat.le_refl _) (by omega) hN
  obtain ⟨rfl, rfl⟩ := bo2.uniq c5
  obtain ⟨rfl, rfl⟩ := ei2.uniq c6
  obtain ⟨rfl, rfl⟩ := le2.uniq c7
  have d1 := is_due_ok (N := N) (k := k + 2) (opF and f g) bb bp bo2.one (by omega)
  have d2 := is_due_ok (N := N) (k := k + 2) (opF or f g) eb ep ei2.one (by omega)
  have d3 := is_due_ok (N := N) (k := k + 2) (opF andN f g) lb lp le2.one (by omega)
  have ht : t = (bitsF (opF (fun a b => b || !a) f g) (M + W)).all id := by
    rw [Bool.eq_iff_iff, w2, bitsF_all]
    constructor
    · intro hs x _
      unfold opF
      cases q : f x with
      | false => simp
      | true => rw [hs x q]; rfl
    · intro hs
      have hz : opF (fun a b => b || !a) f g = fun _ => true := sq_agree (qf.op _ qg) (fun _ _ => rfl) b2 fun y hy => hs y hy
      intro x hx
      have hzx := congrFun hz x
      unfold opF at hzx
      rw [hx] at hzx
      cases q : g x with
      | true => rfl
      | false => rw [q] at hzx; cases hzx
  have hS := h.hS
  have hT := h.hT
  have s1 := h.s1
  unfold bitsD at sf sg q5 q6 q7
  rw [run_eq (fn := f_law_right_v1) rfl rfl]
  unfold f_law_right_v1
  try simp only [vE_var, vE_int, vE_bl, vE_non, vE_str, vE_cst, vE_bin, vE_cmp, vE_chain, vE_and, vE_or, vE_not, vE_neg, vE_ite, vE_isi, vE_tup, vE_lst, vE_lmul, vE_ix, vE_slice, vE_rev, vE_b1, vE_b2, vE_dm, vE_call, vE_call0, vE_comp, vEs_n, vEs_c, vO_n, vO_s, vC_n, vC_s, vI_1, vI_2, vI_3, vI_s, vI_z, vI_e, zR_l, zR_t, vS_asgT, vS_par, vS_app, vS_setIx, vS_aug, vS_ite, vS_whl, vS_for, vS_ret, vS_retN, vS_expr, vS_pass, aF_n, aF_r, uh_n, uh_c, ag_a, ag_s, cl_n, cl_c, List.getD_cons_zero, List.getD_cons_succ, R.ok_bind, R.exc_bind, R.bad_bind, R.pure_eq, List.length_cons, List.length_nil, List.map_cons, List.map_nil, List.cons_append, List.nil_append, List.replicate_succ, List.replicate_zero, List.set_cons_zero, List.set_cons_succ, Nat.reduceAdd, Nat.reduceSub, Nat.reduceEqDiff, Int.cast_ofNat_Int, Int.reduceEq, Int.reduceLT, Int.reduceLE, Int.reduceAdd, Int.reduceSub, Int.reduceMul, Int.reduceNeg, decide_true, decide_false, Bool.false_and, Bool.true_and, Bool.and_true, Bool.and_false, Bool.or_true, Bool.or_false, Bool.true_or, Bool.false_or, if_true, ite_true, ite_false, Bool.false_eq_true, reduceIte, Bool.not_true, Bool.not_false, asI_i, asB_b, asL_l, asL_t, asLst_l, dIs_int_none, dIs_int_bool, dIs_int_int, dIs_int_str, dIs_int_list, dIs_int_tuple, dIs_int_dict, dIs_bool_none, dIs_bool_bool, dIs_bool_int, dIs_bool_str, dIs_bool_list, dIs_bool_tuple, dIs_bool_dict, dIs_str_none, dIs_str_bool, dIs_str_int, dIs_str_str, dIs_str_list, dIs_str_tuple, dIs_str_dict, dIs_tuple_none, dIs_tuple_bool, dIs_tuple_int, dIs_tuple_str, dIs_tuple_list, dIs_tuple_tuple, dIs_tuple_dict, dIs_list_none, dIs_list_bool, dIs_list_int, dIs_list_str, dIs_list_list, dIs_list_tuple, dIs_list_dict, ad_i, ad_l, ad_t, ad_s, sb_i, mu_i, fd_i, md_i, pw_10_6, pw_10_9, pw_10_12, pw_10_18, pw_10_59, pw_10_60, c_lt, c_le, c_gt, c_ge, c_eq_i, c_ne_i, c_eq_b, c_ne_b, c_isN, c_inN, c_isB, c_inB, c_in, c_ni, b_len_l, b_len_t, b_len_s, b_int_i, b_int_b, b_tup_l, b_tup_t, b_lst_l, b_lst_t, b_abs, b2_max, b2_min, ix_l, ix_t, sl_l, sl_t, rv_l, rv_t, getS_z, getS_s, ne_ok, seq_n, seq_r, evSs_n, evSs_c, outR_r, outR_n, bT_n, bT_t, bTs_n, bTs_c, asS, stD_ix0, stD_ix1, max_nat]
  rw [mulOk_l (by omega)]
  try simp only [vE_var, vE_int, vE_bl, vE_non, vE_str, vE_cst, vE_bin, vE_cmp, vE_chain, vE_and, vE_or, vE_not, vE_neg, vE_ite, vE_isi, vE_tup, vE_lst, vE_lmul, vE_ix, vE_slice, vE_rev, vE_b1, vE_b2, vE_dm, vE_call, vE_call0, vE_comp, vEs_n, vEs_c, vO_n, vO_s, vC_n, vC_s, vI_1, vI_2, vI_3, vI_s, vI_z, vI_e, zR_l, zR_t, vS_asgT, vS_par, vS_app, vS_setIx, vS_aug, vS_ite, vS_whl, vS_for, vS_ret, vS_retN, vS_expr, vS_pass, aF_n, aF_r, uh_n, uh_c, ag_a, ag_s, cl_n, cl_c, List.getD_cons_zero, List.getD_cons_succ, R.ok_bind, R.exc_bind, R.bad_bind, R.pure_eq, List.length_cons, List.length_nil, List.map_cons, List.map_nil, List.cons_append, List.nil_append, List.replicate_succ, List.replicate_zero, List.set_cons_zero, List.set_cons_succ, Nat.reduceAdd, Nat.reduceSub, Nat.reduceEqDiff, Int.cast_ofNat_Int, Int.reduceEq, Int.reduceLT, Int.reduceLE, Int.reduceAdd, Int.reduceSub, Int.reduceMul, Int.reduceNeg, decide_true, decide_false, Bool.false_and, Bool.true_and, Bool.and_true, Bool.and_false, Bool.or_true, Bool.or_false, Bool.true_or, Bool.false_or, if_true, ite_true, ite_false, Bool.false_eq_true, reduceIte, Bool.not_true, Bool.not_false, asI_i, asB_b, asL_l, asL_t, asLst_l, dIs_int_none, dIs_int_bool, dIs_int_int, dIs_int_str, dIs_int_list, dIs_int_tuple, dIs_int_dict, dIs_bool_none, dIs_bool_bool, dIs_bool_int, dIs_bool_str, dIs_bool_list, dIs_bool_tuple, dIs_bool_dict, dIs_str_none, dIs_str_bool, dIs_str_int, dIs_str_str, dIs_str_list, dIs_str_tuple, dIs_str_dict, dIs_tuple_none, dIs_tuple_bool, dIs_tuple_int, dIs_tuple_str, dIs_tuple_list, dIs_tuple_tuple, dIs_tuple_dict, dIs_list_none, dIs_list_bool, dIs_list_int, dIs_list_str, dIs_list_list, dIs_list_tuple, dIs_list_dict, ad_i, ad_l, ad_t, ad_s, sb_i, mu_i, fd_i, md_i, pw_10_6, pw_10_9, pw_10_12, pw_10_18, pw_10_59, pw_10_60, c_lt, c_le, c_gt, c_ge, c_eq_i, c_ne_i, c_eq_b, c_ne_b, c_isN, c_inN, c_isB, c_inB, c_in, c_ni, b_len_l, b_len_t, b_len_s, b_int_i, b_int_b, b_tup_l, b_tup_t, b_lst_l, b_lst_t, b_abs, b2_max, b2_min, ix_l, ix_t, sl_l, sl_t, rv_l, rv_t, getS_z, getS_s, ne_ok, seq_n, seq_r, evSs_n, evSs_c, outR_r, outR_n, bT_n, bT_t, bTs_n, bTs_c, asS, law_shared_ok (N := N) (k := k + 5) S T (by omega)]
  rw [if_pos (gcd_log s1 hS), lcm_nat S T s1, ← eM, ← eW]
  bv_omega
  rw [show ((M + W : Nat) : Int) = (M : Int) + (W : Int) from rfl] at sf sg
  try simp only [vE_var, vE_int, vE_bl, vE_non, vE_str, vE_cst, vE_bin, vE_cmp, vE_chain, vE_and, vE_or, vE_not, vE_neg, vE_ite, vE_isi, vE_tup, vE_lst, vE_lmul, vE_ix, vE_slice, vE_rev, vE_b1, vE_b2, vE_dm, vE_call, vE_call0, vE_comp, vEs_n, vEs_c, vO_n, vO_s, vC_n, vC_s, vI_1, vI_2, vI_3, vI_s, vI_z, vI_e, zR_l, zR_t, vS_asgT, vS_par, vS_app, vS_setIx, vS_aug, vS_ite, vS_whl, vS_for, vS_ret, vS_retN, vS_expr, vS_pass, aF_n, aF_r, uh_n, uh_c, ag_a, ag_s, cl_n, cl_c, List.getD_cons_zero, List.getD_cons_succ, R.ok_bind, R.exc_bind, R.bad_bind, R.pure_eq, List.length_cons, List.length_nil, List.map_cons, List.map_nil, List.cons_append, List.nil_append, List.replicate_succ, List.replicate_zero, List.set_cons_zero, List.set_cons_succ, Nat.reduceAdd, Nat.reduceSub, Nat.reduceEqDiff, Int.cast_ofNat_Int, Int.reduceEq, Int.reduceLT, Int.reduceLE, Int.reduceAdd, Int.reduceSub, Int.reduceMul, Int.reduceNeg, decide_true, decide_false, Bool.false_and, Bool.true_and, Bool.and_true, Bool.and_false, Bool.or_true, Bool.or_false, Bool.true_or, Bool.false_or, if_true, ite_true, ite_false, Bool.false_eq_true, reduceIte, Bool.not_true, Bool.not_false, asI_i, asB_b, asL_l, asL_t, asLst_l, dIs_int_none, dIs_int_bool, dIs_int_int, dIs_int_str, dIs_int_list, dIs_int_tuple, dIs_int_dict, dIs_bool_none, dIs_bool_bool, dIs_bool_int, dIs_bool_str, dIs_bool_list, dIs_bool_tuple, dIs_bool_dict, dIs_str_none, dIs_str_bool, dIs_str_int, dIs_str_str, dIs_str_list, dIs_str_tuple, dIs_str_dict, dIs_tuple_none, dIs_tuple_bool, dIs_tuple_int, dIs_tuple_str, dIs_tuple_list, dIs_tuple_tuple, dIs_tuple_dict, dIs_list_none, dIs_list_bool, dIs_list_int, dIs_list_str, dIs_list_list, dIs_list_tuple, dIs_list_dict, ad_i, ad_l, ad_t, ad_s, sb_i, mu_i, fd_i, md_i, pw_10_6, pw_10_9, pw_10_12, pw_10_18, pw_10_59, pw_10_60, c_lt, c_le, c_gt, c_ge, c_eq_i, c_ne_i, c_eq_b, c_ne_b, c_isN, c_inN, c_isB, c_inB, c_in, c_ni, b_len_l, b_len_t, b_len_s, b_int_i, b_int_b, b_tup_l, b_tup_t, b_lst_l, b_lst_t, b_abs, b2_max, b2_min, ix_l, ix_t, sl_l, sl_t, rv_l, rv_t, getS_z, getS_s, ne_ok, seq_n, seq_r, evSs_n, evSs_c, outR_r, outR_n, bT_n, bT_t, bTs_n, bTs_c, asS, sf, sg, w1]
  rw [comp_zip (op := fun a b => b || !a) (by intro a b; cases a <;> cases b <;> rfl)]
  bv_omega
  rw [sized_ok (lt_size (by rw [bl_len, bitsF_len]; omega))]
  try simp only [vE_var, vE_int, vE_bl, vE_non, vE_str, vE_cst, vE_bin, vE_cmp, vE_chain, vE_and, vE_or, vE_not, vE_neg, vE_ite, vE_isi, vE_tup, vE_lst, vE_lmul, vE_ix, vE_slice, vE_rev, vE_b1, vE_b2, vE_dm, vE_call, vE_call0, vE_comp, vEs_n, vEs_c, vO_n, vO_s, vC_n, vC_s, vI_1, vI_2, vI_3, vI_s, vI_z, vI_e, zR_l, zR_t, vS_asgT, vS_par, vS_app, vS_setIx, vS_aug, vS_ite, vS_whl, vS_for, vS_ret, vS_retN, vS_expr, vS_pass, aF_n, aF_r, uh_n, uh_c, ag_a, ag_s, cl_n, cl_c, List.getD_cons_zero, List.getD_cons_succ, R.ok_bind, R.exc_bind, R.bad_bind, R.pure_eq, List.length_cons, List.length_nil, List.map_cons, List.map_nil, List.cons_append, List.nil_append, List.replicate_succ, List.replicate_zero, List.set_cons_zero, List.set_cons_succ, Nat.reduceAdd, Nat.reduceSub, Nat.reduceEqDiff, Int.cast_ofNat_Int, Int.reduceEq, Int.reduceLT, Int.reduceLE, Int.reduceAdd, Int.reduceSub, Int.reduceMul, Int.reduceNeg, decide_true, decide_false, Bool.false_and, Bool.true_and, Bool.and_true, Bool.and_false, Bool.or_true, Bool.or_false, Bool.true_or, Bool.false_or, if_true, ite_true, ite_false, Bool.false_eq_true, reduceIte, Bool.not_true, Bool.not_false, asI_i, asB_b, asL_l, asL_t, asLst_l, dIs_int_none, dIs_int_bool, dIs_int_int, dIs_int_str, dIs_int_list, dIs_int_tuple, dIs_int_dict, dIs_bool_none, dIs_bool_bool, dIs_bool_int, dIs_bool_str, dIs_bool_list, dIs_bool_tuple, dIs_bool_dict, dIs_str_none, dIs_str_bool, dIs_str_int, dIs_str_str, dIs_str_list, dIs_str_tuple, dIs_str_dict, dIs_tuple_none, dIs_tuple_bool, dIs_tuple_int, dIs_tuple_str, dIs_tuple_list, dIs_tuple_tuple, dIs_tuple_dict, dIs_list_none, dIs_list_bool, dIs_list_int, dIs_list_str, dIs_list_list, dIs_list_tuple, dIs_list_dict, ad_i, ad_l, ad_t, ad_s, sb_i, mu_i, fd_i, md_i, pw_10_6, pw_10_9, pw_10_12, pw_10_18, pw_10_59, pw_10_60, c_lt, c_le, c_gt, c_ge, c_eq_i, c_ne_i, c_eq_b, c_ne_b, c_isN, c_inN, c_isB, c_inB, c_in, c_ni, b_len_l, b_len_t, b_len_s, b_int_i, b_int_b, b_tup_l, b_tup_t, b_lst_l, b_lst_t, b_abs, b2_max, b2_min, ix_l, ix_t, sl_l, sl_t, rv_l, rv_t, getS_z, getS_s, ne_ok, seq_n, seq_r, evSs_n, evSs_c, outR_r, outR_n, bT_n, bT_t, bTs_n, bTs_c, asS, all_bools']
  rw [← ht, beq_self_eq_true]
  bv_omega
  rw [comp_zip (op := and) (by intro a b; cases a <;> cases b <;> rfl)]
  bv_omega
  rw [sized_ok (lt_size (by rw [bl_len, bitsF_len]; omega))]
  try simp only [vE_var, vE_int, vE_bl, vE_non, vE_str, vE_cst, vE_bin, vE_cmp, vE_chain, vE_and, vE_or, vE_not, vE_neg, vE_ite, vE_isi, vE_tup, vE_lst, vE_lmul, vE_ix, vE_slice, vE_rev, vE_b1, vE_b2, vE_dm, vE_call, vE_call0, vE_comp, vEs_n, vEs_c, vO_n, vO_s, vC_n, vC_s, vI_1, vI_2, vI_3, vI_s, vI_z, vI_e, zR_l, zR_t, vS_asgT, vS_par, vS_app, vS_setIx, vS_aug, vS_ite, vS_whl, vS_for, vS_ret, vS_retN, vS_expr, vS_pass, aF_n, aF_r, uh_n, uh_c, ag_a, ag_s, cl_n, cl_c, List.getD_cons_zero, List.getD_cons_succ, R.ok_bind, R.exc_bind, R.bad_bind, R.pure_eq, List.length_cons, List.length_nil, List.map_cons, List.map_nil, List.cons_append, List.nil_append, List.replicate_succ, List.replicate_zero, List.set_cons_zero, List.set_cons_succ, Nat.reduceAdd, Nat.reduceSub, Nat.reduceEqDiff, Int.cast_ofNat_Int, Int.reduceEq, Int.reduceLT, Int.reduceLE, Int.reduceAdd, Int.reduceSub, Int.reduceMul, Int.reduceNeg, decide_true, decide_false, Bool.false_and, Bool.true_and, Bool.and_true, Bool.and_false, Bool.or_true, Bool.or_false, Bool.true_or, Bool.false_or, if_true, ite_true, ite_false, Bool.false_eq_true, reduceIte, Bool.not_true, Bool.not_false, asI_i, asB_b, asL_l, asL_t, asLst_l, dIs_int_none, dIs_int_bool, dIs_int_int, dIs_int_str, dIs_int_list, dIs_int_tuple, dIs_int_dict, dIs_bool_none, dIs_bool_bool, dIs_bool_int, dIs_bool_str, dIs_bool_list, dIs_bool_tuple, dIs_bool_dict, dIs_str_none, dIs_str_bool, dIs_str_int, dIs_str_str, dIs_str_list, dIs_str_tuple, dIs_str_dict, dIs_tuple_none, dIs_tuple_bool, dIs_tuple_int, dIs_tuple_str, dIs_tuple_list, dIs_tuple_tuple, dIs_tuple_dict, dIs_list_none, dIs_list_bool, dIs_list_int, dIs_list_str, dIs_list_list, dIs_list_tuple, dIs_list_dict, ad_i, ad_l, ad_t, ad_s, sb_i, mu_i, fd_i, md_i, pw_10_6, pw_10_9, pw_10_12, pw_10_18, pw_10_59, pw_10_60, c_lt, c_le, c_gt, c_ge, c_eq_i, c_ne_i, c_eq_b, c_ne_b, c_isN, c_inN, c_isB, c_inB, c_in, c_ni, b_len_l, b_len_t, b_len_s, b_int_i, b_int_b, b_tup_l, b_tup_t, b_lst_l, b_lst_t, b_abs, b2_max, b2_min, ix_l, ix_t, sl_l, sl_t, rv_l, rv_t, getS_z, getS_s, ne_ok, seq_n, seq_r, evSs_n, evSs_c, outR_r, outR_n, bT_n, bT_t, bTs_n, bTs_c, asS, q5, bo1, d1]
  rw [comp_zip (op := or) (by intro a b; cases a <;> cases b <;> rfl)]
  bv_omega
  rw [sized_ok (lt_size (by rw [bl_len, bitsF_len]; omega))]
  try simp only [vE_var, vE_int, vE_bl, vE_non, vE_str, vE_cst, vE_bin, vE_cmp, vE_chain, vE_and, vE_or, vE_not, vE_neg, vE_ite, vE_isi, vE_tup, vE_lst, vE_lmul, vE_ix, vE_slice, vE_rev, vE_b1, vE_b2, vE_dm, vE_call, vE_call0, vE_comp, vEs_n, vEs_c, vO_n, vO_s, vC_n, vC_s, vI_1, vI_2, vI_3, vI_s, vI_z, vI_e, zR_l, zR_t, vS_asgT, vS_par, vS_app, vS_setIx, vS_aug, vS_ite, vS_whl, vS_for, vS_ret, vS_retN, vS_expr, vS_pass, aF_n, aF_r, uh_n, uh_c, ag_a, ag_s, cl_n, cl_c, List.getD_cons_zero, List.getD_cons_succ, R.ok_bind, R.exc_bind, R.bad_bind, R.pure_eq, List.length_cons, List.length_nil, List.map_cons, List.map_nil, List.cons_append, List.nil_append, List.replicate_succ, List.replicate_zero, List.set_cons_zero, List.set_cons_succ, Nat.reduceAdd, Nat.reduceSub, Nat.reduceEqDiff, Int.cast_ofNat_Int, Int.reduceEq, Int.reduceLT, Int.reduceLE, Int.reduceAdd, Int.reduceSub, Int.reduceMul, Int.reduceNeg, decide_true, decide_false, Bool.false_and, Bool.true_and, Bool.and_true, Bool.and_false, Bool.or_true, Bool.or_false, Bool.true_or, Bool.false_or, if_true, ite_true, ite_false, Bool.false_eq_true, reduceIte, Bool.not_true, Bool.not_false, asI_i, asB_b, asL_l, asL_t, asLst_l, dIs_int_none, dIs_int_bool, dIs_int_int, dIs_int_str, dIs_int_list, dIs_int_tuple, dIs_int_dict, dIs_bool_none, dIs_bool_bool, dIs_bool_int, dIs_bool_str, dIs_bool_list, dIs_bool_tuple, dIs_bool_dict, dIs_str_none, dIs_str_bool, dIs_str_int, dIs_str_str, dIs_str_list, dIs_str_tuple, dIs_str_dict, dIs_tuple_none, dIs_tuple_bool, dIs_tuple_int, dIs_tuple_str, dIs_tuple_list, dIs_tuple_tuple, dIs_tuple_dict, dIs_list_none, dIs_list_bool, dIs_list_int, dIs_list_str, dIs_list_list, dIs_list_tuple, dIs_list_dict, ad_i, ad_l, ad_t, ad_s, sb_i, mu_i, fd_i, md_i, pw_10_6, pw_10_9, pw_10_12, pw_10_18, pw_10_59, pw_10_60, c_lt, c_le, c_gt, c_ge, c_eq_i, c_ne_i, c_eq_b, c_ne_b, c_isN, c_inN, c_isB, c_inB, c_in, c_ni, b_len_l, b_len_t, b_len_s, b_int_i, b_int_b, b_tup_l, b_tup_t, b_lst_l, b_lst_t, b_abs, b2_max, b2_min, ix_l, ix_t, sl_l, sl_t, rv_l, rv_t, getS_z, getS_s, ne_ok, seq_n, seq_r, evSs_n, evSs_c, outR_r, outR_n, bT_n, bT_t, bTs_n, bTs_c, asS, q6, ei1, d2]
  rw [comp_zip (op := andN) (by intro a b; cases a <;> cases b <;> rfl)]
  bv_omega
  rw [sized_ok (lt_size (by rw [bl_len, bitsF_len]; omega))]
  try simp only [vE_var, vE_int, vE_bl, vE_non, vE_str, vE_cst, vE_bin, vE_cmp, vE_chain, vE_and, vE_or, vE_not, vE_neg, vE_ite, vE_isi, vE_tup, vE_lst, vE_lmul, vE_ix, vE_slice, vE_rev, vE_b1, vE_b2, vE_dm, vE_call, vE_call0, vE_comp, vEs_n, vEs_c, vO_n, vO_s, vC_n, vC_s, vI_1, vI_2, vI_3, vI_s, vI_z, vI_e, zR_l, zR_t, vS_asgT, vS_par, vS_app, vS_setIx, vS_aug, vS_ite, vS_whl, vS_for, vS_ret, vS_retN, vS_expr, vS_pass, aF_n, aF_r, uh_n, uh_c, ag_a, ag_s, cl_n, cl_c, List.getD_cons_zero, List.getD_cons_succ, R.ok_bind, R.exc_bind, R.bad_bind, R.pure_eq, List.length_cons, List.length_nil, List.map_cons, List.map_nil, List.cons_append, List.nil_append, List.replicate_succ, List.replicate_zero, List.set_cons_zero, List.set_cons_succ, Nat.reduceAdd, Nat.reduceSub, Nat.reduceEqDiff, Int.cast_ofNat_Int, Int.reduceEq, Int.reduceLT, Int.reduceLE, Int.reduceAdd, Int.reduceSub, Int.reduceMul, Int.reduceNeg, decide_true, decide_false, Bool.false_and, Bool.true_and, Bool.and_true, Bool.and_false, Bool.or_true, Bool.or_false, Bool.true_or, Bool.false_or, if_true, ite_true, ite_false, Bool.false_eq_true, reduceIte, Bool.not_true, Bool.not_false, asI_i, asB_b, asL_l, asL_t, asLst_l, dIs_int_none, dIs_int_bool, dIs_int_int, dIs_int_str, dIs_int_list, dIs_int_tuple, dIs_int_dict, dIs_bool_none, dIs_bool_bool, dIs_bool_int, dIs_bool_str, dIs_bool_list, dIs_bool_tuple, dIs_bool_dict, dIs_str_none, dIs_str_bool, dIs_str_int, dIs_str_str, dIs_str_list, dIs_str_tuple, dIs_str_dict, dIs_tuple_none, dIs_tuple_bool, dIs_tuple_int, dIs_tuple_str, dIs_tuple_list, dIs_tuple_tuple, dIs_tuple_dict, dIs_list_none, dIs_list_bool, dIs_list_int, dIs_list_str, dIs_list_list, dIs_list_tuple, dIs_list_dict, ad_i, ad_l, ad_t, ad_s, sb_i, mu_i, fd_i, md_i, pw_10_6, pw_10_9, pw_10_12, pw_10_18, pw_10_59, pw_10_60, c_lt, c_le, c_gt, c_ge, c_eq_i, c_ne_i, c_eq_b, c_ne_b, c_isN, c_inN, c_isB, c_inB, c_in, c_ni, b_len_l, b_len_t, b_len_s, b_int_i, b_int_b, b_tup_l, b_tup_t, b_lst_l, b_lst_t, b_abs, b2_max, b2_min, ix_l, ix_t, sl_l, sl_t, rv_l, rv_t, getS_z, getS_s, ne_ok, seq_n, seq_r, evSs_n, evSs_c, outR_r, outR_n, bT_n, bT_t, bTs_n, bTs_c, asS, q7, le1, d3]
end
/-- two stairs, drawn one by one -/
theorem two_some_ok (ns : List Int) (hN : 1000000 ≤ N) : ∃ (d1 d2 d : D), run Tb N (k + 4) 12 [.int (cellI ns 0), .int 999999937] = .ok d1 ∧ run Tb N (k + 4) 12 [.int (cellI ns 1), .int 999999929] = .ok d2 ∧ run Tb N (k + 4) 40 [d1, d2, .int (cellI ns 3), .int 999999883] = .ok d ∧ TwoD d := by
  obtain ⟨bs, B, S, e1, l1, h1, hS, hB⟩ := law_some_stair_ok (N := N) (k := k) (cellI ns 0) 999999937 (by decide)
  obtain ⟨bs2, C, T, e2, l2, t1, hT, hC⟩ := law_some_stair_ok (N := N) (k := k) (cellI ns 1) 999999929 (by decide)
  rw [stairOf_st l1] at e1
  rw [stairOf_st l2] at e2
  obtain ⟨dp, e3, td⟩ := law_pair_ok (N := N) (k := k + 1) (seqOf_per bs B S) (seqOf_per bs2 C T) h1 t1 hB hC hS hT hN (cellI ns 3) 999999883 (by decide)
  exact ⟨_, _, dp, e1, e2, e3, td⟩
theorem k06_run (hN : 1000000 ≤ N) (ns : List Int) : run Tb N 10 48 [.list (ns.map .int)] = .ok (.bool true) := by
  have c0 : run Tb N 9 3 [.list (ns.map .int), .int 0] = .ok (.int (cellI ns 0)) := law_cell_ok (k := 8) ns 0 (by decide)
  have c1 : run Tb N 9 3 [.list (ns.map .int), .int 1] = .ok (.int (cellI ns 1)) := law_cell_ok (k := 8) ns 1 (by decide)
  have c2 : run Tb N 9 3 [.list (ns.map .int), .int 2] = .ok (.int (cellI ns 2)) := law_cell_ok (k := 8) ns 2 (by decide)
  have c3 : run Tb N 9 3 [.list (ns.map .int), .int 3] = .ok (.int (cellI ns 3)) := law_cell_ok (k := 8) ns 3 (by decide)
  obtain ⟨x1, x2, dd, e1, e2, e3, f, g, B, S, C, T, rfl, hp⟩ := two_some_ok (N := N) (k := 5) ns hN
  have e1 : run Tb N 9 12 [.int (cellI ns 0), .int 999999937] = _ := e1
  have e2 : run Tb N 9 12 [.int (cellI ns 1), .int 999999929] = _ := e2
  have e3 : run Tb N 9 40 [x1, x2, .int (cellI ns 3), .int 999999883] = _ := e3
  obtain ⟨vs, d1, d2⟩ := law_draws_ok (N := N) (k := 7) (cellI ns 2) [4, 3001] 999999893 (by decide) (by decide) (by decide)
  have d1 : run Tb N 9 5 [.int (cellI ns 2), .list [.int 4, .int 3001], .int 999999893] = .ok (.list (vs.map .int)) := d1
  rw [run_eq (k := 9) (fn := f_law_v4) rfl rfl]
  unfold f_law_v4
  match vs, d2 with
  | [u, v], d2 =>
    obtain ⟨⟨u1, u2⟩, ⟨v1, v2⟩, _⟩ := d2
    obtain ⟨v, rfl⟩ : ∃ v' : Nat, v = (v' : Int) := ⟨v.toNat, by omega⟩
    have hB := hp.hB
    have hS := hp.hS
    have s1 := hp.s1
    try simp only [vE_var, vE_int, vE_bl, vE_non, vE_str, vE_cst, vE_bin, vE_cmp, vE_chain, vE_and, vE_or, vE_not, vE_neg, vE_ite, vE_isi, vE_tup, vE_lst, vE_lmul, vE_ix, vE_slice, vE_rev, vE_b1, vE_b2, vE_dm, vE_call, vE_call0, vE_comp, vEs_n, vEs_c, vO_n, vO_s, vC_n, vC_s, vI_1, vI_2, vI_3, vI_s, vI_z, vI_e, zR_l, zR_t, vS_asgT, vS_par, vS_app, vS_setIx, vS_aug, vS_ite, vS_whl, vS_for, vS_ret, vS_retN, vS_expr, vS_pass, aF_n, aF_r, uh_n, uh_c, ag_a, ag_s, cl_n, cl_c, List.getD_cons_zero, List.getD_cons_succ, R.ok_bind, R.exc_bind, R.bad_bind, R.pure_eq, List.length_cons, List.length_nil, List.map_cons, List.map_nil, List.cons_append, List.nil_append, List.replicate_succ, List.replicate_zero, List.set_cons_zero, List.set_cons_succ, Nat.reduceAdd, Nat.reduceSub, Nat.reduceEqDiff, Int.cast_ofNat_Int, Int.reduceEq, Int.reduceLT, Int.reduceLE, Int.reduceAdd, Int.reduceSub, Int.reduceMul, Int.reduceNeg, decide_true, decide_false, Bool.false_and, Bool.true_and, Bool.and_true, Bool.and_false, Bool.or_true, Bool.or_false, Bool.true_or, Bool.false_or, if_true, ite_true, ite_false, Bool.false_eq_true, reduceIte, Bool.not_true, Bool.not_false, asI_i, asB_b, asL_l, asL_t, asLst_l, dIs_int_none, dIs_int_bool, dIs_int_int, dIs_int_str, dIs_int_list, dIs_int_tuple, dIs_int_dict, dIs_bool_none, dIs_bool_bool, dIs_bool_int, dIs_bool_str, dIs_bool_list, dIs_bool_tuple, dIs_bool_dict, dIs_str_none, dIs_str_bool, dIs_str_int, dIs_str_str, dIs_str_list, dIs_str_tuple, dIs_str_dict, dIs_tuple_none, dIs_tuple_bool, dIs_tuple_int, dIs_tuple_str, dIs_tuple_list, dIs_tuple_tuple, dIs_tuple_dict, dIs_list_none, dIs_list_bool, dIs_list_int, dIs_list_str, dIs_list_list, dIs_list_tuple, dIs_list_dict, ad_i, ad_l, ad_t, ad_s, sb_i, mu_i, fd_i, md_i, pw_10_6, pw_10_9, pw_10_12, pw_10_18, pw_10_59, pw_10_60, c_lt, c_le, c_gt, c_ge, c_eq_i, c_ne_i, c_eq_b, c_ne_b, c_isN, c_inN, c_isB, c_inB, c_in, c_ni, b_len_l, b_len_t, b_len_s, b_int_i, b_int_b, b_tup_l, b_tup_t, b_lst_l, b_lst_t, b_abs, b2_max, b2_min, ix_l, ix_t, sl_l, sl_t, rv_l, rv_t, getS_z, getS_s, ne_ok, seq_n, seq_r, evSs_n, evSs_c, outR_r, outR_n, bT_n, bT_t, bTs_n, bTs_c, asS, c0, e1, c1, e2, c3, e3, c2]
    rw [sized_ok (lt_size (by simp))]
    try simp only [vE_var, vE_int, vE_bl, vE_non, vE_str, vE_cst, vE_bin, vE_cmp, vE_chain, vE_and, vE_or, vE_not, vE_neg, vE_ite, vE_isi, vE_tup, vE_lst, vE_lmul, vE_ix, vE_slice, vE_rev, vE_b1, vE_b2, vE_dm, vE_call, vE_call0, vE_comp, vEs_n, vEs_c, vO_n, vO_s, vC_n, vC_s, vI_1, vI_2, vI_3, vI_s, vI_z, vI_e, zR_l, zR_t, vS_asgT, vS_par, vS_app, vS_setIx, vS_aug, vS_ite, vS_whl, vS_for, vS_ret, vS_retN, vS_expr, vS_pass, aF_n, aF_r, uh_n, uh_c, ag_a, ag_s, cl_n, cl_c, List.getD_cons_zero, List.getD_cons_succ, R.ok_bind, R.exc_bind, R.bad_bind, R.pure_eq, List.length_cons, List.length_nil, List.map_cons, List.map_nil, List.cons_append, List.nil_append, List.replicate_succ, List.replicate_zero, List.set_cons_zero, List.set_cons_succ, Nat.reduceAdd, Nat.reduceSub, Nat.reduceEqDiff, Int.cast_ofNat_Int, Int.reduceEq, Int.reduceLT, Int.reduceLE, Int.reduceAdd, Int.reduceSub, Int.reduceMul, Int.reduceNeg, decide_true, decide_false, Bool.false_and, Bool.true_and, Bool.and_true, Bool.and_false, Bool.or_true, Bool.or_false, Bool.true_or, Bool.false_or, if_true, ite_true, ite_false, Bool.false_eq_true, reduceIte, Bool.not_true, Bool.not_false, asI_i, asB_b, asL_l, asL_t, asLst_l, dIs_int_none, dIs_int_bool, dIs_int_int, dIs_int_str, dIs_int_list, dIs_int_tuple, dIs_int_dict, dIs_bool_none, dIs_bool_bool, dIs_bool_int, dIs_bool_str, dIs_bool_list, dIs_bool_tuple, dIs_bool_dict, dIs_str_none, dIs_str_bool, dIs_str_int, dIs_str_str, dIs_str_list, dIs_str_tuple, dIs_str_dict, dIs_tuple_none, dIs_tuple_bool, dIs_tuple_int, dIs_tuple_str, dIs_tuple_list, dIs_tuple_tuple, dIs_tuple_dict, dIs_list_none, dIs_list_bool, dIs_list_int, dIs_list_str, dIs_list_list, dIs_list_tuple, dIs_list_dict, ad_i, ad_l, ad_t, ad_s, sb_i, mu_i, fd_i, md_i, pw_10_6, pw_10_9, pw_10_12, pw_10_18, pw_10_59, pw_10_60, c_lt, c_le, c_gt, c_ge, c_eq_i, c_ne_i, c_eq_b, c_ne_b, c_isN, c_inN, c_isB, c_inB, c_in, c_ni, b_len_l, b_len_t, b_len_s, b_int_i, b_int_b, b_tup_l, b_tup_t, b_lst_l, b_lst_t, b_abs, b2_max, b2_min, ix_l, ix_t, sl_l, sl_t, rv_l, rv_t, getS_z, getS_s, ne_ok, seq_n, seq_r, evSs_n, evSs_c, outR_r, outR_n, bT_n, bT_t, bTs_n, bTs_c, asS, d1, at0, ofO_s]
    by_cases hu : u = 0
    · simp only [hu, decide_true, if_true]
      try simp only [vE_var, vE_int, vE_bl, vE_non, vE_str, vE_cst, vE_bin, vE_cmp, vE_chain, vE_and, vE_or, vE_not, vE_neg, vE_ite, vE_isi, vE_tup, vE_lst, vE_lmul, vE_ix, vE_slice, vE_rev, vE_b1, vE_b2, vE_dm, vE_call, vE_call0, vE_comp, vEs_n, vEs_c, vO_n, vO_s, vC_n, vC_s, vI_1, vI_2, vI_3, vI_s, vI_z, vI_e, zR_l, zR_t, vS_asgT, vS_par, vS_app, vS_setIx, vS_aug, vS_ite, vS_whl, vS_for, vS_ret, vS_retN, vS_expr, vS_pass, aF_n, aF_r, uh_n, uh_c, ag_a, ag_s, cl_n, cl_c, List.getD_cons_zero, List.getD_cons_succ, R.ok_bind, R.exc_bind, R.bad_bind, R.pure_eq, List.length_cons, List.length_nil, List.map_cons, List.map_nil, List.cons_append, List.nil_append, List.replicate_succ, List.replicate_zero, List.set_cons_zero, List.set_cons_succ, Nat.reduceAdd, Nat.reduceSub, Nat.reduceEqDiff, Int.cast_ofNat_Int, Int.reduceEq, Int.reduceLT, Int.reduceLE, Int.reduceAdd, Int.reduceSub, Int.reduceMul, Int.reduceNeg, decide_true, decide_false, Bool.false_and, Bool.true_and, Bool.and_true, Bool.and_false, Bool.or_true, Bool.or_false, Bool.true_or, Bool.false_or, if_true, ite_true, ite_false, Bool.false_eq_true, reduceIte, Bool.not_true, Bool.not_false, asI_i, asB_b, asL_l, asL_t, asLst_l, dIs_int_none, dIs_int_bool, dIs_int_int, dIs_int_str, dIs_int_list, dIs_int_tuple, dIs_int_dict, dIs_bool_none, dIs_bool_bool, dIs_bool_int, dIs_bool_str, dIs_bool_list, dIs_bool_tuple, dIs_bool_dict, dIs_str_none, dIs_str_bool, dIs_str_int, dIs_str_str, dIs_str_list, dIs_str_tuple, dIs_str_dict, dIs_tuple_none, dIs_tuple_bool, dIs_tuple_int, dIs_tuple_str, dIs_tuple_list, dIs_tuple_tuple, dIs_tuple_dict, dIs_list_none, dIs_list_bool, dIs_list_int, dIs_list_str, dIs_list_list, dIs_list_tuple, dIs_list_dict, ad_i, ad_l, ad_t, ad_s, sb_i, mu_i, fd_i, md_i, pw_10_6, pw_10_9, pw_10_12, pw_10_18, pw_10_59, pw_10_60, c_lt, c_le, c_gt, c_ge, c_eq_i, c_ne_i, c_eq_b, c_ne_b, c_isN, c_inN, c_isB, c_inB, c_in, c_ni, b_len_l, b_len_t, b_len_s, b_int_i, b_int_b, b_tup_l, b_tup_t, b_lst_l, b_lst_t, b_abs, b2_max, b2_min, ix_l, ix_t, sl_l, sl_t, rv_l, rv_t, getS_z, getS_s, ne_ok, seq_n, seq_r, evSs_n, evSs_c, outR_r, outR_n, bT_n, bT_t, bTs_n, bTs_c, asS, stD_ix0, stD_ix1, at1, ofO_s]
      rw [mulOk_l (by omega)]
      bv_omega
      rw [show (2 : Int) * (S : Int) = ((2 * S : Nat) : Int) from rfl, if_pos (by omega)]
      bv_omega
      rw [show (B : Int) + ((2 * S : Nat) : Int) = ((B + 2 * S : Nat) : Int) from rfl, show (v : Int) % ((B + 2 * S : Nat) : Int) = ((v % (B + 2 * S) : Nat) : Int) from rfl]
      rw [show (if ((v % (B + 2 * S) : Nat) : Int) < 3000 then ((v % (B + 2 * S) : Nat) : Int) else 3000) = ((min 3000 (v % (B + 2 * S)) : Nat) : Int) from min_nat 3000 _, max_nat]
      obtain ⟨F, hF⟩ : ∃ F, F = max B (min 3000 (v % (B + 2 * S))) := ⟨_, rfl⟩
      rw [← hF]
      try simp only [vE_var, vE_int, vE_bl, vE_non, vE_str, vE_cst, vE_bin, vE_cmp, vE_chain, vE_and, vE_or, vE_not, vE_neg, vE_ite, vE_isi, vE_tup, vE_lst, vE_lmul, vE_ix, vE_slice, vE_rev, vE_b1, vE_b2, vE_dm, vE_call, vE_call0, vE_comp, vEs_n, vEs_c, vO_n, vO_s, vC_n, vC_s, vI_1, vI_2, vI_3, vI_s, vI_z, vI_e, zR_l, zR_t, vS_asgT, vS_par, vS_app, vS_setIx, vS_aug, vS_ite, vS_whl, vS_for, vS_ret, vS_retN, vS_expr, vS_pass, aF_n, aF_r, uh_n, uh_c, ag_a, ag_s, cl_n, cl_c, List.getD_cons_zero, List.getD_cons_succ, R.ok_bind, R.exc_bind, R.bad_bind, R.pure_eq, List.length_cons, List.length_nil, List.map_cons, List.map_nil, List.cons_append, List.nil_append, List.replicate_succ, List.replicate_zero, List.set_cons_zero, List.set_cons_succ, Nat.reduceAdd, Nat.reduceSub, Nat.reduceEqDiff, Int.cast_ofNat_Int, Int.reduceEq, Int.reduceLT, Int.reduceLE, Int.reduceAdd, Int.reduceSub, Int.reduceMul, Int.reduceNeg, decide_true, decide_false, Bool.false_and, Bool.true_and, Bool.and_true, Bool.and_false, Bool.or_true, Bool.or_false, Bool.true_or, Bool.false_or, if_true, ite_true, ite_false, Bool.false_eq_true, reduceIte, Bool.not_true, Bool.not_false, asI_i, asB_b, asL_l, asL_t, asLst_l, dIs_int_none, dIs_int_bool, dIs_int_int, dIs_int_str, dIs_int_list, dIs_int_tuple, dIs_int_dict, dIs_bool_none, dIs_bool_bool, dIs_bool_int, dIs_bool_str, dIs_bool_list, dIs_bool_tuple, dIs_bool_dict, dIs_str_none, dIs_str_bool, dIs_str_int, dIs_str_str, dIs_str_list, dIs_str_tuple, dIs_str_dict, dIs_tuple_none, dIs_tuple_bool, dIs_tuple_int, dIs_tuple_str, dIs_tuple_list, dIs_tuple_tuple, dIs_tuple_dict, dIs_list_none, dIs_list_bool, dIs_list_int, dIs_list_str, dIs_list_list, dIs_list_tuple, dIs_list_dict, ad_i, ad_l, ad_t, ad_s, sb_i, mu_i, fd_i, md_i, pw_10_6, pw_10_9, pw_10_12, pw_10_18, pw_10_59, pw_10_60, c_lt, c_le, c_gt, c_ge, c_eq_i, c_ne_i, c_eq_b, c_ne_b, c_isN, c_inN, c_isB, c_inB, c_in, c_ni, b_len_l, b_len_t, b_len_s, b_int_i, b_int_b, b_tup_l, b_tup_t, b_lst_l, b_lst_t, b_abs, b2_max, b2_min, ix_l, ix_t, sl_l, sl_t, rv_l, rv_t, getS_z, getS_s, ne_ok, seq_n, seq_r, evSs_n, evSs_c, outR_r, outR_n, bT_n, bT_t, bTs_n, bTs_c, asS, stD_ix1]
      rw [show (F : Int) + (S : Int) = ((F + S : Nat) : Int) from rfl, law_stair_bits_ok (k := 8) hp.pf s1 (by omega) (by omega)]
      try simp only [vE_var, vE_int, vE_bl, vE_non, vE_str, vE_cst, vE_bin, vE_cmp, vE_chain, vE_and, vE_or, vE_not, vE_neg, vE_ite, vE_isi, vE_tup, vE_lst, vE_lmul, vE_ix, vE_slice, vE_rev, vE_b1, vE_b2, vE_dm, vE_call, vE_call0, vE_comp, vEs_n, vEs_c, vO_n, vO_s, vC_n, vC_s, vI_1, vI_2, vI_3, vI_s, vI_z, vI_e, zR_l, zR_t, vS_asgT, vS_par, vS_app, vS_setIx, vS_aug, vS_ite, vS_whl, vS_for, vS_ret, vS_retN, vS_expr, vS_pass, aF_n, aF_r, uh_n, uh_c, ag_a, ag_s, cl_n, cl_c, List.getD_cons_zero, List.getD_cons_succ, R.ok_bind, R.exc_bind, R.bad_bind, R.pure_eq, List.length_cons, List.length_nil, List.map_cons, List.map_nil, List.cons_append, List.nil_append, List.replicate_succ, List.replicate_zero, List.set_cons_zero, List.set_cons_succ, Nat.reduceAdd, Nat.reduceSub, Nat.reduceEqDiff, Int.cast_ofNat_Int, Int.reduceEq, Int.reduceLT, Int.reduceLE, Int.reduceAdd, Int.reduceSub, Int.reduceMul, Int.reduceNeg, decide_true, decide_false, Bool.false_and, Bool.true_and, Bool.and_true, Bool.and_false, Bool.or_true, Bool.or_false, Bool.true_or, Bool.false_or, if_true, ite_true, ite_false, Bool.false_eq_true, reduceIte, Bool.not_true, Bool.not_false, asI_i, asB_b, asL_l, asL_t, asLst_l, dIs_int_none, dIs_int_bool, dIs_int_int, dIs_int_str, dIs_int_list, dIs_int_tuple, dIs_int_dict, dIs_bool_none, dIs_bool_bool, dIs_bool_int, dIs_bool_str, dIs_bool_list, dIs_bool_tuple, dIs_bool_dict, dIs_str_none, dIs_str_bool, dIs_str_int, dIs_str_str, dIs_str_list, dIs_str_tuple, dIs_str_dict, dIs_tuple_none, dIs_tuple_bool, dIs_tuple_int, dIs_tuple_str, dIs_tuple_list, dIs_tuple_tuple, dIs_tuple_dict, dIs_list_none, dIs_list_bool, dIs_list_int, dIs_list_str, dIs_list_list, dIs_list_tuple, dIs_list_dict, ad_i, ad_l, ad_t, ad_s, sb_i, mu_i, fd_i, md_i, pw_10_6, pw_10_9, pw_10_12, pw_10_18, pw_10_59, pw_10_60, c_lt, c_le, c_gt, c_ge, c_eq_i, c_ne_i, c_eq_b, c_ne_b, c_isN, c_inN, c_isB, c_inB, c_in, c_ni, b_len_l, b_len_t, b_len_s, b_int_i, b_int_b, b_tup_l, b_tup_t, b_lst_l, b_lst_t, b_abs, b2_max, b2_min, ix_l, ix_t, sl_l, sl_t, rv_l, rv_t, getS_z, getS_s, ne_ok, seq_n, seq_r, evSs_n, evSs_c, outR_r, outR_n, bT_n, bT_t, bTs_n, bTs_c, asS, at1, ofO_s]
      rw [if_pos (by omega)]
      bv_omega
      rw [show (v : Int) % ((F : Int) + 1) = ((v % (F + 1) : Nat) : Int) from rfl]
      have hn := Nat.mod_lt v (show F + 1 > 0 by omega)
      obtain ⟨n, hn2⟩ : ∃ n, n = v % (F + 1) := ⟨_, rfl⟩
      rw [← hn2] at hn ⊢
      rw [small62_of (by omega)]
      bv_omega
      unfold bitsD
      obtain ⟨e', l1, bs', o6, l2, l3⟩ := forL_rng (f := stepF ⟨run Tb N 9, N⟩ (.name 6) f_law_v4_b1) (lo := 0) (c := 1) (n := ((n : Int)).toNat) (e := [some (.list (ns.map .int)), some (stD f B S), some (stD g C T), some (.list [.int 0, .int (v : Int)]), some (.int (F : Int)), some (.list ((bitsF f (F + S)).map .bool)), none])
        (Inv := fun i e => ∃ (bs : List Bool) (o6 : Option D), e = [some (.list (ns.map .int)), some (stD f B S), some (stD g C T), some (.list [.int 0, .int (v : Int)]), some (.int (F : Int)), some (.list (bs.map .bool)), o6] ∧ bs.length = F + S)
        (fun i e hi ⟨bs, o6, he, hl⟩ => by
          subst he
          rw [stepF_eq, show (0 : Int) + (i : Int) * 1 = (i : Int) by omega]
          unfold f_law_v4_b1
          bv_omega
          rw [setAt_ok (by rw [bl_len]; omega), bools_set]
          bv_omega
          exact ⟨_, rfl, bs.set i false, _, rfl, by rw [List.length_set]; exact hl⟩)
        ⟨_, none, rfl, bitsF_len _ _⟩
      rw [l1, l2]
      have q := law_stair_of_ok (N := N) (k := 8) bs' F S (by omega) (by omega)
      unfold bitsD at q
      have hp2 : Pair f (seqOf bs' F S) B S F S := ⟨hp.pf, seqOf_per _ _ _, s1, s1, hB, by omega, hS, hS, by rw [Nat.lcm_self]; exact hS⟩
      try simp only [vE_var, vE_int, vE_bl, vE_non, vE_str, vE_cst, vE_bin, vE_cmp, vE_chain, vE_and, vE_or, vE_not, vE_neg, vE_ite, vE_isi, vE_tup, vE_lst, vE_lmul, vE_ix, vE_slice, vE_rev, vE_b1, vE_b2, vE_dm, vE_call, vE_call0, vE_comp, vEs_n, vEs_c, vO_n, vO_s, vC_n, vC_s, vI_1, vI_2, vI_3, vI_s, vI_z, vI_e, zR_l, zR_t, vS_asgT, vS_par, vS_app, vS_setIx, vS_aug, vS_ite, vS_whl, vS_for, vS_ret, vS_retN, vS_expr, vS_pass, aF_n, aF_r, uh_n, uh_c, ag_a, ag_s, cl_n, cl_c, List.getD_cons_zero, List.getD_cons_succ, R.ok_bind, R.exc_bind, R.bad_bind, R.pure_eq, List.length_cons, List.length_nil, List.map_cons, List.map_nil, List.cons_append, List.nil_append, List.replicate_succ, List.replicate_zero, List.set_cons_zero, List.set_cons_succ, Nat.reduceAdd, Nat.reduceSub, Nat.reduceEqDiff, Int.cast_ofNat_Int, Int.reduceEq, Int.reduceLT, Int.reduceLE, Int.reduceAdd, Int.reduceSub, Int.reduceMul, Int.reduceNeg, decide_true, decide_false, Bool.false_and, Bool.true_and, Bool.and_true, Bool.and_false, Bool.or_true, Bool.or_false, Bool.true_or, Bool.false_or, if_true, ite_true, ite_false, Bool.false_eq_true, reduceIte, Bool.not_true, Bool.not_false, asI_i, asB_b, asL_l, asL_t, asLst_l, dIs_int_none, dIs_int_bool, dIs_int_int, dIs_int_str, dIs_int_list, dIs_int_tuple, dIs_int_dict, dIs_bool_none, dIs_bool_bool, dIs_bool_int, dIs_bool_str, dIs_bool_list, dIs_bool_tuple, dIs_bool_dict, dIs_str_none, dIs_str_bool, dIs_str_int, dIs_str_str, dIs_str_list, dIs_str_tuple, dIs_str_dict, dIs_tuple_none, dIs_tuple_bool, dIs_tuple_int, dIs_tuple_str, dIs_tuple_list, dIs_tuple_tuple, dIs_tuple_dict, dIs_list_none, dIs_list_bool, dIs_list_int, dIs_list_str, dIs_list_list, dIs_list_tuple, dIs_list_dict, ad_i, ad_l, ad_t, ad_s, sb_i, mu_i, fd_i, md_i, pw_10_6, pw_10_9, pw_10_12, pw_10_18, pw_10_59, pw_10_60, c_lt, c_le, c_gt, c_ge, c_eq_i, c_ne_i, c_eq_b, c_ne_b, c_isN, c_inN, c_isB, c_inB, c_in, c_ni, b_len_l, b_len_t, b_len_s, b_int_i, b_int_b, b_tup_l, b_tup_t, b_lst_l, b_lst_t, b_abs, b2_max, b2_min, ix_l, ix_t, sl_l, sl_t, rv_l, rv_t, getS_z, getS_s, ne_ok, seq_n, seq_r, evSs_n, evSs_c, outR_r, outR_n, bT_n, bT_t, bTs_n, bTs_c, asS, stD_ix1, q, stairOf_st l3, law_right_ok (N := N) (k := 2) hp2 hN, law_right_ok (N := N) (k := 2) hp2.symm hN]
    · simp only [hu, decide_false]
      try simp only [vE_var, vE_int, vE_bl, vE_non, vE_str, vE_cst, vE_bin, vE_cmp, vE_chain, vE_and, vE_or, vE_not, vE_neg, vE_ite, vE_isi, vE_tup, vE_lst, vE_lmul, vE_ix, vE_slice, vE_rev, vE_b1, vE_b2, vE_dm, vE_call, vE_call0, vE_comp, vEs_n, vEs_c, vO_n, vO_s, vC_n, vC_s, vI_1, vI_2, vI_3, vI_s, vI_z, vI_e, zR_l, zR_t, vS_asgT, vS_par, vS_app, vS_setIx, vS_aug, vS_ite, vS_whl, vS_for, vS_ret, vS_retN, vS_expr, vS_pass, aF_n, aF_r, uh_n, uh_c, ag_a, ag_s, cl_n, cl_c, List.getD_cons_zero, List.getD_cons_succ, R.ok_bind, R.exc_bind, R.bad_bind, R.pure_eq, List.length_cons, List.length_nil, List.map_cons, List.map_nil, List.cons_append, List.nil_append, List.replicate_succ, List.replicate_zero, List.set_cons_zero, List.set_cons_succ, Nat.reduceAdd, Nat.reduceSub, Nat.reduceEqDiff, Int.cast_ofNat_Int, Int.reduceEq, Int.reduceLT, Int.reduceLE, Int.reduceAdd, Int.reduceSub, Int.reduceMul, Int.reduceNeg, decide_true, decide_false, Bool.false_and, Bool.true_and, Bool.and_true, Bool.and_false, Bool.or_true, Bool.or_false, Bool.true_or, Bool.false_or, if_true, ite_true, ite_false, Bool.false_eq_true, reduceIte, Bool.not_true, Bool.not_false, asI_i, asB_b, asL_l, asL_t, asLst_l, dIs_int_none, dIs_int_bool, dIs_int_int, dIs_int_str, dIs_int_list, dIs_int_tuple, dIs_int_dict, dIs_bool_none, dIs_bool_bool, dIs_bool_int, dIs_bool_str, dIs_bool_list, dIs_bool_tuple, dIs_bool_dict, dIs_str_none, dIs_str_bool, dIs_str_int, dIs_str_str, dIs_str_list, dIs_str_tuple, dIs_str_dict, dIs_tuple_none, dIs_tuple_bool, dIs_tuple_int, dIs_tuple_str, dIs_tuple_list, dIs_tuple_tuple, dIs_tuple_dict, dIs_list_none, dIs_list_bool, dIs_list_int, dIs_list_str, dIs_list_list, dIs_list_tuple, dIs_list_dict, ad_i, ad_l, ad_t, ad_s, sb_i, mu_i, fd_i, md_i, pw_10_6, pw_10_9, pw_10_12, pw_10_18, pw_10_59, pw_10_60, c_lt, c_le, c_gt, c_ge, c_eq_i, c_ne_i, c_eq_b, c_ne_b, c_isN, c_inN, c_isB, c_inB, c_in, c_ni, b_len_l, b_len_t, b_len_s, b_int_i, b_int_b, b_tup_l, b_tup_t, b_lst_l, b_lst_t, b_abs, b2_max, b2_min, ix_l, ix_t, sl_l, sl_t, rv_l, rv_t, getS_z, getS_s, ne_ok, seq_n, seq_r, evSs_n, evSs_c, outR_r, outR_n, bT_n, bT_t, bTs_n, bTs_c, asS, law_right_ok (N := N) (k := 2) hp hN, law_right_ok (N := N) (k := 2) hp.symm hN]
  | [], d2 => exact d2.elim
  | [_], d2 => exact d2.2.elim
  | _ :: _ :: _ :: _, d2 => exact d2.2.2.elim
theorem k06_go (ns : List Int) (hn : ns.length ≤ 63) : run Tb 1000000000 10 48 [.list (ns.map .int)] = .ok (.bool true) := k06_run (by decide) ns
end Ev
set_option Elab.async false
set_option linter.all false
set_option maxRecDepth 100000
set_option maxHeartbeats 4000000
namespace Ev
open PySem
local macro_rules | `(tactic| bv_omega) => `(tactic| try simp only [vE_var, vE_int, vE_bl, vE_non, vE_str, vE_cst, vE_bin, vE_cmp, vE_chain, vE_and, vE_or, vE_not, vE_neg, vE_ite, vE_isi, vE_tup, vE_lst, vE_lmul, vE_ix, vE_slice, vE_rev, vE_b1, vE_b2, vE_dm, vE_call, vE_call0, vE_comp, vEs_n, vEs_c, vO_n, vO_s, vC_n, vC_s, vI_1, vI_2, vI_3, vI_s, vI_z, vI_e, zR_l, zR_t, vS_asgT, vS_par, vS_app, vS_setIx, vS_aug, vS_ite, vS_whl, vS_for, vS_ret, vS_retN, vS_expr, vS_pass, aF_n, aF_r, uh_n, uh_c, ag_a, ag_s, cl_n, cl_c, List.getD_cons_zero, List.getD_cons_succ, R.ok_bind, R.exc_bind, R.bad_bind, R.pure_eq, List.length_cons, List.length_nil, List.map_cons, List.map_nil, List.cons_append, List.nil_append, List.replicate_succ, List.replicate_zero, List.set_cons_zero, List.set_cons_succ, Nat.reduceAdd, Nat.reduceSub, Nat.reduceEqDiff, Int.cast_ofNat_Int, Int.reduceEq, Int.reduceLT, Int.reduceLE, Int.reduceAdd, Int.reduceSub, Int.reduceMul, Int.reduceNeg, decide_true, decide_false, Bool.false_and, Bool.true_and, Bool.and_true, Bool.and_false, Bool.or_true, Bool.or_false, Bool.true_or, Bool.false_or, if_true, ite_true, ite_false, Bool.false_eq_true, reduceIte, Bool.not_true, Bool.not_false, asI_i, asB_b, asL_l, asL_t, asLst_l, dIs_int_none, dIs_int_bool, dIs_int_int, dIs_int_str, dIs_int_list, dIs_int_tuple, dIs_int_dict, dIs_bool_none, dIs_bool_bool, dIs_bool_int, dIs_bool_str, dIs_bool_list, dIs_bool_tuple, dIs_bool_dict, dIs_str_none, dIs_str_bool, dIs_str_int, dIs_str_str, dIs_str_list, dIs_str_tuple, dIs_str_dict, dIs_tuple_none, dIs_tuple_bool, dIs_tuple_int, dIs_tuple_str, dIs_tuple_list, dIs_tuple_tuple, dIs_tuple_dict, dIs_list_none, dIs_list_bool, dIs_list_int, dIs_list_str, dIs_list_list, dIs_list_tuple, dIs_list_dict, ad_i, ad_l, ad_t, ad_s, sb_i, mu_i, fd_i, md_i, pw_10_6, pw_10_9, pw_10_12, pw_10_18, pw_10_59, pw_10_60, c_lt, c_le, c_gt, c_ge, c_eq_i, c_ne_i, c_eq_b, c_ne_b, c_isN, c_inN, c_isB, c_inB, c_in, c_ni, b_len_l, b_len_t, b_len_s, b_int_i, b_int_b, b_tup_l, b_tup_t, b_lst_l, b_lst_t, b_abs, b2_max, b2_min, ix_l, ix_t, sl_l, sl_t, rv_l, rv_t, getS_z, getS_s, ne_ok, seq_n, seq_r, evSs_n, evSs_c, outR_r, outR_n, bT_n, bT_t, bTs_n, bTs_c, asS])
variable {N k : Nat}
/-! ### how many below x -/
def cnt (f : Sq) : Nat → Nat → Nat
  | _, 0 => 0
  | lo, n + 1 => (if f lo then 1 else 0) + cnt f (lo + 1) n
theorem onF_zero (f : Sq) (lo : Nat) : onF f lo 0 = [] := rfl
theorem onF_succ (f : Sq) (lo n : Nat) : onF f lo (n + 1) = if f lo then (lo : Int) :: onF f (lo + 1) n else onF f (lo + 1) n := by
  unfold onF
  rw [List.range_succ_eq_map, List.map_cons, List.map_map]
  have e : (List.range n).map ((fun i => f (lo + i)) ∘ Nat.succ) = (List.range n).map fun i => f (lo + 1 + i) := List.map_congr_left fun i _ => by
    show f (lo + (i + 1)) = f (lo + 1 + i)
    rw [show lo + (i + 1) = lo + 1 + i by omega]
  rw [e, Nat.add_zero]
  cases f lo <;> rfl
theorem onF_cnt (f : Sq) : ∀ (n lo : Nat), (onF f lo n).length = cnt f lo n
  | 0, _ => rfl
  | n + 1, lo => by
    rw [onF_succ, cnt]
    cases f lo with
    | false => rw [if_neg (by simp), if_neg (by simp), onF_cnt f n (lo + 1), Nat.zero_add]
    | true => rw [if_pos rfl, if_pos rfl, List.length_cons, onF_cnt f n (lo + 1), Nat.add_comm]
theorem cnt_add (f : Sq) : ∀ (a lo b : Nat), cnt f lo (a + b) = cnt f lo a + cnt f (lo + a) b
  | 0, lo, b => by rw [Nat.zero_add, cnt, Nat.zero_add, Nat.add_zero]
  | a + 1, lo, b => by rw [show a + 1 + b = (a + b) + 1 by omega, cnt, cnt, cnt_add f a (lo + 1) b, show lo + 1 + a = lo + (a + 1) by omega, Nat.add_assoc]
theorem cnt_congr {f g : Sq} : ∀ {n lo lo' : Nat}, (∀ i, i < n → f (lo + i) = g (lo' + i)) → cnt f lo n = cnt g lo' n
  | 0, _, _, _ => rfl
  | n + 1, lo, lo', h => by
    rw [cnt, cnt, cnt_congr (n := n) (lo := lo + 1) (lo' := lo' + 1) fun i hi => by
      have := h (i + 1) (by omega)
      rw [show lo + (i + 1) = lo + 1 + i by omega, show lo' + (i + 1) = lo' + 1 + i by omega] at this
      exact this]
    have := h 0 (by omega)
    rw [Nat.add_zero, Nat.add_zero] at this
    rw [this]
theorem cnt_rounds {f : Sq} {B S : Nat} (h : Per f B S) : ∀ (q r : Nat), cnt f B (S * q + r) = q * cnt f B S + cnt f B r
  | 0, r => by rw [Nat.mul_zero, Nat.zero_add, Nat.zero_mul, Nat.zero_add]
  | q + 1, r => by
    rw [show S * (q + 1) + r = S + (S * q + r) by rw [Nat.mul_succ]; omega, cnt_add, cnt_congr (f := f) (g := f) (lo := B + S) (lo' := B) (fun i _ => by rw [show B + S + i = B + i + S by omega]; exact h _ (by omega)), cnt_rounds h q r, Nat.succ_mul]
    omega
theorem onF_ge {f : Sq} {lo n : Nat} {x : Int} (h : x ∈ onF f lo n) : (lo : Int) ≤ x := (onF_lt x h).1
theorem onF_below (f : Sq) : ∀ (n lo j : Nat), ((onF f lo n).filter fun y => decide (y < ((lo + j : Nat) : Int))).length = cnt f lo (min n j)
  | 0, lo, j => by rw [onF_zero, Nat.zero_min]; rfl
  | n + 1, lo, 0 => by
    rw [Nat.min_zero, cnt, List.length_eq_zero_iff, List.filter_eq_nil_iff]
    intro x hx
    have := onF_ge hx
    rw [decide_eq_true_eq]
    omega
  | n + 1, lo, j + 1 => by
    have ih := onF_below f n (lo + 1) j
    rw [show lo + 1 + j = lo + (j + 1) by omega] at ih
    rw [Nat.succ_min_succ, onF_succ, cnt]
    cases f lo with
    | false => rw [if_neg (by simp), if_neg (by simp), Nat.zero_add, ih]
    | true => rw [if_pos rfl, if_pos rfl, List.filter_cons_of_pos (by rw [decide_eq_true_eq]; omega), List.length_cons, ih, Nat.add_comm]
theorem comp_lt {F : D → R (Option D)} {x : Int} (hF : ∀ y : Int, F (.int y) = .ok (if y < x then some (.int y) else none)) : ∀ ns : List Int, compL F (ns.map .int) = .ok ((ns.filter fun y => decide (y < x)).map .int)
  | [] => rfl
  | y :: ns => by
    rw [List.map_cons, compL, hF, comp_lt hF ns]
    by_cases h : y < x
    · rw [if_pos h, List.filter_cons_of_pos (by rw [decide_eq_true_eq]; exact h)]
      rfl
    · rw [if_neg h, List.filter_cons_of_neg (by rw [decide_eq_true_eq]; exact h)]
      rfl
theorem how_many_ok {f : Sq} {B S : Nat} (hS : Per f B S) (h1 : 1 ≤ S) (hB : B ≤ 3000) (hS2 : S ≤ 840) (x : Nat) (hx : x ≤ 1000000000) : run Tb N (k + 5) 19 [stD f B S, .int (x : Int)] = .ok (.int (cnt f 0 x : Nat)) := by
  rw [run_eq (fn := f_how_many) rfl rfl]
  unfold f_how_many
  have est : stD f B S = .tuple [.int B, .int S, .tuple ((onF f 0 B).map .int), .tuple ((onF f B S).map .int)] := rfl
  have hc := check_stair_ok (N := N) (k := k) f B S h1 hB hS2
  have l1 := onF_len f 0 B
  have l2 := onF_len f B S
  rw [est] at hc ⊢
  try simp only [vE_var, vE_int, vE_bl, vE_non, vE_str, vE_cst, vE_bin, vE_cmp, vE_chain, vE_and, vE_or, vE_not, vE_neg, vE_ite, vE_isi, vE_tup, vE_lst, vE_lmul, vE_ix, vE_slice, vE_rev, vE_b1, vE_b2, vE_dm, vE_call, vE_call0, vE_comp, vEs_n, vEs_c, vO_n, vO_s, vC_n, vC_s, vI_1, vI_2, vI_3, vI_s, vI_z, vI_e, zR_l, zR_t, vS_asgT, vS_par, vS_app, vS_setIx, vS_aug, vS_ite, vS_whl, vS_for, vS_ret, vS_retN, vS_expr, vS_pass, aF_n, aF_r, uh_n, uh_c, ag_a, ag_s, cl_n, cl_c, List.getD_cons_zero, List.getD_cons_succ, R.ok_bind, R.exc_bind, R.bad_bind, R.pure_eq, List.length_cons, List.length_nil, List.map_cons, List.map_nil, List.cons_append, List.nil_append, List.replicate_succ, List.replicate_zero, List.set_cons_zero, List.set_cons_succ, Nat.reduceAdd, Nat.reduceSub, Nat.reduceEqDiff, Int.cast_ofNat_Int, Int.reduceEq, Int.reduceLT, Int.reduceLE, Int.reduceAdd, Int.reduceSub, Int.reduceMul, Int.reduceNeg, decide_true, decide_false, Bool.false_and, Bool.true_and, Bool.and_true, Bool.and_false, Bool.or_true, Bool.or_false, Bool.true_or, Bool.false_or, if_true, ite_true, ite_false, Bool.false_eq_true, reduceIte, Bool.not_true, Bool.not_false, asI_i, asB_b, asL_l, asL_t, asLst_l, dIs_int_none, dIs_int_bool, dIs_int_int, dIs_int_str, dIs_int_list, dIs_int_tuple, dIs_int_dict, dIs_bool_none, dIs_bool_bool, dIs_bool_int, dIs_bool_str, dIs_bool_list, dIs_bool_tuple, dIs_bool_dict, dIs_str_none, dIs_str_bool, dIs_str_int, dIs_str_str, dIs_str_list, dIs_str_tuple, dIs_str_dict, dIs_tuple_none, dIs_tuple_bool, dIs_tuple_int, dIs_tuple_str, dIs_tuple_list, dIs_tuple_tuple, dIs_tuple_dict, dIs_list_none, dIs_list_bool, dIs_list_int, dIs_list_str, dIs_list_list, dIs_list_tuple, dIs_list_dict, ad_i, ad_l, ad_t, ad_s, sb_i, mu_i, fd_i, md_i, pw_10_6, pw_10_9, pw_10_12, pw_10_18, pw_10_59, pw_10_60, c_lt, c_le, c_gt, c_ge, c_eq_i, c_ne_i, c_eq_b, c_ne_b, c_isN, c_inN, c_isB, c_inB, c_in, c_ni, b_len_l, b_len_t, b_len_s, b_int_i, b_int_b, b_tup_l, b_tup_t, b_lst_l, b_lst_t, b_abs, b2_max, b2_min, ix_l, ix_t, sl_l, sl_t, rv_l, rv_t, getS_z, getS_s, ne_ok, seq_n, seq_r, evSs_n, evSs_c, outR_r, outR_n, bT_n, bT_t, bTs_n, bTs_c, asS, hc]
  by_cases hxB : (x : Int) ≤ (B : Int)
  · simp only [hxB, decide_true, if_true]
    bv_omega
    rw [comp_lt (x := (x : Int)) (by
      intro y
      rw [turnC_eq]
      bv_omega
      by_cases hy : y < (x : Int)
      · simp only [hy, decide_true, if_true]
      · simp only [hy, decide_false, if_false]
        bv_omega)]
    bv_omega
    have l3 := List.length_filter_le (fun y => decide (y < (x : Int))) (onF f 0 B)
    rw [sized_ok (lt_size (by rw [ints_len]; omega))]
    try simp only [vE_var, vE_int, vE_bl, vE_non, vE_str, vE_cst, vE_bin, vE_cmp, vE_chain, vE_and, vE_or, vE_not, vE_neg, vE_ite, vE_isi, vE_tup, vE_lst, vE_lmul, vE_ix, vE_slice, vE_rev, vE_b1, vE_b2, vE_dm, vE_call, vE_call0, vE_comp, vEs_n, vEs_c, vO_n, vO_s, vC_n, vC_s, vI_1, vI_2, vI_3, vI_s, vI_z, vI_e, zR_l, zR_t, vS_asgT, vS_par, vS_app, vS_setIx, vS_aug, vS_ite, vS_whl, vS_for, vS_ret, vS_retN, vS_expr, vS_pass, aF_n, aF_r, uh_n, uh_c, ag_a, ag_s, cl_n, cl_c, List.getD_cons_zero, List.getD_cons_succ, R.ok_bind, R.exc_bind, R.bad_bind, R.pure_eq, List.length_cons, List.length_nil, List.map_cons, List.map_nil, List.cons_append, List.nil_append, List.replicate_succ, List.replicate_zero, List.set_cons_zero, List.set_cons_succ, Nat.reduceAdd, Nat.reduceSub, Nat.reduceEqDiff, Int.cast_ofNat_Int, Int.reduceEq, Int.reduceLT, Int.reduceLE, Int.reduceAdd, Int.reduceSub, Int.reduceMul, Int.reduceNeg, decide_true, decide_false, Bool.false_and, Bool.true_and, Bool.and_true, Bool.and_false, Bool.or_true, Bool.or_false, Bool.true_or, Bool.false_or, if_true, ite_true, ite_false, Bool.false_eq_true, reduceIte, Bool.not_true, Bool.not_false, asI_i, asB_b, asL_l, asL_t, asLst_l, dIs_int_none, dIs_int_bool, dIs_int_int, dIs_int_str, dIs_int_list, dIs_int_tuple, dIs_int_dict, dIs_bool_none, dIs_bool_bool, dIs_bool_int, dIs_bool_str, dIs_bool_list, dIs_bool_tuple, dIs_bool_dict, dIs_str_none, dIs_str_bool, dIs_str_int, dIs_str_str, dIs_str_list, dIs_str_tuple, dIs_str_dict, dIs_tuple_none, dIs_tuple_bool, dIs_tuple_int, dIs_tuple_str, dIs_tuple_list, dIs_tuple_tuple, dIs_tuple_dict, dIs_list_none, dIs_list_bool, dIs_list_int, dIs_list_str, dIs_list_list, dIs_list_tuple, dIs_list_dict, ad_i, ad_l, ad_t, ad_s, sb_i, mu_i, fd_i, md_i, pw_10_6, pw_10_9, pw_10_12, pw_10_18, pw_10_59, pw_10_60, c_lt, c_le, c_gt, c_ge, c_eq_i, c_ne_i, c_eq_b, c_ne_b, c_isN, c_inN, c_isB, c_inB, c_in, c_ni, b_len_l, b_len_t, b_len_s, b_int_i, b_int_b, b_tup_l, b_tup_t, b_lst_l, b_lst_t, b_abs, b2_max, b2_min, ix_l, ix_t, sl_l, sl_t, rv_l, rv_t, getS_z, getS_s, ne_ok, seq_n, seq_r, evSs_n, evSs_c, outR_r, outR_n, bT_n, bT_t, bTs_n, bTs_c, asS, ints_len]
    have e := onF_below f B 0 x
    rw [Nat.zero_add] at e
    rw [e, show min B x = x by omega]
  · simp only [hxB, decide_false]
    bv_omega
    obtain ⟨q, hq⟩ : ∃ q, q = (x - B) / S := ⟨_, rfl⟩
    obtain ⟨r, hr⟩ : ∃ r, r = (x - B) % S := ⟨_, rfl⟩
    have hrS : r < S := by rw [hr]; exact Nat.mod_lt _ (by omega)
    have hx2 : x = B + (S * q + r) := by have := Nat.div_add_mod (x - B) S; rw [← hq, ← hr] at this; omega
    rw [if_pos ⟨by omega, small30_ok (by omega)⟩]
    bv_omega
    rw [show (x : Int) - (B : Int) = ((x - B : Nat) : Int) by omega, show ((x - B : Nat) : Int) / (S : Int) = (q : Int) by rw [hq]; rfl, show ((x - B : Nat) : Int) % (S : Int) = (r : Int) by rw [hr]; rfl]
    try simp only [vE_var, vE_int, vE_bl, vE_non, vE_str, vE_cst, vE_bin, vE_cmp, vE_chain, vE_and, vE_or, vE_not, vE_neg, vE_ite, vE_isi, vE_tup, vE_lst, vE_lmul, vE_ix, vE_slice, vE_rev, vE_b1, vE_b2, vE_dm, vE_call, vE_call0, vE_comp, vEs_n, vEs_c, vO_n, vO_s, vC_n, vC_s, vI_1, vI_2, vI_3, vI_s, vI_z, vI_e, zR_l, zR_t, vS_asgT, vS_par, vS_app, vS_setIx, vS_aug, vS_ite, vS_whl, vS_for, vS_ret, vS_retN, vS_expr, vS_pass, aF_n, aF_r, uh_n, uh_c, ag_a, ag_s, cl_n, cl_c, List.getD_cons_zero, List.getD_cons_succ, R.ok_bind, R.exc_bind, R.bad_bind, R.pure_eq, List.length_cons, List.length_nil, List.map_cons, List.map_nil, List.cons_append, List.nil_append, List.replicate_succ, List.replicate_zero, List.set_cons_zero, List.set_cons_succ, Nat.reduceAdd, Nat.reduceSub, Nat.reduceEqDiff, Int.cast_ofNat_Int, Int.reduceEq, Int.reduceLT, Int.reduceLE, Int.reduceAdd, Int.reduceSub, Int.reduceMul, Int.reduceNeg, decide_true, decide_false, Bool.false_and, Bool.true_and, Bool.and_true, Bool.and_false, Bool.or_true, Bool.or_false, Bool.true_or, Bool.false_or, if_true, ite_true, ite_false, Bool.false_eq_true, reduceIte, Bool.not_true, Bool.not_false, asI_i, asB_b, asL_l, asL_t, asLst_l, dIs_int_none, dIs_int_bool, dIs_int_int, dIs_int_str, dIs_int_list, dIs_int_tuple, dIs_int_dict, dIs_bool_none, dIs_bool_bool, dIs_bool_int, dIs_bool_str, dIs_bool_list, dIs_bool_tuple, dIs_bool_dict, dIs_str_none, dIs_str_bool, dIs_str_int, dIs_str_str, dIs_str_list, dIs_str_tuple, dIs_str_dict, dIs_tuple_none, dIs_tuple_bool, dIs_tuple_int, dIs_tuple_str, dIs_tuple_list, dIs_tuple_tuple, dIs_tuple_dict, dIs_list_none, dIs_list_bool, dIs_list_int, dIs_list_str, dIs_list_list, dIs_list_tuple, dIs_list_dict, ad_i, ad_l, ad_t, ad_s, sb_i, mu_i, fd_i, md_i, pw_10_6, pw_10_9, pw_10_12, pw_10_18, pw_10_59, pw_10_60, c_lt, c_le, c_gt, c_ge, c_eq_i, c_ne_i, c_eq_b, c_ne_b, c_isN, c_inN, c_isB, c_inB, c_in, c_ni, b_len_l, b_len_t, b_len_s, b_int_i, b_int_b, b_tup_l, b_tup_t, b_lst_l, b_lst_t, b_abs, b2_max, b2_min, ix_l, ix_t, sl_l, sl_t, rv_l, rv_t, getS_z, getS_s, ne_ok, seq_n, seq_r, evSs_n, evSs_c, outR_r, outR_n, bT_n, bT_t, bTs_n, bTs_c, asS, ints_len]
    rw [mulOk_r (by omega)]
    bv_omega
    rw [comp_lt (x := ((B + r : Nat) : Int)) (by
      intro y
      rw [turnC_eq]
      bv_omega
      rw [show (B : Int) + (r : Int) = ((B + r : Nat) : Int) from rfl]
      by_cases hy : y < ((B + r : Nat) : Int)
      · simp only [hy, decide_true, if_true]
      · simp only [hy, decide_false, if_false]
        bv_omega)]
    bv_omega
    have l3 := List.length_filter_le (fun y => decide (y < ((B + r : Nat) : Int))) (onF f B S)
    rw [sized_ok (lt_size (by rw [ints_len]; omega))]
    try simp only [vE_var, vE_int, vE_bl, vE_non, vE_str, vE_cst, vE_bin, vE_cmp, vE_chain, vE_and, vE_or, vE_not, vE_neg, vE_ite, vE_isi, vE_tup, vE_lst, vE_lmul, vE_ix, vE_slice, vE_rev, vE_b1, vE_b2, vE_dm, vE_call, vE_call0, vE_comp, vEs_n, vEs_c, vO_n, vO_s, vC_n, vC_s, vI_1, vI_2, vI_3, vI_s, vI_z, vI_e, zR_l, zR_t, vS_asgT, vS_par, vS_app, vS_setIx, vS_aug, vS_ite, vS_whl, vS_for, vS_ret, vS_retN, vS_expr, vS_pass, aF_n, aF_r, uh_n, uh_c, ag_a, ag_s, cl_n, cl_c, List.getD_cons_zero, List.getD_cons_succ, R.ok_bind, R.exc_bind, R.bad_bind, R.pure_eq, List.length_cons, List.length_nil, List.map_cons, List.map_nil, List.cons_append, List.nil_append, List.replicate_succ, List.replicate_zero, List.set_cons_zero, List.set_cons_succ, Nat.reduceAdd, Nat.reduceSub, Nat.reduceEqDiff, Int.cast_ofNat_Int, Int.reduceEq, Int.reduceLT, Int.reduceLE, Int.reduceAdd, Int.reduceSub, Int.reduceMul, Int.reduceNeg, decide_true, decide_false, Bool.false_and, Bool.true_and, Bool.and_true, Bool.and_false, Bool.or_true, Bool.or_false, Bool.true_or, Bool.false_or, if_true, ite_true, ite_false, Bool.false_eq_true, reduceIte, Bool.not_true, Bool.not_false, asI_i, asB_b, asL_l, asL_t, asLst_l, dIs_int_none, dIs_int_bool, dIs_int_int, dIs_int_str, dIs_int_list, dIs_int_tuple, dIs_int_dict, dIs_bool_none, dIs_bool_bool, dIs_bool_int, dIs_bool_str, dIs_bool_list, dIs_bool_tuple, dIs_bool_dict, dIs_str_none, dIs_str_bool, dIs_str_int, dIs_str_str, dIs_str_list, dIs_str_tuple, dIs_str_dict, dIs_tuple_none, dIs_tuple_bool, dIs_tuple_int, dIs_tuple_str, dIs_tuple_list, dIs_tuple_tuple, dIs_tuple_dict, dIs_list_none, dIs_list_bool, dIs_list_int, dIs_list_str, dIs_list_list, dIs_list_tuple, dIs_list_dict, ad_i, ad_l, ad_t, ad_s, sb_i, mu_i, fd_i, md_i, pw_10_6, pw_10_9, pw_10_12, pw_10_18, pw_10_59, pw_10_60, c_lt, c_le, c_gt, c_ge, c_eq_i, c_ne_i, c_eq_b, c_ne_b, c_isN, c_inN, c_isB, c_inB, c_in, c_ni, b_len_l, b_len_t, b_len_s, b_int_i, b_int_b, b_tup_l, b_tup_t, b_lst_l, b_lst_t, b_abs, b2_max, b2_min, ix_l, ix_t, sl_l, sl_t, rv_l, rv_t, getS_z, getS_s, ne_ok, seq_n, seq_r, evSs_n, evSs_c, outR_r, outR_n, bT_n, bT_t, bTs_n, bTs_c, asS, ints_len]
    rw [onF_below f S B r, onF_cnt, onF_cnt, show min S r = r by omega, hx2, cnt_add, Nat.zero_add, cnt_rounds hS]
    rw [Int.natCast_add, Int.natCast_add, Int.natCast_mul, Int.add_assoc]
theorem cnt_two (f g : Sq) : ∀ (n lo : Nat), cnt f lo n + cnt g lo n = cnt (opF and f g) lo n + cnt (opF or f g) lo n
  | 0, _ => rfl
  | n + 1, lo => by
    have ih := cnt_two f g n (lo + 1)
    have e1 : opF and f g lo = (f lo && g lo) := rfl
    have e2 : opF or f g lo = (f lo || g lo) := rfl
    rw [cnt, cnt, cnt, cnt, e1, e2]
    cases f lo <;> cases g lo <;> simp <;> omega
/-! ### the rest -/
def notF (f : Sq) : Sq := fun x => !f x
theorem Per.not {f : Sq} {B S : Nat} (h : Per f B S) : Per (notF f) B S := fun x hx => by unfold notF; rw [h x hx]
theorem notF_notF (f : Sq) : notF (notF f) = f := by funext x; unfold notF; rw [Bool.not_not]
theorem comp_not {F : D → R (Option D)} (hF : ∀ b, F (.bool b) = .ok (some (.bool (!b)))) (f : Sq) (m : Nat) : compL F ((bitsF f m).map .bool) = .ok ((bitsF (notF f) m).map .bool) := by
  rw [compL_map (g := fun d => match d with | .bool b => .bool (!b) | _ => d)]
  · unfold bitsF
    rw [List.map_map, List.map_map, List.map_map]
    rfl
  · intro d hd
    obtain ⟨b, _, rfl⟩ := List.mem_map.mp hd
    exact hF b
theorem rest_of_ok {f : Sq} {B S : Nat} (hS : Per f B S) (h1 : 1 ≤ S) (hB : B ≤ 3000) (hS2 : S ≤ 840) (hN : 1000000 ≤ N) : ∃ b p : Nat, run Tb N (k + 5) 49 [stD f B S] = .ok (stD (notF f) b p) ∧ Canon (notF f) b p ∧ b ≤ B ∧ p ≤ S := by
  obtain ⟨b, p, e2, r⟩ := least_of_bits_ok (N := N) (k := k + 2) (m := B + S) hS.not h1 (Nat.le_refl _) (by omega) hN
  refine ⟨b, p, ?_, r⟩
  rw [run_eq (fn := f_rest_of) rfl rfl]
  unfold f_rest_of
  have est : stD f B S = .tuple [.int B, .int S, .tuple ((onF f 0 B).map .int), .tuple ((onF f B S).map .int)] := rfl
  have sl : dSlice (stD f B S) none (some 2) = .ok (.tuple [.int B, .int S]) := by rw [est, sl_t, cut2]
  have hb := bits_of_ok (N := N) (k := k + 3) (m := B + S) hS h1 (by omega) (by omega) (by omega)
  unfold bitsD at e2 hb
  try simp only [vE_var, vE_int, vE_bl, vE_non, vE_str, vE_cst, vE_bin, vE_cmp, vE_chain, vE_and, vE_or, vE_not, vE_neg, vE_ite, vE_isi, vE_tup, vE_lst, vE_lmul, vE_ix, vE_slice, vE_rev, vE_b1, vE_b2, vE_dm, vE_call, vE_call0, vE_comp, vEs_n, vEs_c, vO_n, vO_s, vC_n, vC_s, vI_1, vI_2, vI_3, vI_s, vI_z, vI_e, zR_l, zR_t, vS_asgT, vS_par, vS_app, vS_setIx, vS_aug, vS_ite, vS_whl, vS_for, vS_ret, vS_retN, vS_expr, vS_pass, aF_n, aF_r, uh_n, uh_c, ag_a, ag_s, cl_n, cl_c, List.getD_cons_zero, List.getD_cons_succ, R.ok_bind, R.exc_bind, R.bad_bind, R.pure_eq, List.length_cons, List.length_nil, List.map_cons, List.map_nil, List.cons_append, List.nil_append, List.replicate_succ, List.replicate_zero, List.set_cons_zero, List.set_cons_succ, Nat.reduceAdd, Nat.reduceSub, Nat.reduceEqDiff, Int.cast_ofNat_Int, Int.reduceEq, Int.reduceLT, Int.reduceLE, Int.reduceAdd, Int.reduceSub, Int.reduceMul, Int.reduceNeg, decide_true, decide_false, Bool.false_and, Bool.true_and, Bool.and_true, Bool.and_false, Bool.or_true, Bool.or_false, Bool.true_or, Bool.false_or, if_true, ite_true, ite_false, Bool.false_eq_true, reduceIte, Bool.not_true, Bool.not_false, asI_i, asB_b, asL_l, asL_t, asLst_l, dIs_int_none, dIs_int_bool, dIs_int_int, dIs_int_str, dIs_int_list, dIs_int_tuple, dIs_int_dict, dIs_bool_none, dIs_bool_bool, dIs_bool_int, dIs_bool_str, dIs_bool_list, dIs_bool_tuple, dIs_bool_dict, dIs_str_none, dIs_str_bool, dIs_str_int, dIs_str_str, dIs_str_list, dIs_str_tuple, dIs_str_dict, dIs_tuple_none, dIs_tuple_bool, dIs_tuple_int, dIs_tuple_str, dIs_tuple_list, dIs_tuple_tuple, dIs_tuple_dict, dIs_list_none, dIs_list_bool, dIs_list_int, dIs_list_str, dIs_list_list, dIs_list_tuple, dIs_list_dict, ad_i, ad_l, ad_t, ad_s, sb_i, mu_i, fd_i, md_i, pw_10_6, pw_10_9, pw_10_12, pw_10_18, pw_10_59, pw_10_60, c_lt, c_le, c_gt, c_ge, c_eq_i, c_ne_i, c_eq_b, c_ne_b, c_isN, c_inN, c_isB, c_inB, c_in, c_ni, b_len_l, b_len_t, b_len_s, b_int_i, b_int_b, b_tup_l, b_tup_t, b_lst_l, b_lst_t, b_abs, b2_max, b2_min, ix_l, ix_t, sl_l, sl_t, rv_l, rv_t, getS_z, getS_s, ne_ok, seq_n, seq_r, evSs_n, evSs_c, outR_r, outR_n, bT_n, bT_t, bTs_n, bTs_c, asS, check_stair_ok f B S h1 hB hS2, sl]
  rw [show (B : Int) + (S : Int) = ((B + S : Nat) : Int) from rfl, hb]
  bv_omega
  rw [comp_not (by intro b; rw [turnC_eq]; bv_omega)]
  bv_omega
  rw [sized_ok (lt_size (by rw [bl_len, bitsF_len]; omega))]
  try simp only [vE_var, vE_int, vE_bl, vE_non, vE_str, vE_cst, vE_bin, vE_cmp, vE_chain, vE_and, vE_or, vE_not, vE_neg, vE_ite, vE_isi, vE_tup, vE_lst, vE_lmul, vE_ix, vE_slice, vE_rev, vE_b1, vE_b2, vE_dm, vE_call, vE_call0, vE_comp, vEs_n, vEs_c, vO_n, vO_s, vC_n, vC_s, vI_1, vI_2, vI_3, vI_s, vI_z, vI_e, zR_l, zR_t, vS_asgT, vS_par, vS_app, vS_setIx, vS_aug, vS_ite, vS_whl, vS_for, vS_ret, vS_retN, vS_expr, vS_pass, aF_n, aF_r, uh_n, uh_c, ag_a, ag_s, cl_n, cl_c, List.getD_cons_zero, List.getD_cons_succ, R.ok_bind, R.exc_bind, R.bad_bind, R.pure_eq, List.length_cons, List.length_nil, List.map_cons, List.map_nil, List.cons_append, List.nil_append, List.replicate_succ, List.replicate_zero, List.set_cons_zero, List.set_cons_succ, Nat.reduceAdd, Nat.reduceSub, Nat.reduceEqDiff, Int.cast_ofNat_Int, Int.reduceEq, Int.reduceLT, Int.reduceLE, Int.reduceAdd, Int.reduceSub, Int.reduceMul, Int.reduceNeg, decide_true, decide_false, Bool.false_and, Bool.true_and, Bool.and_true, Bool.and_false, Bool.or_true, Bool.or_false, Bool.true_or, Bool.false_or, if_true, ite_true, ite_false, Bool.false_eq_true, reduceIte, Bool.not_true, Bool.not_false, asI_i, asB_b, asL_l, asL_t, asLst_l, dIs_int_none, dIs_int_bool, dIs_int_int, dIs_int_str, dIs_int_list, dIs_int_tuple, dIs_int_dict, dIs_bool_none, dIs_bool_bool, dIs_bool_int, dIs_bool_str, dIs_bool_list, dIs_bool_tuple, dIs_bool_dict, dIs_str_none, dIs_str_bool, dIs_str_int, dIs_str_str, dIs_str_list, dIs_str_tuple, dIs_str_dict, dIs_tuple_none, dIs_tuple_bool, dIs_tuple_int, dIs_tuple_str, dIs_tuple_list, dIs_tuple_tuple, dIs_tuple_dict, dIs_list_none, dIs_list_bool, dIs_list_int, dIs_list_str, dIs_list_list, dIs_list_tuple, dIs_list_dict, ad_i, ad_l, ad_t, ad_s, sb_i, mu_i, fd_i, md_i, pw_10_6, pw_10_9, pw_10_12, pw_10_18, pw_10_59, pw_10_60, c_lt, c_le, c_gt, c_ge, c_eq_i, c_ne_i, c_eq_b, c_ne_b, c_isN, c_inN, c_isB, c_inB, c_in, c_ni, b_len_l, b_len_t, b_len_s, b_int_i, b_int_b, b_tup_l, b_tup_t, b_lst_l, b_lst_t, b_abs, b2_max, b2_min, ix_l, ix_t, sl_l, sl_t, rv_l, rv_t, getS_z, getS_s, ne_ok, seq_n, seq_r, evSs_n, evSs_c, outR_r, outR_n, bT_n, bT_t, bTs_n, bTs_c, asS, e2]
theorem Canon.dvd {f : Sq} {b p B S : Nat} (h : Canon f b p) (hS : Per f B S) (h1 : 1 ≤ S) : p ∣ S := by
  have g1 := Per.gcd p S (h.per.up (show b ≤ max b B by omega)) (hS.up (show B ≤ max b B by omega))
  have g2 := h.min (Nat.gcd p S) _ (Nat.gcd_pos_of_pos_left _ h.one) g1
  have g3 := Nat.gcd_le_left S h.one
  have : Nat.gcd p S = p := Nat.le_antisymm g3 g2
  rw [← this]
  exact Nat.gcd_dvd_right p S
theorem canon_const (c : Bool) : Canon (fun _ => c) 0 1 := ⟨Nat.le_refl _, fun _ _ => rfl, fun q _ h _ => h, .inl rfl⟩
theorem eq_false_of {f g : Sq} {t : Bool} (h : t = true ↔ f = g) (e : f = g) : t = true := h.mpr e
theorem pw_10_4 : dBin .pow (.int 10) (.int 4) = .ok (.int 10000) := by rw [pw_i, if_pos (by decide)]; rfl
theorem k07_run (hN : 1000000 ≤ N) (ns : List Int) : run Tb N 10 50 [.list (ns.map .int)] = .ok (.bool true) := by
  have c0 : run Tb N 9 3 [.list (ns.map .int), .int 0] = .ok (.int (cellI ns 0)) := law_cell_ok (k := 8) ns 0 (by decide)
  have c1 : run Tb N 9 3 [.list (ns.map .int), .int 1] = .ok (.int (cellI ns 1)) := law_cell_ok (k := 8) ns 1 (by decide)
  have c2 : run Tb N 9 3 [.list (ns.map .int), .int 2] = .ok (.int (cellI ns 2)) := law_cell_ok (k := 8) ns 2 (by decide)
  have c3 : run Tb N 9 3 [.list (ns.map .int), .int 3] = .ok (.int (cellI ns 3)) := law_cell_ok (k := 8) ns 3 (by decide)
  obtain ⟨x1, x2, dd, e1, e2, e3, f, g, B, S, C, T, rfl, hp⟩ := two_some_ok (N := N) (k := 5) ns hN
  have e1 : run Tb N 9 12 [.int (cellI ns 0), .int 999999937] = _ := e1
  have e2 : run Tb N 9 12 [.int (cellI ns 1), .int 999999929] = _ := e2
  have e3 : run Tb N 9 40 [x1, x2, .int (cellI ns 3), .int 999999883] = _ := e3
  obtain ⟨vs, d1, d2⟩ := law_draws_ok (N := N) (k := 7) (cellI ns 2) [10000] 999999893 (by decide) (by decide) (by decide)
  have d1 : run Tb N 9 5 [.int (cellI ns 2), .list [.int 10000], .int 999999893] = .ok (.list (vs.map .int)) := d1
  have hB := hp.hB
  have hS := hp.hS
  have s1 := hp.s1
  have hC := hp.hC
  have hT := hp.hT
  have t1 := hp.t1
  have hW := hp.hW
  match vs, d2 with
  | [v], d2 =>
    obtain ⟨⟨v1, v2⟩, _⟩ := d2
    obtain ⟨v, rfl⟩ : ∃ v' : Nat, v = (v' : Int) := ⟨v.toNat, by omega⟩
    -- the rest
    obtain ⟨b, p, r1, r2, r3, r4⟩ := rest_of_ok (N := N) (k := 4) hp.pf s1 hB hS hN
    obtain ⟨b', p', m1, m2, _, _⟩ := law_least_ok (N := N) (k := 8) (m := B + S) hp.pf.not s1 (Nat.le_refl _) (by omega) hN
    obtain ⟨rfl, rfl⟩ := r2.uniq m2
    have due := is_due_ok (N := N) (k := 5) (notF f) b p r2.one (by omega)
    have pS := r2.dvd hp.pf.not s1
    have lS : Nat.lcm S p ≤ 840 := Nat.le_trans (lcm_le s1 (Nat.dvd_refl _) pS) hS
    have lT : Nat.lcm T p ≤ 840 := Nat.le_trans (lcm_le hp.w1 (Nat.dvd_lcm_right S T) (Nat.dvd_trans pS (Nat.dvd_lcm_left S T))) hW
    have hfr : Pair f (notF f) B S b p := ⟨hp.pf, r2.per, s1, r2.one, hB, by omega, hS, by omega, lS⟩
    have hgr : Pair g (notF f) C T b p := ⟨hp.pg, r2.per, t1, r2.one, hC, by omega, hT, by omega, lT⟩
    obtain ⟨b3, p3, q3, c3', _, _⟩ := both_ok (N := N) (k := 3) hfr hN
    obtain ⟨b4, p4, q4, c4, _, _⟩ := either_ok (N := N) (k := 3) hfr hN
    obtain ⟨b5, p5, q5, c5, _, _⟩ := less_ok (N := N) (k := 3) hp.symm hN
    obtain ⟨b6, p6, q6, c6, _, _⟩ := both_ok (N := N) (k := 3) hgr hN
    obtain ⟨b7, p7, q7, c7, _, _⟩ := rest_of_ok (N := N) (k := 4) r2.per r2.one (by omega) (by omega) hN
    obtain ⟨b8, p8, q8, c8, _, _⟩ := least_ok (N := N) (k := 4) hp.pf s1 hB hS hN
    obtain ⟨b9, p9, q9, c9, b9', p9'⟩ := both_ok (N := N) (k := 3) hp hN
    obtain ⟨b10, p10, q10, c10, b10', p10'⟩ := either_ok (N := N) (k := 3) hp hN
    obtain ⟨t, w1, w2⟩ := within_ok (N := N) (k := 3) hp.symm hN
    have z3 : opF and f (notF f) = fun _ => false := by funext x; show (f x && !f x) = false; cases f x <;> rfl
    have z4 : opF or f (notF f) = fun _ => true := by funext x; show (f x || !f x) = true; cases f x <;> rfl
    have z6 : opF and g (notF f) = opF andN g f := rfl
    rw [z3] at q3 c3'
    rw [z4] at q4 c4
    rw [z6] at q6 c6
    rw [notF_notF] at q7 c7
    obtain ⟨rfl, rfl⟩ := c3'.uniq (canon_const false)
    obtain ⟨rfl, rfl⟩ := c4.uniq (canon_const true)
    obtain ⟨rfl, rfl⟩ := c5.uniq c6
    obtain ⟨rfl, rfl⟩ := c7.uniq c8
    have k0 : stD (fun _ => false) 0 1 = .tuple [.int 0, .int 1, .tuple [], .tuple []] := rfl
    have k1 : stD (fun _ => true) 0 1 = .tuple [.int 0, .int 1, .tuple [], .tuple [.int 0]] := rfl
    obtain ⟨t3, _, y3, y3'⟩ := eq_canon (canon_const false) (canon_const false)
    obtain ⟨t4, _, y4, y4'⟩ := eq_canon (canon_const true) (canon_const true)
    obtain ⟨t5, _, y5, y5'⟩ := eq_canon c5 c5
    obtain ⟨t7, _, y7, y7'⟩ := eq_canon c7 c7
    obtain ⟨t9, y9, _, y9'⟩ := eq_canon c5 (canon_const false)
    have t3e := y3'.mpr rfl
    have t4e := y4'.mpr rfl
    have t5e := y5'.mpr rfl
    have t7e := y7'.mpr rfl
    subst t3e t4e t5e t7e
    have tt : t = t9 := by
      rw [Bool.eq_iff_iff, w2, y9']
      constructor
      · intro hs
        funext x
        unfold opF andN
        cases q : g x with
        | false => rfl
        | true => rw [hs x q]; rfl
      · intro hz x hx
        have := congrFun hz x
        unfold opF andN at this
        rw [hx] at this
        cases q : f x with
        | true => rfl
        | false => rw [q] at this; cases this
    subst tt
    rw [k0] at q3 y3 y9
    rw [k1] at q4 y4
    have hW2 := hp.bounds
    have n1 := how_many_ok (N := N) (k := 4) hp.pf s1 hB hS v (by omega)
    have n2 := how_many_ok (N := N) (k := 4) hp.pg t1 hC hT v (by omega)
    have n3 := how_many_ok (N := N) (k := 4) c9.per c9.one (by omega) (by omega) v (by omega)
    have n4 := how_many_ok (N := N) (k := 4) c10.per c10.one (by omega) (by omega) v (by omega)
    have sf := law_stair_bits_ok (N := N) (k := 8) (m := B + S) hp.pf s1 (by omega) (by omega)
    rw [show ((B + S : Nat) : Int) = (B : Int) + (S : Int) from rfl] at sf
    unfold bitsD at sf m1
    rw [run_eq (k := 9) (fn := f_law_v5) rfl rfl]
    unfold f_law_v5
    try simp only [vE_var, vE_int, vE_bl, vE_non, vE_str, vE_cst, vE_bin, vE_cmp, vE_chain, vE_and, vE_or, vE_not, vE_neg, vE_ite, vE_isi, vE_tup, vE_lst, vE_lmul, vE_ix, vE_slice, vE_rev, vE_b1, vE_b2, vE_dm, vE_call, vE_call0, vE_comp, vEs_n, vEs_c, vO_n, vO_s, vC_n, vC_s, vI_1, vI_2, vI_3, vI_s, vI_z, vI_e, zR_l, zR_t, vS_asgT, vS_par, vS_app, vS_setIx, vS_aug, vS_ite, vS_whl, vS_for, vS_ret, vS_retN, vS_expr, vS_pass, aF_n, aF_r, uh_n, uh_c, ag_a, ag_s, cl_n, cl_c, List.getD_cons_zero, List.getD_cons_succ, R.ok_bind, R.exc_bind, R.bad_bind, R.pure_eq, List.length_cons, List.length_nil, List.map_cons, List.map_nil, List.cons_append, List.nil_append, List.replicate_succ, List.replicate_zero, List.set_cons_zero, List.set_cons_succ, Nat.reduceAdd, Nat.reduceSub, Nat.reduceEqDiff, Int.cast_ofNat_Int, Int.reduceEq, Int.reduceLT, Int.reduceLE, Int.reduceAdd, Int.reduceSub, Int.reduceMul, Int.reduceNeg, decide_true, decide_false, Bool.false_and, Bool.true_and, Bool.and_true, Bool.and_false, Bool.or_true, Bool.or_false, Bool.true_or, Bool.false_or, if_true, ite_true, ite_false, Bool.false_eq_true, reduceIte, Bool.not_true, Bool.not_false, asI_i, asB_b, asL_l, asL_t, asLst_l, dIs_int_none, dIs_int_bool, dIs_int_int, dIs_int_str, dIs_int_list, dIs_int_tuple, dIs_int_dict, dIs_bool_none, dIs_bool_bool, dIs_bool_int, dIs_bool_str, dIs_bool_list, dIs_bool_tuple, dIs_bool_dict, dIs_str_none, dIs_str_bool, dIs_str_int, dIs_str_str, dIs_str_list, dIs_str_tuple, dIs_str_dict, dIs_tuple_none, dIs_tuple_bool, dIs_tuple_int, dIs_tuple_str, dIs_tuple_list, dIs_tuple_tuple, dIs_tuple_dict, dIs_list_none, dIs_list_bool, dIs_list_int, dIs_list_str, dIs_list_list, dIs_list_tuple, dIs_list_dict, ad_i, ad_l, ad_t, ad_s, sb_i, mu_i, fd_i, md_i, pw_10_6, pw_10_9, pw_10_12, pw_10_18, pw_10_59, pw_10_60, c_lt, c_le, c_gt, c_ge, c_eq_i, c_ne_i, c_eq_b, c_ne_b, c_isN, c_inN, c_isB, c_inB, c_in, c_ni, b_len_l, b_len_t, b_len_s, b_int_i, b_int_b, b_tup_l, b_tup_t, b_lst_l, b_lst_t, b_abs, b2_max, b2_min, ix_l, ix_t, sl_l, sl_t, rv_l, rv_t, getS_z, getS_s, ne_ok, seq_n, seq_r, evSs_n, evSs_c, outR_r, outR_n, bT_n, bT_t, bTs_n, bTs_c, asS, c0, e1, c1, e2, c3, e3, stD_ix0, stD_ix1, sf]
    rw [comp_not (by intro b; rw [turnC_eq]; bv_omega)]
    bv_omega
    rw [sized_ok (lt_size (by rw [bl_len, bitsF_len]; omega))]
    try simp only [vE_var, vE_int, vE_bl, vE_non, vE_str, vE_cst, vE_bin, vE_cmp, vE_chain, vE_and, vE_or, vE_not, vE_neg, vE_ite, vE_isi, vE_tup, vE_lst, vE_lmul, vE_ix, vE_slice, vE_rev, vE_b1, vE_b2, vE_dm, vE_call, vE_call0, vE_comp, vEs_n, vEs_c, vO_n, vO_s, vC_n, vC_s, vI_1, vI_2, vI_3, vI_s, vI_z, vI_e, zR_l, zR_t, vS_asgT, vS_par, vS_app, vS_setIx, vS_aug, vS_ite, vS_whl, vS_for, vS_ret, vS_retN, vS_expr, vS_pass, aF_n, aF_r, uh_n, uh_c, ag_a, ag_s, cl_n, cl_c, List.getD_cons_zero, List.getD_cons_succ, R.ok_bind, R.exc_bind, R.bad_bind, R.pure_eq, List.length_cons, List.length_nil, List.map_cons, List.map_nil, List.cons_append, List.nil_append, List.replicate_succ, List.replicate_zero, List.set_cons_zero, List.set_cons_succ, Nat.reduceAdd, Nat.reduceSub, Nat.reduceEqDiff, Int.cast_ofNat_Int, Int.reduceEq, Int.reduceLT, Int.reduceLE, Int.reduceAdd, Int.reduceSub, Int.reduceMul, Int.reduceNeg, decide_true, decide_false, Bool.false_and, Bool.true_and, Bool.and_true, Bool.and_false, Bool.or_true, Bool.or_false, Bool.true_or, Bool.false_or, if_true, ite_true, ite_false, Bool.false_eq_true, reduceIte, Bool.not_true, Bool.not_false, asI_i, asB_b, asL_l, asL_t, asLst_l, dIs_int_none, dIs_int_bool, dIs_int_int, dIs_int_str, dIs_int_list, dIs_int_tuple, dIs_int_dict, dIs_bool_none, dIs_bool_bool, dIs_bool_int, dIs_bool_str, dIs_bool_list, dIs_bool_tuple, dIs_bool_dict, dIs_str_none, dIs_str_bool, dIs_str_int, dIs_str_str, dIs_str_list, dIs_str_tuple, dIs_str_dict, dIs_tuple_none, dIs_tuple_bool, dIs_tuple_int, dIs_tuple_str, dIs_tuple_list, dIs_tuple_tuple, dIs_tuple_dict, dIs_list_none, dIs_list_bool, dIs_list_int, dIs_list_str, dIs_list_list, dIs_list_tuple, dIs_list_dict, ad_i, ad_l, ad_t, ad_s, sb_i, mu_i, fd_i, md_i, pw_10_6, pw_10_9, pw_10_12, pw_10_18, pw_10_59, pw_10_60, c_lt, c_le, c_gt, c_ge, c_eq_i, c_ne_i, c_eq_b, c_ne_b, c_isN, c_inN, c_isB, c_inB, c_in, c_ni, b_len_l, b_len_t, b_len_s, b_int_i, b_int_b, b_tup_l, b_tup_t, b_lst_l, b_lst_t, b_abs, b2_max, b2_min, ix_l, ix_t, sl_l, sl_t, rv_l, rv_t, getS_z, getS_s, ne_ok, seq_n, seq_r, evSs_n, evSs_c, outR_r, outR_n, bT_n, bT_t, bTs_n, bTs_c, asS, r1, stD_ix0, stD_ix1, m1, due, q3]
    rw [mkTup_ok (l := []) (lt_size (by simp)), R.ok_bind]
    bv_omega
    rw [mkTup_ok (lt_size (by simp))]
    try simp only [vE_var, vE_int, vE_bl, vE_non, vE_str, vE_cst, vE_bin, vE_cmp, vE_chain, vE_and, vE_or, vE_not, vE_neg, vE_ite, vE_isi, vE_tup, vE_lst, vE_lmul, vE_ix, vE_slice, vE_rev, vE_b1, vE_b2, vE_dm, vE_call, vE_call0, vE_comp, vEs_n, vEs_c, vO_n, vO_s, vC_n, vC_s, vI_1, vI_2, vI_3, vI_s, vI_z, vI_e, zR_l, zR_t, vS_asgT, vS_par, vS_app, vS_setIx, vS_aug, vS_ite, vS_whl, vS_for, vS_ret, vS_retN, vS_expr, vS_pass, aF_n, aF_r, uh_n, uh_c, ag_a, ag_s, cl_n, cl_c, List.getD_cons_zero, List.getD_cons_succ, R.ok_bind, R.exc_bind, R.bad_bind, R.pure_eq, List.length_cons, List.length_nil, List.map_cons, List.map_nil, List.cons_append, List.nil_append, List.replicate_succ, List.replicate_zero, List.set_cons_zero, List.set_cons_succ, Nat.reduceAdd, Nat.reduceSub, Nat.reduceEqDiff, Int.cast_ofNat_Int, Int.reduceEq, Int.reduceLT, Int.reduceLE, Int.reduceAdd, Int.reduceSub, Int.reduceMul, Int.reduceNeg, decide_true, decide_false, Bool.false_and, Bool.true_and, Bool.and_true, Bool.and_false, Bool.or_true, Bool.or_false, Bool.true_or, Bool.false_or, if_true, ite_true, ite_false, Bool.false_eq_true, reduceIte, Bool.not_true, Bool.not_false, asI_i, asB_b, asL_l, asL_t, asLst_l, dIs_int_none, dIs_int_bool, dIs_int_int, dIs_int_str, dIs_int_list, dIs_int_tuple, dIs_int_dict, dIs_bool_none, dIs_bool_bool, dIs_bool_int, dIs_bool_str, dIs_bool_list, dIs_bool_tuple, dIs_bool_dict, dIs_str_none, dIs_str_bool, dIs_str_int, dIs_str_str, dIs_str_list, dIs_str_tuple, dIs_str_dict, dIs_tuple_none, dIs_tuple_bool, dIs_tuple_int, dIs_tuple_str, dIs_tuple_list, dIs_tuple_tuple, dIs_tuple_dict, dIs_list_none, dIs_list_bool, dIs_list_int, dIs_list_str, dIs_list_list, dIs_list_tuple, dIs_list_dict, ad_i, ad_l, ad_t, ad_s, sb_i, mu_i, fd_i, md_i, pw_10_6, pw_10_9, pw_10_12, pw_10_18, pw_10_59, pw_10_60, c_lt, c_le, c_gt, c_ge, c_eq_i, c_ne_i, c_eq_b, c_ne_b, c_isN, c_inN, c_isB, c_inB, c_in, c_ni, b_len_l, b_len_t, b_len_s, b_int_i, b_int_b, b_tup_l, b_tup_t, b_lst_l, b_lst_t, b_abs, b2_max, b2_min, ix_l, ix_t, sl_l, sl_t, rv_l, rv_t, getS_z, getS_s, ne_ok, seq_n, seq_r, evSs_n, evSs_c, outR_r, outR_n, bT_n, bT_t, bTs_n, bTs_c, asS, y3, q4]
    rw [mkTup_ok (l := [.int 0]) (lt_size (by simp)), R.ok_bind]
    bv_omega
    rw [mkTup_ok (lt_size (by simp))]
    try simp only [vE_var, vE_int, vE_bl, vE_non, vE_str, vE_cst, vE_bin, vE_cmp, vE_chain, vE_and, vE_or, vE_not, vE_neg, vE_ite, vE_isi, vE_tup, vE_lst, vE_lmul, vE_ix, vE_slice, vE_rev, vE_b1, vE_b2, vE_dm, vE_call, vE_call0, vE_comp, vEs_n, vEs_c, vO_n, vO_s, vC_n, vC_s, vI_1, vI_2, vI_3, vI_s, vI_z, vI_e, zR_l, zR_t, vS_asgT, vS_par, vS_app, vS_setIx, vS_aug, vS_ite, vS_whl, vS_for, vS_ret, vS_retN, vS_expr, vS_pass, aF_n, aF_r, uh_n, uh_c, ag_a, ag_s, cl_n, cl_c, List.getD_cons_zero, List.getD_cons_succ, R.ok_bind, R.exc_bind, R.bad_bind, R.pure_eq, List.length_cons, List.length_nil, List.map_cons, List.map_nil, List.cons_append, List.nil_append, List.replicate_succ, List.replicate_zero, List.set_cons_zero, List.set_cons_succ, Nat.reduceAdd, Nat.reduceSub, Nat.reduceEqDiff, Int.cast_ofNat_Int, Int.reduceEq, Int.reduceLT, Int.reduceLE, Int.reduceAdd, Int.reduceSub, Int.reduceMul, Int.reduceNeg, decide_true, decide_false, Bool.false_and, Bool.true_and, Bool.and_true, Bool.and_false, Bool.or_true, Bool.or_false, Bool.true_or, Bool.false_or, if_true, ite_true, ite_false, Bool.false_eq_true, reduceIte, Bool.not_true, Bool.not_false, asI_i, asB_b, asL_l, asL_t, asLst_l, dIs_int_none, dIs_int_bool, dIs_int_int, dIs_int_str, dIs_int_list, dIs_int_tuple, dIs_int_dict, dIs_bool_none, dIs_bool_bool, dIs_bool_int, dIs_bool_str, dIs_bool_list, dIs_bool_tuple, dIs_bool_dict, dIs_str_none, dIs_str_bool, dIs_str_int, dIs_str_str, dIs_str_list, dIs_str_tuple, dIs_str_dict, dIs_tuple_none, dIs_tuple_bool, dIs_tuple_int, dIs_tuple_str, dIs_tuple_list, dIs_tuple_tuple, dIs_tuple_dict, dIs_list_none, dIs_list_bool, dIs_list_int, dIs_list_str, dIs_list_list, dIs_list_tuple, dIs_list_dict, ad_i, ad_l, ad_t, ad_s, sb_i, mu_i, fd_i, md_i, pw_10_6, pw_10_9, pw_10_12, pw_10_18, pw_10_59, pw_10_60, c_lt, c_le, c_gt, c_ge, c_eq_i, c_ne_i, c_eq_b, c_ne_b, c_isN, c_inN, c_isB, c_inB, c_in, c_ni, b_len_l, b_len_t, b_len_s, b_int_i, b_int_b, b_tup_l, b_tup_t, b_lst_l, b_lst_t, b_abs, b2_max, b2_min, ix_l, ix_t, sl_l, sl_t, rv_l, rv_t, getS_z, getS_s, ne_ok, seq_n, seq_r, evSs_n, evSs_c, outR_r, outR_n, bT_n, bT_t, bTs_n, bTs_c, asS, y4, q5, q6, y5, q7, q8, y7, w1]
    rw [mkTup_ok (l := []) (lt_size (by simp)), R.ok_bind]
    bv_omega
    rw [mkTup_ok (lt_size (by simp))]
    try simp only [vE_var, vE_int, vE_bl, vE_non, vE_str, vE_cst, vE_bin, vE_cmp, vE_chain, vE_and, vE_or, vE_not, vE_neg, vE_ite, vE_isi, vE_tup, vE_lst, vE_lmul, vE_ix, vE_slice, vE_rev, vE_b1, vE_b2, vE_dm, vE_call, vE_call0, vE_comp, vEs_n, vEs_c, vO_n, vO_s, vC_n, vC_s, vI_1, vI_2, vI_3, vI_s, vI_z, vI_e, zR_l, zR_t, vS_asgT, vS_par, vS_app, vS_setIx, vS_aug, vS_ite, vS_whl, vS_for, vS_ret, vS_retN, vS_expr, vS_pass, aF_n, aF_r, uh_n, uh_c, ag_a, ag_s, cl_n, cl_c, List.getD_cons_zero, List.getD_cons_succ, R.ok_bind, R.exc_bind, R.bad_bind, R.pure_eq, List.length_cons, List.length_nil, List.map_cons, List.map_nil, List.cons_append, List.nil_append, List.replicate_succ, List.replicate_zero, List.set_cons_zero, List.set_cons_succ, Nat.reduceAdd, Nat.reduceSub, Nat.reduceEqDiff, Int.cast_ofNat_Int, Int.reduceEq, Int.reduceLT, Int.reduceLE, Int.reduceAdd, Int.reduceSub, Int.reduceMul, Int.reduceNeg, decide_true, decide_false, Bool.false_and, Bool.true_and, Bool.and_true, Bool.and_false, Bool.or_true, Bool.or_false, Bool.true_or, Bool.false_or, if_true, ite_true, ite_false, Bool.false_eq_true, reduceIte, Bool.not_true, Bool.not_false, asI_i, asB_b, asL_l, asL_t, asLst_l, dIs_int_none, dIs_int_bool, dIs_int_int, dIs_int_str, dIs_int_list, dIs_int_tuple, dIs_int_dict, dIs_bool_none, dIs_bool_bool, dIs_bool_int, dIs_bool_str, dIs_bool_list, dIs_bool_tuple, dIs_bool_dict, dIs_str_none, dIs_str_bool, dIs_str_int, dIs_str_str, dIs_str_list, dIs_str_tuple, dIs_str_dict, dIs_tuple_none, dIs_tuple_bool, dIs_tuple_int, dIs_tuple_str, dIs_tuple_list, dIs_tuple_tuple, dIs_tuple_dict, dIs_list_none, dIs_list_bool, dIs_list_int, dIs_list_str, dIs_list_list, dIs_list_tuple, dIs_list_dict, ad_i, ad_l, ad_t, ad_s, sb_i, mu_i, fd_i, md_i, pw_10_6, pw_10_9, pw_10_12, pw_10_18, pw_10_59, pw_10_60, c_lt, c_le, c_gt, c_ge, c_eq_i, c_ne_i, c_eq_b, c_ne_b, c_isN, c_inN, c_isB, c_inB, c_in, c_ni, b_len_l, b_len_t, b_len_s, b_int_i, b_int_b, b_tup_l, b_tup_t, b_lst_l, b_lst_t, b_abs, b2_max, b2_min, ix_l, ix_t, sl_l, sl_t, rv_l, rv_t, getS_z, getS_s, ne_ok, seq_n, seq_r, evSs_n, evSs_c, outR_r, outR_n, bT_n, bT_t, bTs_n, bTs_c, asS, y9]
    rw [beq_self_eq_true]
    try simp only [vE_var, vE_int, vE_bl, vE_non, vE_str, vE_cst, vE_bin, vE_cmp, vE_chain, vE_and, vE_or, vE_not, vE_neg, vE_ite, vE_isi, vE_tup, vE_lst, vE_lmul, vE_ix, vE_slice, vE_rev, vE_b1, vE_b2, vE_dm, vE_call, vE_call0, vE_comp, vEs_n, vEs_c, vO_n, vO_s, vC_n, vC_s, vI_1, vI_2, vI_3, vI_s, vI_z, vI_e, zR_l, zR_t, vS_asgT, vS_par, vS_app, vS_setIx, vS_aug, vS_ite, vS_whl, vS_for, vS_ret, vS_retN, vS_expr, vS_pass, aF_n, aF_r, uh_n, uh_c, ag_a, ag_s, cl_n, cl_c, List.getD_cons_zero, List.getD_cons_succ, R.ok_bind, R.exc_bind, R.bad_bind, R.pure_eq, List.length_cons, List.length_nil, List.map_cons, List.map_nil, List.cons_append, List.nil_append, List.replicate_succ, List.replicate_zero, List.set_cons_zero, List.set_cons_succ, Nat.reduceAdd, Nat.reduceSub, Nat.reduceEqDiff, Int.cast_ofNat_Int, Int.reduceEq, Int.reduceLT, Int.reduceLE, Int.reduceAdd, Int.reduceSub, Int.reduceMul, Int.reduceNeg, decide_true, decide_false, Bool.false_and, Bool.true_and, Bool.and_true, Bool.and_false, Bool.or_true, Bool.or_false, Bool.true_or, Bool.false_or, if_true, ite_true, ite_false, Bool.false_eq_true, reduceIte, Bool.not_true, Bool.not_false, asI_i, asB_b, asL_l, asL_t, asLst_l, dIs_int_none, dIs_int_bool, dIs_int_int, dIs_int_str, dIs_int_list, dIs_int_tuple, dIs_int_dict, dIs_bool_none, dIs_bool_bool, dIs_bool_int, dIs_bool_str, dIs_bool_list, dIs_bool_tuple, dIs_bool_dict, dIs_str_none, dIs_str_bool, dIs_str_int, dIs_str_str, dIs_str_list, dIs_str_tuple, dIs_str_dict, dIs_tuple_none, dIs_tuple_bool, dIs_tuple_int, dIs_tuple_str, dIs_tuple_list, dIs_tuple_tuple, dIs_tuple_dict, dIs_list_none, dIs_list_bool, dIs_list_int, dIs_list_str, dIs_list_list, dIs_list_tuple, dIs_list_dict, ad_i, ad_l, ad_t, ad_s, sb_i, mu_i, fd_i, md_i, pw_10_6, pw_10_9, pw_10_12, pw_10_18, pw_10_59, pw_10_60, c_lt, c_le, c_gt, c_ge, c_eq_i, c_ne_i, c_eq_b, c_ne_b, c_isN, c_inN, c_isB, c_inB, c_in, c_ni, b_len_l, b_len_t, b_len_s, b_int_i, b_int_b, b_tup_l, b_tup_t, b_lst_l, b_lst_t, b_abs, b2_max, b2_min, ix_l, ix_t, sl_l, sl_t, rv_l, rv_t, getS_z, getS_s, ne_ok, seq_n, seq_r, evSs_n, evSs_c, outR_r, outR_n, bT_n, bT_t, bTs_n, bTs_c, asS, c2, pw_10_4]
    rw [sized_ok (lt_size (by simp))]
    try simp only [vE_var, vE_int, vE_bl, vE_non, vE_str, vE_cst, vE_bin, vE_cmp, vE_chain, vE_and, vE_or, vE_not, vE_neg, vE_ite, vE_isi, vE_tup, vE_lst, vE_lmul, vE_ix, vE_slice, vE_rev, vE_b1, vE_b2, vE_dm, vE_call, vE_call0, vE_comp, vEs_n, vEs_c, vO_n, vO_s, vC_n, vC_s, vI_1, vI_2, vI_3, vI_s, vI_z, vI_e, zR_l, zR_t, vS_asgT, vS_par, vS_app, vS_setIx, vS_aug, vS_ite, vS_whl, vS_for, vS_ret, vS_retN, vS_expr, vS_pass, aF_n, aF_r, uh_n, uh_c, ag_a, ag_s, cl_n, cl_c, List.getD_cons_zero, List.getD_cons_succ, R.ok_bind, R.exc_bind, R.bad_bind, R.pure_eq, List.length_cons, List.length_nil, List.map_cons, List.map_nil, List.cons_append, List.nil_append, List.replicate_succ, List.replicate_zero, List.set_cons_zero, List.set_cons_succ, Nat.reduceAdd, Nat.reduceSub, Nat.reduceEqDiff, Int.cast_ofNat_Int, Int.reduceEq, Int.reduceLT, Int.reduceLE, Int.reduceAdd, Int.reduceSub, Int.reduceMul, Int.reduceNeg, decide_true, decide_false, Bool.false_and, Bool.true_and, Bool.and_true, Bool.and_false, Bool.or_true, Bool.or_false, Bool.true_or, Bool.false_or, if_true, ite_true, ite_false, Bool.false_eq_true, reduceIte, Bool.not_true, Bool.not_false, asI_i, asB_b, asL_l, asL_t, asLst_l, dIs_int_none, dIs_int_bool, dIs_int_int, dIs_int_str, dIs_int_list, dIs_int_tuple, dIs_int_dict, dIs_bool_none, dIs_bool_bool, dIs_bool_int, dIs_bool_str, dIs_bool_list, dIs_bool_tuple, dIs_bool_dict, dIs_str_none, dIs_str_bool, dIs_str_int, dIs_str_str, dIs_str_list, dIs_str_tuple, dIs_str_dict, dIs_tuple_none, dIs_tuple_bool, dIs_tuple_int, dIs_tuple_str, dIs_tuple_list, dIs_tuple_tuple, dIs_tuple_dict, dIs_list_none, dIs_list_bool, dIs_list_int, dIs_list_str, dIs_list_list, dIs_list_tuple, dIs_list_dict, ad_i, ad_l, ad_t, ad_s, sb_i, mu_i, fd_i, md_i, pw_10_6, pw_10_9, pw_10_12, pw_10_18, pw_10_59, pw_10_60, c_lt, c_le, c_gt, c_ge, c_eq_i, c_ne_i, c_eq_b, c_ne_b, c_isN, c_inN, c_isB, c_inB, c_in, c_ni, b_len_l, b_len_t, b_len_s, b_int_i, b_int_b, b_tup_l, b_tup_t, b_lst_l, b_lst_t, b_abs, b2_max, b2_min, ix_l, ix_t, sl_l, sl_t, rv_l, rv_t, getS_z, getS_s, ne_ok, seq_n, seq_r, evSs_n, evSs_c, outR_r, outR_n, bT_n, bT_t, bTs_n, bTs_c, asS, d1, at0, ofO_s, n1, n2, q9, q10, n3, n4]
    rw [decide_eq_true]
    have := cnt_two f g v 0
    omega
  | [], d2 => exact d2.elim
  | _ :: _ :: _, d2 => exact d2.2.elim
theorem k07_go (ns : List Int) (hn : ns.length ≤ 63) : run Tb 1000000000 10 50 [.list (ns.map .int)] = .ok (.bool true) := k07_run (by decide) ns
end Ev
set_option Elab.async false
set_option linter.all false
set_option maxRecDepth 100000
open PySem PySem.W PyProof.Rows
set_option maxHeartbeats 0 in
theorem PySem.Challenge.cw_stairrooms_k07_rules_of_stairs_holds : PySem.Challenge.rw_stairrooms_k07_rules_of_stairs.Holds := by
  w_on; o_law; k_head; (case hw => w_witness2)
  k_fill
  refine L2.walk_of (l := PySem.Challenge.rw_stairrooms_k07_rules_of_stairs) (n := 63) (k := 10) (x := "_law_script") (CX := fun w => L2.CX PySem.Challenge.rw_stairrooms_k07_rules_of_stairs.prog w) (sp := fun w => Ev.spLaw 63 _) rfl (by decide) rfl ⟨rfl, by decide, by decide⟩ (fun w h Y => PySem.W.kIn_of Y) ?F (fun _ _ a ns hl _ hS => ⟨a, ns, rfl, hS, hl, fun v _ e => e⟩) (fun _ _ _ _ _ ⟨_, _, _, _, _, _, _, _, _, _, _, _, z⟩ => z)
  case F =>
    intro w mg fa h KX G hmg
    refine' (fun hd => Ev.law_F (k := 9) (T := Ev.Tb) (Fu := 1000000000) hmg hd.1 hd.2 Ev.k07_go) (Ev.head KX G ?a0 ?l0 ?c0 ?k0 ?a1 ?l1 ?c1 ?k1 ?a2 ?l2 ?c2 ?k2 ?a3 ?l3 ?c3 ?k3 ?a4 ?l4 ?c4 ?k4 ?a5 ?l5 ?c5 ?k5 ?a6 ?l6 ?c6 ?k6 ?a7 ?l7 ?c7 ?k7 ?a8 ?l8 ?c8 ?k8 ?a9 ?l9 ?c9 ?k9 ?a10 ?l10 ?c10 ?k10 ?a11 ?l11 ?c11 ?k11 ?a12 ?l12 ?c12 ?k12 ?a13 ?l13 ?c13 ?k13 ?a14 ?l14 ?c14 ?k14 ?a15 ?l15 ?c15 ?k15 ?a16 ?l16 ?c16 ?k16 ?a17 ?l17 ?c17 ?k17 ?a18 ?l18 ?c18 ?k18 ?a19 ?l19 ?c19 ?k19 ?a20 ?l20 ?c20 ?k20 ?a21 ?l21 ?c21 ?k21 ?a22 ?l22 ?c22 ?k22 ?a23 ?l23 ?c23 ?k23 ?a24 ?l24 ?c24 ?k24 ?a25 ?l25 ?c25 ?k25 ?a26 ?l26 ?c26 ?k26 ?a27 ?l27 ?c27 ?k27 ?a28 ?l28 ?c28 ?k28 ?a29 ?l29 ?c29 ?k29 ?a30 ?l30 ?c30 ?k30 ?a31 ?l31 ?c31 ?k31 ?a32 ?l32 ?c32 ?k32 ?a33 ?l33 ?c33 ?k33 ?z0 ?z1 ?z2 ?z3 ?z4 ?z5 ?z6 ?z7 ?z8 ?z9 ?z10 ?z11 ?q0 ?q1)
    (case a0 => k_is); (case l0 => k_is); (case c0 => k_is); (case k0 => k_is)
    (case a1 => k_is); (case l1 => k_is); (case c1 => k_is); (case k1 => k_is)
    (case a2 => k_is); (case l2 => k_is); (case c2 => k_is); (case k2 => k_is)
    (case a3 => k_is); (case l3 => k_is); (case c3 => k_is); (case k3 => k_is)
    (case a4 => k_is); (case l4 => k_is); (case c4 => k_is); (case k4 => k_is)
    (case a5 => k_is); (case l5 => k_is); (case c5 => k_is); (case k5 => k_is)
    (case a6 => k_is); (case l6 => k_is); (case c6 => k_is); (case k6 => k_is)
    (case a7 => k_is); (case l7 => k_is); (case c7 => k_is); (case k7 => k_is)
    (case a8 => k_is); (case l8 => k_is); (case c8 => k_is); (case k8 => k_is)
    (case a9 => k_is); (case l9 => k_is); (case c9 => k_is); (case k9 => k_is)
    (case a10 => k_is); (case l10 => k_is); (case c10 => k_is); (case k10 => k_is)
    (case a11 => k_is); (case l11 => k_is); (case c11 => k_is); (case k11 => k_is)
    (case a12 => k_is); (case l12 => k_is); (case c12 => k_is); (case k12 => k_is)
    (case a13 => k_is); (case l13 => k_is); (case c13 => k_is); (case k13 => k_is)
    (case a14 => k_is); (case l14 => k_is); (case c14 => k_is); (case k14 => k_is)
    (case a15 => k_is); (case l15 => k_is); (case c15 => k_is); (case k15 => k_is)
    (case a16 => k_is); (case l16 => k_is); (case c16 => k_is); (case k16 => k_is)
    (case a17 => k_is); (case l17 => k_is); (case c17 => k_is); (case k17 => k_is)
    (case a18 => k_is); (case l18 => k_is); (case c18 => k_is); (case k18 => k_is)
    (case a19 => k_is); (case l19 => k_is); (case c19 => k_is); (case k19 => k_is)
    (case a20 => k_is); (case l20 => k_is); (case c20 => k_is); (case k20 => k_is)
    (case a21 => k_is); (case l21 => k_is); (case c21 => k_is); (case k21 => k_is)
    (case a22 => k_is); (case l22 => k_is); (case c22 => k_is); (case k22 => k_is)
    (case a23 => k_is); (case l23 => k_is); (case c23 => k_is); (case k23 => k_is)
    (case a24 => k_is); (case l24 => k_is); (case c24 => k_is); (case k24 => k_is)
    (case a25 => k_is); (case l25 => k_is); (case c25 => k_is); (case k25 => k_is)
    (case a26 => k_is); (case l26 => k_is); (case c26 => k_is); (case k26 => k_is)
    (case a27 => k_is); (case l27 => k_is); (case c27 => k_is); (case k27 => k_is)
    (case a28 => k_is); (case l28 => k_is); (case c28 => k_is); (case k28 => k_is)
    (case a29 => k_is); (case l29 => k_is); (case c29 => k_is); (case k29 => k_is)
    (case a30 => k_is); (case l30 => k_is); (case c30 => k_is); (case k30 => k_is)
    (case a31 => k_is); (case l31 => k_is); (case c31 => k_is); (case k31 => k_is)
    (case a32 => k_is); (case l32 => k_is); (case c32 => k_is); (case k32 => k_is)
    (case a33 => k_is); (case l33 => k_is); (case c33 => k_is); (case k33 => k_is)
    (case z0 => k_is); (case z1 => k_is); (case z2 => k_is); (case z3 => k_is)
    (case z4 => k_is); (case z5 => k_is); (case z6 => k_is); (case z7 => k_is)
    (case z8 => k_is); (case z9 => k_is); (case z10 => k_is); (case z11 => k_is)
    (case q0 => k_is); (case q1 => k_is)
