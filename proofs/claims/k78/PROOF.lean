import PyProof.Rows.All
import PySem.Challenge.RW_roomwide_k78_whole_lots_ranks_and_cerny
import Wide.All
import OpenK.AllK
import Wide.FinOn
import HandS.ForMost
import HandS.ForExc
import HandS.Walk
import HandS.Deep
import KE.KDictKeyed
import KE.KeyNested
import KE.SortData
import HandS.Wide
import HandS.TupAny
import HandS.TupMul
import HandS.Style
import HandS.IsInst
import PyProof.Rows.RuleB_pow
import KE.DataCmp
import KE.KStar
import HandS.List
import KE.DataAny
import KE.DataMinMax
import KE.KTupSum
import HandS.ExcOwn
import HandS.TryOnly
import PyProof.Rows.RuleB_and
import PyProof.Rows.RuleB_or
import PyProof.Rows.RuleB_mul
import HandS.Comp
import KE.SortLaws
import KE.KDictSum
import KE.KDictWalk
import HandS.Iter
import HandS.TupLen
import PyProof.ListRange
import HandS.DictComp
import KE.KDictDisplayH
import HandS.SetFor
import HandS.Strs
import KE.GoesMore
import HandS.Defaults
import HandS.Ends
import HandS.HeadEnd
import HandS.Head0
import HandS.Head1
import HandS.Head2
import HandS.HeadHook1
import HandS.HeadHook2
import HandS.HeadHook4
import HandS.EndBits
import KE.DatumOrd
import HandS.Words
set_option Elab.async false
set_option linter.all false
set_option maxRecDepth 100000
set_option maxHeartbeats 4000000
namespace Rw
open PySem

/-! ## values, objects, results -/
inductive D where
  | non | bl (b : Bool) | int (i : Int) | str (x : Str) | tup (xs : List D) | ref (n : Nat) | fn (n : Nat)
  deriving Inhabited

mutual
def D.beq : D → D → Bool
  | .non, .non => true
  | .bl a, .bl b => a == b
  | .int a, .int b => decide (a = b)
  | .str a, .str b => decide (a = b)
  | .tup a, .tup b => D.beqs a b
  | .ref a, .ref b => a == b
  | .fn a, .fn b => a == b
  | _, _ => false
def D.beqs : List D → List D → Bool
  | [], [] => true
  | a :: as, b :: bs => D.beq a b && D.beqs as bs
  | _, _ => false
end
mutual
theorem D.eq_of_beq : ∀ a b : D, D.beq a b = true → a = b
  | .non, b, h => by cases b <;> simp [D.beq] at h ⊢
  | .bl _, b, h => by cases b <;> simp [D.beq] at h ⊢; exact h
  | .int _, b, h => by cases b <;> simp [D.beq] at h ⊢; exact h
  | .str _, b, h => by cases b <;> simp [D.beq] at h ⊢; exact h
  | .tup xs, b, h => by
    cases b with
    | tup ys => simp only [D.beq] at h; rw [D.eq_of_beqs xs ys h]
    | _ => simp [D.beq] at h
  | .ref _, b, h => by cases b <;> simp [D.beq] at h ⊢; exact h
  | .fn _, b, h => by cases b <;> simp [D.beq] at h ⊢; exact h
theorem D.eq_of_beqs : ∀ a b : List D, D.beqs a b = true → a = b
  | [], [], _ => rfl
  | [], _ :: _, h => by simp [D.beqs] at h
  | _ :: _, [], h => by simp [D.beqs] at h
  | a :: as, b :: bs, h => by
    simp only [D.beqs, Bool.and_eq_true] at h
    rw [D.eq_of_beq a b h.1, D.eq_of_beqs as bs h.2]
end
mutual
theorem D.beq_self : ∀ a : D, D.beq a a = true
  | .non => rfl
  | .bl _ => by simp [D.beq]
  | .int _ => by simp [D.beq]
  | .str _ => by simp [D.beq]
  | .tup xs => by simp only [D.beq]; exact D.beqs_self xs
  | .ref _ => by simp [D.beq]
  | .fn _ => by simp [D.beq]
theorem D.beqs_self : ∀ a : List D, D.beqs a a = true
  | [] => rfl
  | a :: as => by simp only [D.beqs, D.beq_self a, D.beqs_self as]; rfl
end
instance : DecidableEq D := fun a b => if h : D.beq a b = true then .isTrue (D.eq_of_beq a b h) else .isFalse fun e => h (e ▸ D.beq_self a)

/-- what a ref names: a list, a dict (lk: it may not be written now) -/
inductive AO where
  | lst (xs : List D) (lk : Bool)
  | dct (kvs : List (D × D)) (lk : Bool)
  deriving DecidableEq, Inhabited
abbrev AH := List AO
abbrev St := List (Option D)

mutual
/-- no refs within -/
def D.flat : D → Bool
  | .ref _ => false
  | .tup xs => D.flats xs
  | _ => true
def D.flats : List D → Bool
  | [] => true
  | x :: xs => D.flat x && D.flats xs
end
mutual
/-- all refs below n -/
def D.under (n : Nat) : D → Bool
  | .ref k => decide (k < n)
  | .tup xs => D.unders n xs
  | _ => true
def D.unders (n : Nat) : List D → Bool
  | [] => true
  | x :: xs => D.under n x && D.unders n xs
end
def AO.flat : AO → Bool
  | .lst xs _ => D.flats xs
  | .dct kvs _ => D.flats (kvs.map (·.1)) && D.flats (kvs.map (·.2))

inductive R (α : Type) where
  | ok (a : α) (h : AH) | ex (c : Nat) (p : D) (h : AH) | bad
def R.bind {α β : Type} : R α → (α → AH → R β) → R β
  | .ok a h, f => f a h
  | .ex c p h, _ => .ex c p h
  | .bad, _ => .bad
def R.opt {α : Type} (h : AH) : Option α → R α
  | some a => .ok a h
  | none => .bad
/-- nothing raises here -/
def R.calm {α : Type} : R α → R α
  | .ex _ _ _ => .bad
  | r => r
inductive RS where
  | nx (ρ : St) (h : AH) | rt (d : D) (h : AH) | bk (ρ : St) (h : AH) | ct (ρ : St) (h : AH) | ex (c : Nat) (p : D) (ρ : St) (h : AH) | bad

/-! ## the old part of a heap stands, but for flat things -/
def olds : AH → AH → Bool
  | [], _ => true
  | o :: h, o' :: h' => (o'.flat || decide (o = o')) && olds h h'
  | _ :: _, [] => false
/-- behind a call: what was made anew and is not told goes -/
def R.ret (h : AH) : R D → R D
  | .ok d h' =>
    if olds h h' then
      if d.flat then .ok d (h'.take h.length)
      else match d with
        | .ref r => match h'[r]? with
          | some o => if o.flat && decide (h.length ≤ r) then .ok (.ref h.length) (h'.take h.length ++ [o]) else .ok d h'
          | none => .ok d h'
        | _ => .ok d h'
    else .ok d h'
  | .ex c p h' => if olds h h' && p.flat then .ex c p (h'.take h.length) else .ex c p h'
  | .bad => .bad
/-- behind a turn: the refs from n on that names still hold -/
def liveR (n : Nat) : St → List Nat → List Nat
  | [], acc => acc
  | some (.ref r) :: ρ, acc => if decide (n ≤ r) && !acc.contains r then liveR n ρ (acc ++ [r]) else liveR n ρ acc
  | _ :: ρ, acc => liveR n ρ acc
def renD (n : Nat) (ks : List Nat) (d : D) : Option D :=
  if d.under n then some d else match d with
    | .ref r => if ks.contains r then some (.ref (n + ks.idxOf r)) else none
    | _ => none
def renS (n : Nat) (ks : List Nat) (ρ : St) : St := ρ.map (·.bind (renD n ks))
def wipeS (ρ : St) : List Nat → St
  | [] => ρ
  | i :: r => (wipeS ρ r).set i none
def gcS (h h' : AH) (kill : List Nat) (ρ : St) : St × AH :=
  let ρ1 := wipeS ρ kill
  if olds h h' then
    let ks := liveR h.length ρ1 []
    match ks.mapM (fun r => h'[r]?) with
    | some os => if os.all AO.flat then (renS h.length ks ρ1, h'.take h.length ++ os) else (ρ1, h')
    | none => (ρ1, h')
  else (ρ1, h')
def RS.gc (h : AH) (kill : List Nat) : RS → RS
  | .nx ρ h' => .nx (gcS h h' kill ρ).1 (gcS h h' kill ρ).2
  | .ct ρ h' => .ct (gcS h h' kill ρ).1 (gcS h h' kill ρ).2
  | r => r

/-! ## the core language -/
inductive Tg where
  | nm (i : Nat) | tp (is : List Nat)
inductive B1 where
  | int | abs | bool | str | repr
inductive B2 where
  | min | max
inductive BQ where
  | all | any | sum | len | tuple | min | max
inductive ITy where
  | int | str | bool | tuple | list | dict
  deriving DecidableEq

mutual
inductive CE where
  | var (i : Nat)
  | cst (d : D)
  | glb (i : Nat)
  | bin (op : Operator) (a b : CE)
  | neg (a : CE)
  | not (a : CE)
  | and (a b : CE)
  | or (a b : CE)
  | cmp (op : CmpOp) (a b : CE)
  | cmpL (op : CmpOp) (a : CE) (l : CL)
  | chn (op op' : CmpOp) (a b c : CE)
  | ite (c a b : CE)
  | tup (es : CEs)
  | new (l : CL)
  | ix (a i : CE)
  | slc (a lo hi : CE)
  | call (f : Nat) (es : CEs)
  | b1 (f : B1) (a : CE)
  | b2 (f : B2) (a b : CE)
  | bq (f : BQ) (q : CQ)
  | isi (a : CE) (t : ITy)
  | append (o : CE) (e : CE)
  | extend (o : CE) (q : CQ)
  | pop (o : CE)
  | newd (d : CD)
  | update (o : CE) (d : CD)
  | dget (o k : CE)
  | dget2 (o k e : CE)
  | lenS (q : CQ)
  | never
inductive CEs where
  | nil
  | cons (e : CE) (es : CEs)
  | star (q : CQ) (es : CEs)
/-- a list made anew, not named yet -/
inductive CL where
  | disp (es : CEs)
  | comp (elt : CE) (tg : Tg) (it : CI) (ifs : CEs) (own : List Nat)
  | comp2 (elt : CE) (tg : Tg) (it : CI) (ifs : CEs) (tg2 : Tg) (it2 : CI) (ifs2 : CEs) (own : List Nat) (own2 : List Nat)
  | sortedS (q : CQ)
  | sorted (q : CQ)
  | list (q : CQ)
  | catE (a : CE) (b : CQ)
  | catL (a : CL) (b : CQ)
  | rep (a : CL) (n : CE)
  | slc (q : CE) (lo hi : CE)
  | ite (c : CE) (a b : CL)
  | range (it : CI)
/-- a dict made anew, not named yet -/
inductive CD where
  | disp (kvs : CPs)
  | comp (k v : CE) (tg : Tg) (it : CI) (ifs : CEs) (own : List Nat)
inductive CPs where
  | nil
  | cons (k v : CE) (r : CPs)
/-- a list or a tuple to be read at once; a dict's keys, a set's items -/
inductive CQ where
  | e (a : CE)
  | l (a : CL)
  | d (a : CD)
  | s (a : CQ)
/-- what is walked -/
inductive CI where
  | q (a : CQ)
  | rng1 (a : CE) | rng2 (a b : CE) | rng3 (a b c : CE)
  | enum (a : CQ)
  | zip (a b : CQ)
  | items (a : CE)
  | values (a : CE)
end
mutual
inductive CS where
  | expr (e : CE)
  | set (i : Nat) (e : CE)
  | unp (tg : List Nat) (e : CE)
  | par (tg : List Nat) (es : CEs)
  | setIx (o i v : CE)
  | parIx (o1 i1 o2 i2 v1 v2 : CE)
  | aug (i : Nat) (op : Operator) (e : CE)
  | augIx (o i : CE) (op : Operator) (e : CE)
  | ret (e : CE)
  | ife (c : CE) (a b : CSs)
  | fore (tg : Tg) (it : CI) (body : CSs) (kill : List Nat)
  | whle (c : CE) (body : CSs) (kill : List Nat)
  | brk | cnt | pass
  | raise (c : Nat) (p : CE)
  | never
inductive CSs where
  | nil
  | cons (s : CS) (r : CSs)
end
structure CFun where
  np : Nat
  ns : Nat
  body : CSs
structure GE where
  globs : List D
  fns : List CFun
  fuel : Nat

/-! ## primitive operations -/
/-- data to be compared -/
def D.pd (h : AH) : Nat → D → Option PyData
  | 0, _ => none
  | k + 1, d => match d with
    | .non => some .none
    | .bl b => some (.bool b)
    | .int i => some (.int i)
    | .str x => some (.str x)
    | .tup xs => (xs.mapM (D.pd h k)).map .tuple
    | .ref n => match h[n]? with
      | some (.lst xs _) => (xs.mapM (D.pd h k)).map .list
      | _ => none
    | .fn _ => none
def cmpEq (h : AH) (a b : D) : Option Bool :=
  match a.pd h 60, b.pd h 60 with
  | some x, some y => if SeqAt.shaped x && SeqAt.shaped y then some (PyData.eqv x y) else none
  | _, _ => none
mutual
/-- as data, where no refs are within -/
def D.toP : D → PyData
  | .non => .none
  | .bl b => .bool b
  | .int i => .int i
  | .str x => .str x
  | .tup xs => .tuple (D.toPs xs)
  | .ref _ => .dict []
  | .fn _ => .dict []
def D.toPs : List D → List PyData
  | [] => []
  | x :: xs => x.toP :: D.toPs xs
end
def binD : Operator → D → D → Option D
  | .Add, .int i, .int j => some (.int (i + j))
  | .Add, .str x, .str y => if x.length + y.length ≤ sizeLine then some (.str (x ++ y)) else none
  | .Add, .tup xs, .tup ys => if xs.length + ys.length ≤ sizeLine then some (.tup (xs ++ ys)) else none
  | .Sub, .int i, .int j => some (.int (i - j))
  | .Mult, .int i, .int j => if i.natAbs.log2 + j.natAbs.log2 ≤ 900000 then some (.int (i * j)) else none
  | .Mult, .tup xs, .int j => if 2 ≤ j ∧ j ≤ 1000 ∧ xs.length ≤ 1000 ∧ xs ≠ [] then some (.tup (List.replicate j.toNat xs).flatten) else none
  | .FloorDiv, .int i, .int j => if 0 < j ∧ j.natAbs.log2 < 9000 then some (.int (i / j)) else none
  | .Mod, .int i, .int j => if 0 < j then some (.int (i % j)) else none
  | .Pow, .int i, .int j => if 0 ≤ j ∧ j ≤ 100000 ∧ (i.natAbs.log2 + 1) * j.toNat ≤ 100000000 then some (.int (i ^ j.toNat)) else none
  | .BitAnd, .int i, .int j => some (.int (Builtin.bitAnd i j))
  | .BitOr, .int i, .int j => some (.int (Builtin.bitOr i j))
  | .LShift, .int i, .int j => if 0 ≤ j ∧ j ≤ 1000000 ∧ i.natAbs < 2 ^ 64 then some (.int (i * 2 ^ j.toNat)) else none
  | .RShift, .int i, .int j => if 0 ≤ j then some (.int (i / 2 ^ j.toNat)) else none
  | _, _, _ => none
/-- what is asked: a list or a tuple; a dict's keys, a set's items, too; a list that may be written -/
inductive Md where
  | q | k | l
  deriving DecidableEq
def seqD (m : Md) (h : AH) : D → Option (List D)
  | .tup xs => if m = .l then none else some xs
  | .ref n => match h[n]? with
    | some (.lst xs lk) => if m = .l ∧ lk = true then none else some xs
    | some (.dct kvs _) => if m = .k then some (kvs.map (·.1)) else none
    | none => none
  | _ => none
/-- a key that a dict may have: (is it a tuple, the key) -/
def D.nk : Nat → D → Option NestedKey
  | 0, _ => none
  | k + 1, d => match d with
    | .non => some .none
    | .bl b => some (.num (if b = true then 1 else 0))
    | .int i => some (.num i)
    | .str x => some (.text x)
    | .tup xs => (xs.mapM (D.nk k)).map .tup
    | _ => none
def D.key (d : D) : Option (Bool × NestedKey) := match d with
  | .int i => some (false, .num i)
  | .str x => some (false, .text x)
  | .tup xs => (D.nk 8 (.tup xs)).map fun k => (true, k)
  | _ => none
def sameKey (a b : D) : Bool := match a.key, b.key with
  | some x, some y => decide (x = y)
  | _, _ => false
/-- may it be asked for in a dict of these -/
def fits (kvs : List (D × D)) (k : D) : Bool := match k.key with
  | some (t, _) => kvs.all fun kv => match kv.1.key with | some (u, _) => t == u | none => false
  | none => false
def dget (kvs : List (D × D)) (k : D) : Option D := (kvs.find? fun kv => sameKey kv.1 k).map (·.2)
def dput : List (D × D) → D → D → List (D × D)
  | [], k, v => [(k, v)]
  | (k', v') :: r, k, v => if sameKey k' k then (k', v) :: r else (k', v') :: dput r k v
/-- each key once, where it came first -/
def dedup : List D → List D → List D
  | acc, [] => acc.reverse
  | acc, x :: xs => if acc.any (sameKey · x) then dedup acc xs else dedup (x :: acc) xs
/-- keys that may stand in one dict or set -/
def keysOk (xs : List D) : Bool := xs.all fun x => fits (xs.map fun y => (y, .non)) x
def seqIn (h : AH) (a b : D) : Option Bool :=
  match a.pd h 60, b.pd h 60 with
  | some p, some (.list ds) => if SeqAt.shaped p && PyData.canLayAll0 ds then some (ds.any fun z => PyData.eqv z p) else none
  | some p, some (.tuple ds) => if SeqAt.shaped p && PyData.canLayAll0 ds then some (ds.any fun z => PyData.eqv z p) else none
  | _, _ => none
def cmpIn (h : AH) (a b : D) : Option Bool :=
  match b with
  | .ref n => match h[n]? with
    | some (.dct kvs _) => if fits kvs a then some (dget kvs a).isSome else none
    | _ => seqIn h a b
  | _ => seqIn h a b
mutual
/-- no refs, no defs within -/
def D.data : D → Bool
  | .ref _ => false
  | .fn _ => false
  | .tup xs => D.datas xs
  | _ => true
def D.datas : List D → Bool
  | [] => true
  | x :: xs => D.data x && D.datas xs
end
/-- the two can be ordered -/
def orderly (a b : D) : Bool := a.data && b.data && PySem.W.alike a.toP b.toP && decide (a ≠ .non) && decide (a.toP.depth ≤ 50)
/-- a < b for ints, texts, tuples -/
def ltD : D → D → Option Bool
  | .int i, .int j => some (decide (i < j))
  | a, b => if orderly a b then some (PySem.W.dataLt a.toP b.toP) else none
def gtD : D → D → Option Bool
  | .int i, .int j => some (decide (j < i))
  | a, b => if orderly a b then some (PySem.W.dataLt b.toP a.toP) else none
def leD' : D → D → Option Bool
  | .int i, .int j => some (decide (i ≤ j))
  | a, b => if orderly a b then some (!PySem.W.dataLt b.toP a.toP) else none
def geD' : D → D → Option Bool
  | .int i, .int j => some (decide (j ≤ i))
  | a, b => if orderly a b then some (!PySem.W.dataLt a.toP b.toP) else none
def cmpD (h : AH) : CmpOp → D → D → Option Bool
  | .Eq, a, b => cmpEq h a b
  | .NotEq, a, b => (cmpEq h a b).map (!·)
  | .Lt, a, b => ltD a b
  | .Gt, a, b => gtD a b
  | .LtE, a, b => leD' a b
  | .GtE, a, b => geD' a b
  | .Is, a, .non => some (decide (a = .non))
  | .IsNot, a, .non => some (!decide (a = .non))
  | .Is, .bl a, .bl b => some (decide (a = b))
  | .IsNot, .bl a, .bl b => some (!decide (a = b))
  | .In, a, b => cmpIn h a b
  | .NotIn, a, b => (cmpIn h a b).map (!·)
  | _, _, _ => none
def ixD (h : AH) : D → D → Option D
  | .tup xs, .int i => L2.atI xs i
  | .str z, .int i => if z.length ≤ sizeLine then (L2.atI z.cps.toList i).map fun c => .str ⟨#[c]⟩ else none
  | .ref n, k => match h[n]? with
    | some (.lst xs _) => match k with | .int i => L2.atI xs i | _ => none
    | some (.dct kvs _) => if fits kvs k then dget kvs k else none
    | none => none
  | _, _ => none
def gxD (h : AH) : D → D → Option D
  | .ref n, k => ixD h (.ref n) k
  | _, _ => none
/-- a op= b -/
def augD : Operator → D → D → Option D
  | .Add, .int i, .int j => some (.int (i + j))
  | .Sub, .int i, .int j => some (.int (i - j))
  | .Mult, .int i, .int j => if i.natAbs.log2 + j.natAbs.log2 ≤ 900000 then some (.int (i * j)) else none
  | .BitAnd, .int i, .int j => some (.int (Builtin.bitAnd i j))
  | .BitOr, .int i, .int j => some (.int (Builtin.bitOr i j))
  | .Add, .str x, .str y => if x.length + y.length ≤ sizeLine then some (.str (x ++ y)) else none
  | _, _, _ => none
def cutD (xs : List D) (lo hi : Option Int) : List D := (xs.drop (HT.sIx xs.length 0 lo)).take (HT.sIx xs.length xs.length hi - HT.sIx xs.length 0 lo)
def partD : D → Option (Option Int)
  | .non => some none
  | .int i => some (some i)
  | _ => none
def allD : List D → Option (List Bool)
  | [] => some []
  | .bl b :: r => (allD r).map (b :: ·)
  | _ :: _ => none
def intsD : List D → Option (List Int)
  | [] => some []
  | .int i :: r => (intsD r).map (i :: ·)
  | _ :: _ => none
/-- ints, rising, each once -/
def insU (x : Int) : List Int → List Int
  | [] => [x]
  | y :: ys => if x < y then x :: y :: ys else if x = y then y :: ys else y :: insU x ys
def setI : List Int → List Int
  | [] => []
  | x :: xs => insU x (setI xs)
def setD (xs : List D) : Option (List Int) := (intsD xs).bind fun ns => if ns.length < 1000 then some ns else none
/-- all can be compared with one another -/
def cmpable (xs : List D) : Bool := D.datas xs && (xs.all fun a => xs.all fun b => PySem.W.alike a.toP b.toP) && (xs.all fun a => decide (a ≠ .non) && decide (a.toP.depth ≤ 50))
def ltB (a b : D) : Bool := PySem.W.dataLt a.toP b.toP
/-- the least, the greatest: the first of equal ones -/
def leastD (xs : List D) (x : D) : D := xs.foldl (fun a y => if ltB y a then y else a) x
def mostD (xs : List D) (x : D) : D := xs.foldl (fun a y => if ltB a y then y else a) x
/-- all can be sorted together -/
def sortableD (xs : List D) : Bool :=
  D.datas xs && (xs.all fun a => xs.all fun b => PySem.W.alike a.toP b.toP) && (xs.all fun a => decide (a.toP.depth ≤ 50)) &&
    ((xs.all fun a => match a with | .tup (_ :: _) => true | _ => false) || (xs.all fun a => match a with | .tup _ => false | .non => false | _ => true)) && decide (xs.length ≤ sizeLine)
def insD (le : D → D → Bool) (x : D) : List D → List D
  | [] => [x]
  | y :: ys => if le x y then x :: y :: ys else y :: insD le x ys
def isortD (le : D → D → Bool) : List D → List D
  | [] => []
  | x :: xs => insD le x (isortD le xs)
def leD (a b : D) : Bool := !PySem.W.dataLt b.toP a.toP
def sortD (xs : List D) : Option (List D) := if sortableD xs then some (isortD leD xs) else none
def isiD (h : AH) : D → ITy → Option Bool
  | .int _, .int => some true
  | .bl _, .int => some true
  | .bl _, .bool => some true
  | .str _, .str => some true
  | .tup _, .tuple => some true
  | .ref n, t => match h[n]? with
    | some (.lst _ _) => some (decide (t = .list))
    | some (.dct _ _) => some (decide (t = .dict))
    | none => none
  | .fn _, _ => none
  | _, _ => some false

def atS (ρ : St) (i : Nat) : Option D := (ρ[i]?).join
def setS : List Nat → List D → St → St
  | i :: is, d :: ds, ρ => setS is ds (ρ.set i (some d))
  | _, _, ρ => ρ
def asgD (h : AH) : Tg → D → St → Option St
  | .nm i, d, ρ => some (ρ.set i (some d))
  | .tp is, .tup ds, ρ => if ds.length = is.length then some (setS is ds ρ) else none
  | .tp is, .ref n, ρ => match h[n]? with
    | some (.lst ds _) => if ds.length = is.length then some (setS is ds ρ) else none
    | _ => none
  | _, _, _ => none

/-! ## locks: what is walked -/
/-- the dict that is locked by this walk -/
def lk1 (h : AH) : List Nat → Option (Nat × List (D × D))
  | [n] => match h[n]? with
    | some (.dct kvs false) => some (n, kvs)
    | _ => none
  | _ => none
def lockH (ws : List Nat) (h : AH) : AH := match lk1 h ws with
  | some p => h.set p.1 (.dct p.2 true)
  | none => h
def unlockH (h0 : AH) (ws : List Nat) (h : AH) : Option AH := match lk1 h0 ws with
  | some p => if h[p.1]? = some (.dct p.2 true) then some (h.set p.1 (.dct p.2 false)) else none
  | none => some h
def sameH (h0 : AH) (ws : List Nat) (h : AH) : Bool := ws.all fun n => decide (h[n]? = h0[n]?)
def R.unlock {α : Type} (h0 : AH) (ws : List Nat) : R α → R α
  | .ok a h => match unlockH h0 ws h with | some h => .ok a h | none => .bad
  | .ex c p h => match lk1 h0 ws with | none => .ex c p h | some _ => .bad
  | .bad => .bad
def R.noLk {α : Type} (h0 : AH) (ws : List Nat) (r : R α) : R α := match lk1 h0 ws with | none => r | some _ => .bad
def RS.unlock (h0 : AH) (ws : List Nat) : RS → RS
  | .nx ρ h => match unlockH h0 ws h with | some h => .nx ρ h | none => .bad
  | .rt d h => match unlockH h0 ws h with | some h => .rt d h | none => .bad
  | .bk ρ h => match unlockH h0 ws h with | some h => .bk ρ h | none => .bad
  | .ct ρ h => match unlockH h0 ws h with | some h => .ct ρ h | none => .bad
  | .ex c p ρ h => match lk1 h0 ws with | none => .ex c p ρ h | some _ => .bad
  | .bad => .bad

/-! ## loops -/
/-- one comprehension turn after another: el makes the items of one turn -/
def compGo (sm : AH → Bool) (el : D → AH → R (List D)) : List D → AH → R (List D)
  | [], h => if sm h then .ok [] h else .bad
  | x :: xs, h => if sm h then (el x h).bind fun ys h1 => (compGo sm el xs h1).bind fun zs h2 => if ys.length + zs.length ≤ sizeLine then .ok (ys ++ zs) h2 else .bad else .bad
def forGo (sm : AH → Bool) (body : D → St → AH → RS) : List D → St → AH → RS
  | [], ρ, h => if sm h then .nx ρ h else .bad
  | x :: xs, ρ, h => if sm h then match body x ρ h with
      | .nx ρ1 h1 => forGo sm body xs ρ1 h1
      | .ct ρ1 h1 => forGo sm body xs ρ1 h1
      | .bk ρ1 h1 => .nx ρ1 h1
      | r => r
    else .bad
def whileGo (c : St → AH → R D) (body : St → AH → RS) : Nat → St → AH → RS
  | 0, _, _ => .bad
  | n + 1, ρ, h => match c ρ h with
    | .ok (.bl true) h1 => match body ρ h1 with
      | .nx ρ1 h2 => whileGo c body n ρ1 h2
      | .ct ρ1 h2 => whileGo c body n ρ1 h2
      | .bk ρ1 h2 => .nx ρ1 h2
      | r => r
    | .ok (.bl false) h1 => .nx ρ h1
    | .ex k p h1 => .ex k p ρ h1
    | _ => .bad
def rangeD (lo : Int) (n : Nat) (c : Int) : List D := (List.range n).map fun (i : Nat) => .int (lo + (i : Int) * c)
def small62 (i : Int) : Bool := decide (-(2 ^ 62) ≤ i) && decide (i < 2 ^ 62)
def pairsD : List D → List D → List D
  | x :: xs, y :: ys => .tup [x, y] :: pairsD xs ys
  | _, _ => []
def enumD : Nat → List D → List D
  | _, [] => []
  | k, x :: xs => .tup [.int (k : Int), x] :: enumD (k + 1) xs

def flatK : D → Bool
  | .int _ => true
  | .str _ => true
  | _ => false
def pairFst : D → D
  | .tup [a, _] => a
  | _ => .non
def pairSnd : D → D
  | .tup [_, b] => b
  | _ => .non
/-! ## the evaluator -/
section
variable (G : GE) (cl : Nat → List D → AH → R D)
def b1D (h : AH) : B1 → D → Option D
  | .int, .int i => some (.int i)
  | .int, .bl b => some (.int (if b = true then 1 else 0))
  | .abs, .int i => some (.int (if i < 0 then -i else i))
  | .bool, .bl b => some (.bl b)
  | .bool, .int i => some (.bl (i != 0))
  | _, _ => none
def b2D : B2 → D → D → Option D
  | .max, .int i, .int j => some (.int (if j > i then j else i))
  | .min, .int i, .int j => some (.int (if j < i then j else i))
  | _, _, _ => none
def bqD : BQ → List D → Option D
  | .all, xs => (allD xs).map fun bs => .bl (bs.all id)
  | .any, xs => (allD xs).map fun bs => .bl (bs.any id)
  | .sum, xs => (intsD xs).map fun ns => .int ns.sum
  | .len, xs => some (.int xs.length)
  | .tuple, xs => some (.tup xs)
  | .min, x :: xs => if cmpable (x :: xs) then some (leastD xs x) else none
  | .max, x :: xs => if cmpable (x :: xs) then some (mostD xs x) else none
  | _, [] => none
/-- it names a list, a dict -/
def lstN (h : AH) : D → Option Nat
  | .ref n => match h[n]? with
    | some (.lst _ _) => some n
    | _ => none
  | _ => none
def dctN (h : AH) : D → Option Nat
  | .ref n => match h[n]? with
    | some (.dct _ _) => some n
    | _ => none
  | _ => none
def refsOf : D → List Nat
  | .ref n => [n]
  | _ => []
mutual
def evE : CE → St → AH → R D
  | .var i, ρ, h => R.opt h (atS ρ i)
  | .cst d, _, h => .ok d h
  | .glb i, _, h => R.opt h (G.globs[i]?)
  | .bin op a b, ρ, h => (evE a ρ h).bind fun x h => (evE b ρ h).bind fun y h => R.opt h (binD op x y)
  | .neg a, ρ, h => (evE a ρ h).bind fun x h => match x with | .int i => .ok (.int (-i)) h | _ => .bad
  | .not a, ρ, h => (evE a ρ h).bind fun x h => match x with | .bl b => .ok (.bl (!b)) h | _ => .bad
  | .and a b, ρ, h => (evE a ρ h).bind fun x h => match x with | .bl true => evE b ρ h | .bl false => .ok (.bl false) h | _ => .bad
  | .or a b, ρ, h => (evE a ρ h).bind fun x h => match x with | .bl true => .ok (.bl true) h | .bl false => evE b ρ h | _ => .bad
  | .cmp op a b, ρ, h => (evE a ρ h).bind fun x h => (evE b ρ h).bind fun y h => (R.opt h (cmpD h op x y)).bind fun b h => .ok (.bl b) h
  | .cmpL op a l, ρ, h => (evE a ρ h).bind fun x h => (evL l ρ h).bind fun ys h => (R.opt h (cmpD (h ++ [.lst ys false]) op x (.ref h.length))).bind fun b h => .ok (.bl b) h
  | .chn op op' a b c, ρ, h => (evE a ρ h).bind fun x h => (evE b ρ h).bind fun y h => (R.opt h (cmpD h op x y)).bind fun r h =>
      if r then (evE c ρ h).bind fun z h => (R.opt h (cmpD h op' y z)).bind fun b h => .ok (.bl b) h else .ok (.bl false) h
  | .ite c a b, ρ, h => (evE c ρ h).bind fun x h => match x with | .bl true => evE a ρ h | .bl false => evE b ρ h | _ => .bad
  | .tup es, ρ, h => (evEs es ρ h).bind fun xs h => if xs.length ≤ sizeLine then .ok (.tup xs) h else .bad
  | .new l, ρ, h => (evL l ρ h).bind fun xs h => .ok (.ref h.length) (h ++ [.lst xs false])
  | .ix a i, ρ, h => (evE a ρ h).bind fun x h => (evE i ρ h).bind fun y h => R.opt h (ixD h x y)
  | .slc a lo hi, ρ, h => (evE a ρ h).bind fun x h => ((evE lo ρ h).bind fun l h => R.opt h (partD l)).bind fun l h => ((evE hi ρ h).bind fun u h => R.opt h (partD u)).bind fun u h => match x with
      | .tup xs => .ok (.tup (cutD xs l u)) h
      | _ => .bad
  | .call f es, ρ, h => (evEs es ρ h).bind fun xs h => cl f xs h
  | .b1 f a, ρ, h => (evE a ρ h).bind fun x h => R.opt h (b1D h f x)
  | .b2 f a b, ρ, h => (evE a ρ h).bind fun x h => (evE b ρ h).bind fun y h => R.opt h (b2D f x y)
  | .bq f q, ρ, h => (evQ (match f with | .len => .k | _ => .q) q ρ h).bind fun xs h => R.opt h (bqD f xs)
  | .isi a t, ρ, h => (evE a ρ h).bind fun x h => (R.opt h (isiD h x t)).bind fun b h => .ok (.bl b) h
  | .append o e, ρ, h => ((evE o ρ h).bind fun x h => R.opt h (lstN h x)).bind fun n h => (evE e ρ h).bind fun y h => match h[n]? with
        | some (.lst xs false) => if xs.length < sizeLine then .ok .non (h.set n (.lst (xs ++ [y]) false)) else .bad
        | _ => .bad
  | .extend o q, ρ, h => ((evE o ρ h).bind fun x h => R.opt h (lstN h x)).bind fun n h => (evQ .l q ρ h).bind fun ys h => match h[n]? with
        | some (.lst xs false) => if xs.length + ys.length ≤ sizeLine then .ok .non (h.set n (.lst (xs ++ ys) false)) else .bad
        | _ => .bad
  | .pop o, ρ, h => ((evE o ρ h).bind fun x h => R.opt h (lstN h x)).bind fun n h => match h[n]? with
        | some (.lst xs false) => match xs.getLast? with
          | some y => .ok y (h.set n (.lst xs.dropLast false))
          | none => .bad
        | _ => .bad
  | .newd d, ρ, h => (evD d ρ h).bind fun kvs h => .ok (.ref h.length) (h ++ [.dct kvs false])
  | .update o d, ρ, h => ((evE o ρ h).bind fun x h => R.opt h (dctN h x)).bind fun n h => (evD d ρ h).bind fun more h => match h[n]? with
        | some (.dct kvs false) => if keysOk ((kvs ++ more).map (·.1)) && decide (kvs.length + more.length ≤ sizeLine) then .ok .non (h.set n (.dct (more.foldl (fun acc kv => dput acc kv.1 kv.2) kvs) false)) else .bad
        | _ => .bad
  | .dget o k, ρ, h => ((evE o ρ h).bind fun x h => R.opt h (dctN h x)).bind fun n h => (evE k ρ h).bind fun y h => match h[n]? with
        | some (.dct kvs _) => if fits kvs y then .ok ((dget kvs y).getD .non) h else .bad
        | _ => .bad
  | .dget2 o k e, ρ, h => ((evE o ρ h).bind fun x h => R.opt h (dctN h x)).bind fun n h => (evE k ρ h).bind fun y h => (evE e ρ h).bind fun z h => match h[n]? with
        | some (.dct kvs _) => if fits kvs y then .ok ((dget kvs y).getD z) h else .bad
        | _ => .bad
  | .lenS q, ρ, h => ((evQ .q q ρ h).bind fun xs h => R.opt h (setD xs)).bind fun ns h => R.opt h (some (.int (setI ns).length))
  | .never, _, _ => .bad
def evEs : CEs → St → AH → R (List D)
  | .nil, _, h => .ok [] h
  | .cons e es, ρ, h => (evE e ρ h).bind fun x h => (evEs es ρ h).bind fun xs h => .ok (x :: xs) h
  | .star q es, ρ, h => (evQ .q q ρ h).bind fun ys h => (evEs es ρ h).bind fun xs h => .ok (ys ++ xs) h
/-- all of these tests hold -/
def evIfs : CEs → St → AH → R Bool
  | .nil, _, h => .ok true h
  | .cons e es, ρ, h => (evE e ρ h).bind fun x h => match x with | .bl true => evIfs es ρ h | .bl false => .ok false h | _ => .bad
  | .star _ _, _, _ => .bad
def evL : CL → St → AH → R (List D)
  | .disp es, ρ, h => (evEs es ρ h).bind fun xs h => if xs.length ≤ sizeLine then .ok xs h else .bad
  | .comp elt tg it ifs own, ρ, h => (evI it ρ h).bind fun xw h0 =>
      R.unlock h0 xw.2 (R.calm (compGo (sameH (lockH xw.2 h0) xw.2) (fun x h => match asgD h tg x (wipeS ρ own) with
        | some ρ1 => (evIfs ifs ρ1 h).bind fun b h => if b then (evE elt ρ1 h).bind fun y h => .ok [y] h else .ok [] h
        | none => .bad) xw.1 (lockH xw.2 h0)))
  | .comp2 elt tg it ifs tg2 it2 ifs2 own own2, ρ, h => (evI it ρ h).bind fun xw h0 =>
      R.unlock h0 xw.2 (R.calm (compGo (sameH (lockH xw.2 h0) xw.2) (fun x h => match asgD h tg x (wipeS ρ own) with
        | some ρ1 => (evIfs ifs ρ1 h).bind fun b h => if b then (evI it2 ρ1 h).bind fun xw2 h2 =>
            R.noLk h2 xw2.2 (compGo (sameH h2 xw2.2) (fun x2 h => match asgD h tg2 x2 (wipeS ρ1 own2) with
              | some ρ2 => (evIfs ifs2 ρ2 h).bind fun b h => if b then (evE elt ρ2 h).bind fun y h => .ok [y] h else .ok [] h
              | none => .bad) xw2.1 h2)
          else .ok [] h
        | none => .bad) xw.1 (lockH xw.2 h0)))
  | .sorted q, ρ, h => (evQ .k q ρ h).bind fun xs h => R.opt h (sortD xs)
  | .sortedS q, ρ, h => ((evQ .q q ρ h).bind fun xs h => R.opt h (setD xs)).bind fun ns h => if (setI ns).length < 64 then .ok ((setI ns).map D.int) h else .bad
  | .list q, ρ, h => evQ .k q ρ h
  | .catE a b, ρ, h => (evE a ρ h).bind fun x h => (evQ .l b ρ h).bind fun ys h => match x with
      | .ref n => match h[n]? with
        | some (.lst xs false) => if xs.length + ys.length ≤ sizeLine then .ok (xs ++ ys) h else .bad
        | _ => .bad
      | _ => .bad
  | .catL a b, ρ, h => (evL a ρ h).bind fun xs h => (evQ .l b ρ h).bind fun ys h => if xs.length + ys.length ≤ sizeLine then .ok (xs ++ ys) h else .bad
  | .rep a n, ρ, h => (evL a ρ h).bind fun xs h => (evE n ρ h).bind fun x h => match x with
      | .int k => if -(2 ^ 63) ≤ k ∧ k < 2 ^ 63 ∧ xs.length * k.toNat ≤ sizeLine then .ok (List.replicate k.toNat xs).flatten h else .bad
      | _ => .bad
  | .slc q lo hi, ρ, h => (evE q ρ h).bind fun x h => ((evE lo ρ h).bind fun l h => R.opt h (partD l)).bind fun l h => ((evE hi ρ h).bind fun u h => R.opt h (partD u)).bind fun u h => match x with
      | .ref n => match h[n]? with
        | some (.lst xs _) => .ok (cutD xs l u) h
        | _ => .bad
      | _ => .bad
  | .ite c a b, ρ, h => (evE c ρ h).bind fun x h => match x with | .bl true => evL a ρ h | .bl false => evL b ρ h | _ => .bad
  | .range it, ρ, h => (evI it ρ h).bind fun xw h => if xw.1.length ≤ sizeLine then .ok xw.1 h else .bad
def evQ (dk : Md) : CQ → St → AH → R (List D)
  | .e a, ρ, h => (evE a ρ h).bind fun d h => R.opt h (seqD dk h d)
  | .l a, ρ, h => evL a ρ h
  | .d a, ρ, h => if dk = .k then (evD a ρ h).bind fun kvs h => .ok (kvs.map (·.1)) h else .bad
  | .s a, ρ, h => if dk = .k then (evQ .k a ρ h).bind fun xs h => if keysOk xs then .ok (dedup [] xs) h else .bad else .bad
def evD : CD → St → AH → R (List (D × D))
  | .disp kvs, ρ, h => (evPairs kvs ρ h).bind fun kvs h => if keysOk (kvs.map (·.1)) && decide (kvs.length ≤ 15) then .ok (kvs.foldl (fun acc kv => dput acc kv.1 kv.2) []) h else .bad
  | .comp k v tg it ifs own, ρ, h => (evI it ρ h).bind fun xw h0 =>
      (R.unlock h0 xw.2 (R.calm (compGo (sameH (lockH xw.2 h0) xw.2) (fun x h => match asgD h tg x (wipeS ρ own) with
        | some ρ1 => (evIfs ifs ρ1 h).bind fun b h => if b then ((evE k ρ1 h).bind fun y h => (evE v ρ1 h).bind fun z h => .ok (D.tup [y, z]) h).bind fun y h => .ok [y] h else .ok [] h
        | none => .bad) xw.1 (lockH xw.2 h0)))).bind fun ps h =>
          if (ps.map pairFst).all flatK then .ok (ps.foldl (fun acc p => dput acc (pairFst p) (pairSnd p)) []) h else .bad
def evPairs : CPs → St → AH → R (List (D × D))
  | .nil, _, h => .ok [] h
  | .cons k v r, ρ, h => (evE k ρ h).bind fun x h => (evE v ρ h).bind fun y h => (evPairs r ρ h).bind fun r h => .ok ((x, y) :: r) h
/-- the items, and which refs must stay as they are while it is walked -/
def evI : CI → St → AH → R (List D × List Nat)
  | .q a, ρ, h => evW .k a ρ h
  | .rng1 a, ρ, h => (evE a ρ h).bind fun x h => match x with
      | .int j => if small62 j then .ok (rangeD 0 j.toNat 1, []) h else .bad
      | _ => .bad
  | .rng2 a b, ρ, h => (evE a ρ h).bind fun x h => (evE b ρ h).bind fun y h => match x, y with
      | .int i, .int j => if small62 i && small62 j then .ok (rangeD i (j - i).toNat 1, []) h else .bad
      | _, _ => .bad
  | .rng3 a b c, ρ, h => (evE a ρ h).bind fun x h => (evE b ρ h).bind fun y h => (evE c ρ h).bind fun z h => match x, y, z with
      | .int i, .int j, .int (-1) => if small62 i && small62 j then .ok (rangeD i (i - j).toNat (-1), []) h else .bad
      | _, _, _ => .bad
  | .enum a, ρ, h => (evW .q a ρ h).bind fun xw h => .ok (enumD 0 xw.1, xw.2) h
  | .zip a b, ρ, h => (evW .q a ρ h).bind fun xw h => (evW .q b ρ h).bind fun yw h => .ok (pairsD xw.1 yw.1, xw.2 ++ yw.2) h
  | .items a, ρ, h => (evE a ρ h).bind fun d h => (R.opt h (dctN h d)).bind fun n h => match h[n]? with
        | some (.dct kvs _) => .ok (kvs.map fun kv => .tup [kv.1, kv.2], [n]) h
        | _ => .bad
  | .values a, ρ, h => (evE a ρ h).bind fun d h => (R.opt h (dctN h d)).bind fun n h => match h[n]? with
        | some (.dct kvs _) => .ok (kvs.map (·.2), [n]) h
        | _ => .bad
def evW (dk : Md) : CQ → St → AH → R (List D × List Nat)
  | .e a, ρ, h => (evE a ρ h).bind fun d h => (R.opt h (seqD dk h d)).bind fun xs h => .ok (xs, refsOf d) h
  | .l a, ρ, h => (evL a ρ h).bind fun xs h => .ok (xs, []) h
  | .d _, _, _ => .bad
  | .s _, _, _ => .bad
end
mutual
def evS : CS → St → AH → RS
  | .expr e, ρ, h => match evE G cl e ρ h with | .ok _ h => .nx ρ h | .ex c p h => .ex c p ρ h | .bad => .bad
  | .set i e, ρ, h => match evE G cl e ρ h with | .ok d h => .nx (ρ.set i (some d)) h | .ex c p h => .ex c p ρ h | .bad => .bad
  | .unp is e, ρ, h => match evE G cl e ρ h with
      | .ok d h => match asgD h (.tp is) d ρ with | some ρ => .nx ρ h | none => .bad
      | .ex c p h => .ex c p ρ h | .bad => .bad
  | .par is es, ρ, h => match evEs G cl es ρ h with
      | .ok ds h => if ds.length = is.length then .nx (setS is ds ρ) h else .bad
      | .ex c p h => .ex c p ρ h | .bad => .bad
  | .setIx o i v, ρ, h => match ((evE G cl v ρ h).bind fun z h => (evE G cl o ρ h).bind fun x h => (evE G cl i ρ h).bind fun y h => putD h x y z) with
      | .ok _ h => .nx ρ h | .ex c p h => .ex c p ρ h | .bad => .bad
  | .parIx o1 i1 o2 i2 v1 v2, ρ, h => match ((evE G cl v1 ρ h).bind fun z1 h => (evE G cl v2 ρ h).bind fun z2 h => (evE G cl o1 ρ h).bind fun x1 h => (evE G cl i1 ρ h).bind fun y1 h => (putD h x1 y1 z1).bind fun _ h =>
        (evE G cl o2 ρ h).bind fun x2 h => (evE G cl i2 ρ h).bind fun y2 h => putD h x2 y2 z2) with
      | .ok _ h => .nx ρ h | .ex c p h => .ex c p ρ h | .bad => .bad
  | .aug i op e, ρ, h => match (R.opt h (atS ρ i)).bind fun x h => (evE G cl e ρ h).bind fun y h => R.opt h (augD op x y) with
      | .ok d h => .nx (ρ.set i (some d)) h | .ex c p h => .ex c p ρ h | .bad => .bad
  | .augIx o i op e, ρ, h => match ((evE G cl o ρ h).bind fun x h => (evE G cl i ρ h).bind fun y h => (R.opt h (gxD h x y)).bind fun v h => (evE G cl e ρ h).bind fun w h => (R.opt h (augD op v w)).bind fun z h => putD h x y z) with
      | .ok _ h => .nx ρ h | .ex c p h => .ex c p ρ h | .bad => .bad
  | .ret e, ρ, h => match evE G cl e ρ h with | .ok d h => .rt d h | .ex c p h => .ex c p ρ h | .bad => .bad
  | .ife c a b, ρ, h => match evE G cl c ρ h with
      | .ok (.bl true) h => evSs a ρ h
      | .ok (.bl false) h => evSs b ρ h
      | .ex c p h => .ex c p ρ h | _ => .bad
  | .fore tg it body kill, ρ, h => match evI G cl it ρ h with
      | .ok xw h0 => RS.unlock h0 xw.2 (forGo (sameH (lockH xw.2 h0) xw.2) (fun x ρ h => match asgD h tg x ρ with
          | some ρ1 => RS.gc (lockH xw.2 h0) kill (evSs body ρ1 h)
          | none => .bad) xw.1 ρ (lockH xw.2 h0))
      | .ex c p h => .ex c p ρ h | .bad => .bad
  | .whle c body kill, ρ, h => whileGo (evE G cl c) (fun ρ h1 => RS.gc h kill (evSs body ρ h1)) G.fuel ρ h
  | .brk, ρ, h => .bk ρ h
  | .cnt, ρ, h => .ct ρ h
  | .pass, ρ, h => .nx ρ h
  | .raise c p, ρ, h => match evE G cl p ρ h with | .ok d h => .ex c d ρ h | .ex c p h => .ex c p ρ h | .bad => .bad
  | .never, _, _ => .bad
where
  putD (h : AH) : D → D → D → R D
  | .ref n, k, v => match h[n]? with
    | some (.lst xs false) => match k with
      | .int i => match L2.ixN xs.length i with | some j => .ok .non (h.set n (.lst (xs.set j v) false)) | none => .bad
      | _ => .bad
    | some (.dct kvs false) => if fits kvs k && decide (kvs.length < sizeLine) then .ok .non (h.set n (.dct (dput kvs k v) false)) else .bad
    | _ => .bad
  | _, _, _ => .bad
def evSs : CSs → St → AH → RS
  | .nil, ρ, h => .nx ρ h
  | .cons s r, ρ, h => match evS s ρ h with
    | .nx ρ h => evSs r ρ h
    | x => x
end
end
def RS.fin : RS → R D
  | .nx _ h => .ok .non h
  | .rt d h => .ok d h
  | .ex c p _ h => .ex c p h
  | _ => .bad
def startS (ns : Nat) (ds : List D) : St := ds.map some ++ List.replicate (ns - ds.length) none
def callF (G : GE) : Nat → Nat → List D → AH → R D
  | 0, _, _, _ => .bad
  | n + 1, f, ds, h => match G.fns[f]? with
    | some F => if ds.length = F.np then R.ret h (RS.fin (evSs G (callF G n) F.body (startS F.ns ds) h)) else .bad
    | none => .bad
end Rw
set_option Elab.async false
set_option linter.all false
set_option autoImplicit false
set_option maxRecDepth 100000
set_option maxHeartbeats 4000000
namespace Rw
open PySem PySem.Spec PyProof.Rows L2

/-! ## what stands for what -/
/-- what is fixed: the written part, where defs and classes stand, which field an error bears -/
structure Gx where
  P : Program
  w : World
  K : PySem.W.Frag
  fa : Nat → Addr
  ca : Nat → Addr
  cp : Nat → Option Str

def TupAt (K : PySem.W.Frag) (H : Hp) (a : Addr) (xs : List V) : Prop :=
  H a = some (.tup xs) ∨ ∃ (o : Obj) (its : Array Value) (n : Nat), K.lookup a = some o ∧ o.cls = .type "tuple" ∧ o.data = .seq its n ∧ its.size ≤ sizeLine ∧ Vals xs its.toList
theorem TupAt.sq {K : PySem.W.Frag} {H : Hp} {a : Addr} {xs : List V} (h : TupAt K H a xs) : SqT K H a xs := h.elim (fun e => .inl (.inl e)) .inr

/-- names: where each object stands; what else must stay as it is -/
structure Nm where
  ns : List Addr
  fr : List (Addr × HO)
/-- not named, not kept -/
def Free (π : Nm) (a : Addr) : Prop := a ∉ π.ns ∧ ∀ p ∈ π.fr, p.1 ≠ a
def Nm.push (π : Nm) (a : Addr) : Nm := ⟨π.ns ++ [a], π.fr⟩
def Nm.hold (π : Nm) (a : Addr) (u : HO) : Nm := ⟨π.ns, (a, u) :: π.fr⟩
def Nm.loose (π : Nm) (fr : List (Addr × HO)) : Nm := ⟨π.ns, fr⟩
mutual
inductive RV (x : Gx) (π : Nm) (H : Hp) : D → V → Prop
  | non : RV x π H .non .non
  | bl (b : Bool) : RV x π H (.bl b) (.bl b)
  | int (i : Int) : RV x π H (.int i) (.int i)
  | str (z : Str) : RV x π H (.str z) (.str z)
  | tup {a : Addr} {vs : List V} {xs : List D} : TupAt x.K H a vs → RVs x π H xs vs → RV x π H (.tup xs) (.ref a)
  | ref {n : Nat} {a : Addr} : π.ns[n]? = some a → RV x π H (.ref n) (.ref a)
  | fn (n : Nat) : RV x π H (.fn n) (.ref (x.fa n))
inductive RVs (x : Gx) (π : Nm) (H : Hp) : List D → List V → Prop
  | nil : RVs x π H [] []
  | cons {d : D} {v : V} {ds : List D} {vs : List V} : RV x π H d v → RVs x π H ds vs → RVs x π H (d :: ds) (v :: vs)
end

/-- all that was is still there -/
structure KeepV (π : Nm) (H : Hp) (π' : Nm) (H' : Hp) : Prop where
  pre : ∀ (n : Nat) (a : Addr), π.ns[n]? = some a → π'.ns[n]? = some a
  tup : ∀ (a : Addr) (vs : List V), H a = some (.tup vs) → H' a = some (.tup vs)
structure Keep0 (π : Nm) (H : Hp) (π' : Nm) (H' : Hp) : Prop where
  pre : ∀ (n : Nat) (a : Addr), π.ns[n]? = some a → π'.ns[n]? = some a
  tup : ∀ (a : Addr) (vs : List V), H a = some (.tup vs) → H' a = some (.tup vs)
  frz : ∀ (a : Addr) (o : Obj) (u : HO), H a = some (.frz o u) → H' a = some (.frz o u)
/-- may be written -/
def Soft (o : Option HO) : Prop := (∀ vs, o ≠ some (.tup vs)) ∧ ∀ ob u, o ≠ some (.frz ob u)
structure Keep (π : Nm) (H : Hp) (π' : Nm) (H' : Hp) : Prop extends Keep0 π H π' H' where
  fr : π'.fr = π.fr
section
variable {x : Gx} {π π' π'' : Nm} {H H' H'' : Hp}
theorem Keep0.toV (k : Keep0 π H π' H') : KeepV π H π' H' := ⟨k.pre, k.tup⟩
theorem Keep.refl : Keep π H π H := ⟨⟨fun _ _ h => h, fun _ _ h => h, fun _ _ _ h => h⟩, rfl⟩
theorem Keep.trans (a : Keep π H π' H') (b : Keep π' H' π'' H'') : Keep π H π'' H'' := ⟨⟨fun n p h => b.pre n p (a.pre n p h), fun n p h => b.tup n p (a.tup n p h), fun n p u h => b.frz n p u (a.frz n p u h)⟩, b.fr.trans a.fr⟩
theorem TupAt.keep {K : PySem.W.Frag} {a : Addr} {xs : List V} (k : ∀ a vs, H a = some (.tup vs) → H' a = some (.tup vs)) (h : TupAt K H a xs) : TupAt K H' a xs := h.elim (fun e => .inl (k _ _ e)) .inr
mutual
theorem RV.keep0 (k : KeepV π H π' H') : ∀ {d : D} {v : V}, RV x π H d v → RV x π' H' d v
  | .non, _, .non => .non
  | .bl _, _, .bl b => .bl b
  | .int _, _, .int i => .int i
  | .str _, _, .str z => .str z
  | .tup _, _, .tup h r => .tup (h.keep k.tup) (RVs.keep0 k r)
  | .ref _, _, .ref h => .ref (k.pre _ _ h)
  | .fn _, _, .fn n => .fn n
theorem RVs.keep0 (k : KeepV π H π' H') : ∀ {ds : List D} {vs : List V}, RVs x π H ds vs → RVs x π' H' ds vs
  | [], _, .nil => .nil
  | _ :: _, _, .cons r t => .cons (RV.keep0 k r) (RVs.keep0 k t)
end
theorem RV.keep (k : Keep π H π' H') {d : D} {v : V} (r : RV x π H d v) : RV x π' H' d v := r.keep0 k.toKeep0.toV
theorem RVs.keep (k : Keep π H π' H') {ds : List D} {vs : List V} (r : RVs x π H ds vs) : RVs x π' H' ds vs := r.keep0 k.toKeep0.toV
theorem Keep0.same (e : π'.ns = π.ns) : KeepV π H π' H := ⟨fun n a h => by rw [e]; exact h, fun _ _ h => h⟩
theorem RVs.length : ∀ {ds : List D} {vs : List V}, RVs x π H ds vs → ds.length = vs.length
  | [], _, .nil => rfl
  | _ :: _, _, .cons _ t => by simp [RVs.length t]
theorem RVs.get : ∀ {ds : List D} {vs : List V} {i : Nat} {d : D}, RVs x π H ds vs → ds[i]? = some d → ∃ v, vs[i]? = some v ∧ RV x π H d v
  | [], _, _, _, .nil, e => by simp at e
  | _ :: _, _, 0, _, .cons r _, e => by simp at e; subst e; exact ⟨_, rfl, r⟩
  | _ :: _, _, i + 1, d, .cons _ t, e => by
    obtain ⟨v, h1, h2⟩ := RVs.get (i := i) (d := d) t (by simpa using e)
    exact ⟨v, by simpa using h1, h2⟩
theorem RVs.set {d : D} {v : V} (r : RV x π H d v) : ∀ {ds : List D} {vs : List V} (i : Nat), RVs x π H ds vs → RVs x π H (ds.set i d) (vs.set i v)
  | [], _, _, .nil => .nil
  | _ :: _, _, 0, .cons _ t => .cons r t
  | _ :: _, _, i + 1, .cons q t => .cons q (RVs.set r i t)
theorem RVs.append : ∀ {ds es : List D} {vs us : List V}, RVs x π H ds vs → RVs x π H es us → RVs x π H (ds ++ es) (vs ++ us)
  | [], _, _, _, .nil, s => s
  | _ :: _, _, _, _, .cons r t, s => .cons r (RVs.append t s)
theorem RVs.take : ∀ {ds : List D} {vs : List V} (n : Nat), RVs x π H ds vs → RVs x π H (ds.take n) (vs.take n)
  | [], _, n, .nil => by simp; exact .nil
  | _ :: _, _, 0, _ => .nil
  | _ :: _, _, n + 1, .cons r t => .cons r (RVs.take n t)
theorem RVs.drop : ∀ {ds : List D} {vs : List V} (n : Nat), RVs x π H ds vs → RVs x π H (ds.drop n) (vs.drop n)
  | [], _, n, .nil => by simp; exact .nil
  | _ :: _, _, 0, r => r
  | _ :: _, _, n + 1, .cons _ t => RVs.drop n t
theorem RVs.single {d : D} {v : V} (r : RV x π H d v) : RVs x π H [d] [v] := .cons r .nil
theorem RVs.cut {ds : List D} {vs : List V} (r : RVs x π H ds vs) (lo hi : Option Int) : RVs x π H (cutD ds lo hi) (cutV vs lo hi) := by
  unfold cutD cutV
  rw [r.length]
  exact (r.drop _).take _
theorem RVs.rep {ds : List D} {vs : List V} (r : RVs x π H ds vs) : ∀ k : Nat, RVs x π H (List.replicate k ds).flatten (List.replicate k vs).flatten
  | 0 => .nil
  | k + 1 => by
    rw [List.replicate_succ, List.replicate_succ, List.flatten_cons, List.flatten_cons]
    exact r.append (RVs.rep r k)
theorem RVs.map {α : Type} {f : α → D} {g : α → V} (h : ∀ a, RV x π H (f a) (g a)) : ∀ l : List α, RVs x π H (l.map f) (l.map g)
  | [] => .nil
  | a :: l => .cons (h a) (RVs.map h l)
theorem RVs.of_get : ∀ {ds : List D} {vs : List V}, ds.length = vs.length → (∀ (i : Nat) (d : D) (v : V), ds[i]? = some d → vs[i]? = some v → RV x π H d v) → RVs x π H ds vs
  | [], [], _, _ => .nil
  | d :: ds, v :: vs, hl, h => .cons (h 0 d v rfl rfl) (RVs.of_get (by simpa using hl) fun i d v a b => h (i + 1) d v (by simpa using a) (by simpa using b))
  | [], _ :: _, hl, _ => by simp at hl
  | _ :: _, [], hl, _ => by simp at hl
end

/-! ## dicts -/
def keyOf : D → Option L2.Key
  | .int i => some (.inl i)
  | .str z => some (.inr z)
  | _ => none
/-- a dict whose keys are tuples -/
def DN (x : Gx) (a : Addr) (xs : List (NestedKey × Addr × Value)) : HO := .ext fun h => ∃ o es ep, h.get? a = some o ∧ o.ExactDict ∧ o.data = .dict es ep ∧ es.toList = xs.map (entryOfKey (nestedKind x.P x.w)) ∧ (xs.map (·.1)).Nodup ∧ (a == sysModules) = false ∧ xs.length ≤ sizeLine
/-- flat keys -/
def DK (x : Gx) (π : Nm) (H : Hp) (kvs : List (D × D)) (ps : List (L2.Key × V)) : Prop := Paired (fun (p : D × D) (q : L2.Key × V) => keyOf p.1 = some q.1 ∧ RV x π H p.2 q.2) kvs ps
/-- keys that are tuples -/
def DT (x : Gx) (π : Nm) (H : Hp) (kvs : List (D × D)) (ps : List (NestedKey × Addr × Value)) : Prop :=
  Paired (fun (p : D × D) (q : NestedKey × Addr × Value) => p.1.key = some (true, q.1) ∧ RV x π H p.1 (.ref q.2.1) ∧ ∃ v, RelV v q.2.2 ∧ RV x π H p.2 v) kvs ps
/-- what a dict's object is told by -/
inductive DH (x : Gx) (π : Nm) (H : Hp) (a : Addr) (kvs : List (D × D)) : HO → Prop
  | flat {ps : List (L2.Key × V)} : DK x π H kvs ps → (ps.map (·.1)).Nodup → DH x π H a kvs (.dK ps)
  | tups {ps : List (NestedKey × Addr × Value)} : DT x π H kvs ps → (ps.map (·.1)).Nodup → kvs ≠ [] → DH x π H a kvs (DN x a ps)
/-- it, or it locked -/
def AtLk (H : Hp) (a : Addr) (lk : Bool) (u : HO) : Prop := if lk = true then ∃ o, H a = some (.frz o u) else H a = some u
inductive RO (x : Gx) (π : Nm) (H : Hp) : AO → Addr → Prop
  | lst {xs : List D} {lk : Bool} {a : Addr} {vs : List V} : RVs x π H xs vs → AtLk H a lk (.lst vs) → RO x π H (.lst xs lk) a
  | dct {kvs : List (D × D)} {lk : Bool} {a : Addr} {u : HO} : DH x π H a kvs u → AtLk H a lk u → RO x π H (.dct kvs lk) a

/-- the heap -/
structure Wd (x : Gx) (π : Nm) (h : AH) (H : Hp) : Prop where
  len : π.ns.length = h.length
  nd : π.ns.Nodup
  fr : ∀ p ∈ π.fr, p.1 ∉ π.ns ∧ H p.1 = some p.2
  obj : ∀ (n : Nat) (o : AO) (a : Addr), h[n]? = some o → π.ns[n]? = some a → RO x π H o a

section
variable {x : Gx} {π π' π'' : Nm} {H H' H'' : Hp} {h h' : AH} {a : Addr} {u : HO} {lk : Bool}
theorem AtLk.some' (h : AtLk H a lk u) : ∃ o, H a = some o := by
  unfold AtLk at h
  split at h
  · obtain ⟨o, e⟩ := h; exact ⟨_, e⟩
  · exact ⟨_, h⟩
theorem AtLk.rd (h : AtLk H a lk u) : Rd H a u := by
  unfold AtLk at h
  split at h
  · exact .inr h
  · exact .inl h
theorem AtLk.of_eq (h : AtLk H a lk u) (e : H' a = H a) : AtLk H' a lk u := by
  unfold AtLk at h ⊢
  rw [e]
  exact h
theorem RO.some' {o : AO} (r : RO x π H o a) : ∃ u, H a = some u := by
  cases r with
  | lst _ k => exact k.some'
  | dct _ k => exact k.some'
theorem DK.keep0 {kvs : List (D × D)} {ps} (k : KeepV π H π' H') (r : DK x π H kvs ps) : DK x π' H' kvs ps := Paired.mapP r fun _ _ z => ⟨z.1, z.2.keep0 k⟩
theorem DT.keep0 {kvs : List (D × D)} {ps} (k : KeepV π H π' H') (r : DT x π H kvs ps) : DT x π' H' kvs ps := Paired.mapP r fun _ _ ⟨z1, z2, v, z3, z4⟩ => ⟨z1, z2.keep0 k, v, z3, z4.keep0 k⟩
theorem DH.keep0 {kvs : List (D × D)} (k : KeepV π H π' H') (r : DH x π H a kvs u) : DH x π' H' a kvs u := by
  cases r with
  | flat r n => exact .flat (r.keep0 k) n
  | tups r n ne => exact .tups (r.keep0 k) n ne
theorem DH.keep {kvs : List (D × D)} (k : Keep π H π' H') (r : DH x π H a kvs u) : DH x π' H' a kvs u := r.keep0 k.toKeep0.toV
theorem DK.keep {kvs : List (D × D)} {ps} (k : Keep π H π' H') (r : DK x π H kvs ps) : DK x π' H' kvs ps := r.keep0 k.toKeep0.toV
theorem DT.keep {kvs : List (D × D)} {ps} (k : Keep π H π' H') (r : DT x π H kvs ps) : DT x π' H' kvs ps := r.keep0 k.toKeep0.toV
/-- an object whose own place stands -/
theorem RO.keep0 {o : AO} (k : KeepV π H π' H') (e : H' a = H a) (r : RO x π H o a) : RO x π' H' o a := by
  cases r with
  | lst r q => exact .lst (r.keep0 k) (q.of_eq e)
  | dct r q => exact .dct (r.keep0 k) (q.of_eq e)
theorem RO.keep {o : AO} (k : Keep π H π' H') (e : H' a = H a) (r : RO x π H o a) : RO x π' H' o a := r.keep0 k.toKeep0.toV e

theorem Wd.addr (W : Wd x π h H) {n : Nat} {o : AO} (e : h[n]? = some o) : ∃ a, π.ns[n]? = some a ∧ RO x π H o a := by
  have hn : n < h.length := (List.getElem?_eq_some_iff.mp e).1
  have hn' : n < π.ns.length := by rw [W.len]; exact hn
  exact ⟨π.ns[n], by simp [hn'], W.obj n o _ e (by simp [hn'])⟩
theorem Wd.tracked (W : Wd x π h H) {n : Nat} {a : Addr} (e : π.ns[n]? = some a) : ∃ u, H a = some u := by
  have hn : n < π.ns.length := (List.getElem?_eq_some_iff.mp e).1
  have hn' : n < h.length := by rw [← W.len]; exact hn
  exact (W.obj n h[n] a (by simp [hn']) e).some'
theorem Wd.notin (W : Wd x π h H) (e : H a = none) : Free π a := by
  refine ⟨fun m => ?_, fun p hp z => ?_⟩
  · obtain ⟨n, hn⟩ := List.getElem?_of_mem m
    obtain ⟨u, z⟩ := W.tracked hn
    rw [e] at z; cases z
  · have := (W.fr p hp).2
    rw [z, e] at this; cases this
theorem Wd.idx (W : Wd x π h H) {m n : Nat} {a : Addr} (e1 : π.ns[m]? = some a) (e2 : π.ns[n]? = some a) : m = n := by
  obtain ⟨h1, q1⟩ := List.getElem?_eq_some_iff.mp e1
  obtain ⟨h2, q2⟩ := List.getElem?_eq_some_iff.mp e2
  exact (List.getElem_inj W.nd).mp (q1.trans q2.symm)

/-- a new thing that is not named: a tuple, a list not told -/
theorem Keep.upd (e : H a = none) : Keep π H π (upd H a u) := ⟨⟨fun _ _ q => q, fun b vs q => by rw [upd_ne (ne_of_none q e)]; exact q, fun b o vs q => by rw [upd_ne (ne_of_none q e)]; exact q⟩, rfl⟩
theorem Keep.upd' (e : Soft (H a)) : Keep π H π (L2.upd H a u) := ⟨⟨fun _ _ q => q, fun b vs q => by
  have hb : b ≠ a := fun z => e.1 vs (by rw [← z]; exact q)
  rw [upd_ne hb]; exact q, fun b o vs q => by
  have hb : b ≠ a := fun z => e.2 o vs (by rw [← z]; exact q)
  rw [upd_ne hb]; exact q⟩, rfl⟩
theorem KeepV.upd' (e : ∀ vs, H a ≠ some (.tup vs)) : KeepV π H π (L2.upd H a u) := ⟨fun _ _ q => q, fun b vs q => by
  have hb : b ≠ a := fun z => e vs (by rw [← z]; exact q)
  rw [upd_ne hb]; exact q⟩
theorem Wd.upd (W : Wd x π h H) (e : H a = none) : Wd x π h (L2.upd H a u) :=
  ⟨W.len, W.nd, fun p hp => ⟨(W.fr p hp).1, by
    rw [upd_ne fun z => (W.notin e).2 p hp z]
    exact (W.fr p hp).2⟩, fun n o b e1 e2 => (W.obj n o b e1 e2).keep (Keep.upd e) (upd_ne fun z => by
    obtain ⟨v, q⟩ := W.tracked e2
    rw [z, e] at q; cases q)⟩
theorem Keep.push : Keep π H (π.push a) H := ⟨⟨fun n b e => by
  show (π.ns ++ [a])[n]? = some b
  rw [List.getElem?_append_left (List.getElem?_eq_some_iff.mp e).1]; exact e, fun _ _ e => e, fun _ _ _ e => e⟩, rfl⟩
theorem Wd.pushed (W : Wd x π h H) : (π.push a).ns[h.length]? = some a := by
  show (π.ns ++ [a])[h.length]? = some a
  rw [← W.len, List.getElem?_append_right (Nat.le_refl _)]; simp
/-- .. and named -/
theorem Wd.named {o : AO} (W : Wd x π h H) (na : Free π a) (r : RO x (π.push a) H o a) : Wd x (π.push a) (h ++ [o]) H ∧ Keep π H (π.push a) H := by
  have k : Keep π H (π.push a) H := ⟨⟨fun n b e => by
    show (π.ns ++ [a])[n]? = some b
    rw [List.getElem?_append_left (List.getElem?_eq_some_iff.mp e).1]; exact e, fun _ _ e => e, fun _ _ _ e => e⟩, rfl⟩
  refine ⟨⟨by simp [Nm.push, W.len], ?_, fun p hp => ⟨fun m => ?_, (W.fr p hp).2⟩, fun n o' b e1 e2 => ?_⟩, k⟩
  · show (π.ns ++ [a]).Nodup
    rw [List.nodup_append]
    refine ⟨W.nd, by simp, fun b hb c hc => ?_⟩
    have : c = a := by simpa using hc
    subst this
    rintro rfl
    exact na.1 hb
  · rcases List.mem_append.mp (show p.1 ∈ π.ns ++ [a] from m) with m | m
    · exact (W.fr p hp).1 m
    · exact na.2 p hp (by simpa using m)
  · replace e2 : (π.ns ++ [a])[n]? = some b := e2
    by_cases hn : n < h.length
    · rw [List.getElem?_append_left hn] at e1
      rw [List.getElem?_append_left (by rw [W.len]; exact hn)] at e2
      exact (W.obj n o' b e1 e2).keep k rfl
    · have hn' : n = h.length := by
        have := (List.getElem?_eq_some_iff.mp e1).1
        simp at this; omega
      subst hn'
      rw [List.getElem?_append_right (Nat.le_refl _)] at e1
      rw [← W.len, List.getElem?_append_right (Nat.le_refl _)] at e2
      simp at e1 e2
      subst e1; subst e2
      exact r
/-- one more thing is kept -/
theorem Wd.hold (W : Wd x π h H) (f : Free π a) (e : H a = some u) : Wd x (π.hold a u) h H :=
  ⟨W.len, W.nd, fun p hp => by
    rcases List.mem_cons.mp hp with rfl | hp
    · exact ⟨f.1, e⟩
    · exact W.fr p hp, fun n o b e1 e2 => RO.keep0 (π := π) (π' := π.hold a u) (Keep0.same rfl) rfl (W.obj n o b e1 e2)⟩
/-- what is kept no more: the rest stands -/
theorem Wd.loose (W : Wd x π h H) {fr : List (Addr × HO)} (e : ∀ p ∈ fr, p ∈ π.fr) : Wd x (π.loose fr) h H :=
  ⟨W.len, W.nd, fun p hp => W.fr p (e p hp), fun n o b e1 e2 => RO.keep0 (π := π) (π' := π.loose fr) (Keep0.same rfl) rfl (W.obj n o b e1 e2)⟩
/-- an object is written -/
theorem Wd.set {o : AO} {n : Nat} (W : Wd x π h H) (en : π.ns[n]? = some a) (nt : ∀ vs, H a ≠ some (.tup vs)) (r : RO x π (L2.upd H a u) o a) : Wd x π (h.set n o) (L2.upd H a u) := by
  have hn : n < h.length := by rw [← W.len]; exact (List.getElem?_eq_some_iff.mp en).1
  have ma : a ∈ π.ns := List.mem_of_getElem? en
  refine ⟨by simp [W.len], W.nd, fun p hp => ⟨(W.fr p hp).1, by rw [upd_ne fun z => (W.fr p hp).1 (by rw [z]; exact ma)]; exact (W.fr p hp).2⟩, fun m o' b e1 e2 => ?_⟩
  by_cases hm : m = n
  · subst hm
    rw [List.getElem?_set_self hn] at e1
    cases e1
    rw [en] at e2; cases e2
    exact r
  · rw [List.getElem?_set_ne (Ne.symm hm)] at e1
    refine (W.obj m o' b e1 e2).keep0 (KeepV.upd' nt) (upd_ne fun z => hm ?_)
    subst z
    exact W.idx e2 en
end

/-! ## names -/
def RSt (x : Gx) (π : Nm) (H : Hp) (ρ : St) (σ : L2.St) : Prop := ρ.length = σ.length ∧ ∀ (i : Nat) (d : D), ρ[i]? = some (some d) → ∃ v, σ[i]? = some (some v) ∧ RV x π H d v
section
variable {x : Gx} {π π' : Nm} {H H' : Hp} {ρ : St} {σ : L2.St}
theorem RSt.keep (k : Keep π H π' H') (r : RSt x π H ρ σ) : RSt x π' H' ρ σ := ⟨r.1, fun i d e => by
  obtain ⟨v, h1, h2⟩ := r.2 i d e
  exact ⟨v, h1, h2.keep k⟩⟩
theorem RSt.at {i : Nat} {d : D} (r : RSt x π H ρ σ) (e : atS ρ i = some d) : ∃ v, σ[i]? = some (some v) ∧ RV x π H d v := by
  refine r.2 i d ?_
  unfold atS at e
  cases q : ρ[i]? with
  | none => rw [q] at e; cases e
  | some o => rw [q] at e; simp at e; rw [e]
theorem RSt.set {i : Nat} {d : D} {v : V} (r : RSt x π H ρ σ) (q : RV x π H d v) : RSt x π H (ρ.set i (some d)) (σ.set i (some v)) := by
  refine ⟨by simp [r.1], fun j e he => ?_⟩
  by_cases hj : j = i
  · subst hj
    have hl : j < ρ.length := by
      have := (List.getElem?_eq_some_iff.mp he).1
      simpa using this
    rw [List.getElem?_set_self hl] at he
    cases he
    exact ⟨v, List.getElem?_set_self (by rw [← r.1]; exact hl), q⟩
  · rw [List.getElem?_set_ne (Ne.symm hj)] at he
    rw [List.getElem?_set_ne (Ne.symm hj)]
    exact r.2 j e he
theorem RSt.forget {i : Nat} {o : Option V} (r : RSt x π H ρ σ) : RSt x π H (ρ.set i none) (σ.set i o) := by
  refine ⟨by simp [r.1], fun j e he => ?_⟩
  by_cases hj : j = i
  · subst hj
    have hl : j < ρ.length := by
      have := (List.getElem?_eq_some_iff.mp he).1
      simpa using this
    rw [List.getElem?_set_self hl] at he
    cases he
  · rw [List.getElem?_set_ne (Ne.symm hj)] at he
    rw [List.getElem?_set_ne (Ne.symm hj)]
    exact r.2 j e he
theorem RSt.forget' {i : Nat} (r : RSt x π H ρ σ) : RSt x π H (ρ.set i none) σ := by
  refine ⟨by simp [r.1], fun j e he => ?_⟩
  by_cases hj : j = i
  · subst hj
    have hl : j < ρ.length := by
      have := (List.getElem?_eq_some_iff.mp he).1
      simpa using this
    rw [List.getElem?_set_self hl] at he
    cases he
  · rw [List.getElem?_set_ne (Ne.symm hj)] at he
    exact r.2 j e he
theorem RSt.wipe (r : RSt x π H ρ σ) : ∀ l : List Nat, RSt x π H (wipeS ρ l) (wipe σ l)
  | [] => r
  | i :: l => (RSt.wipe r l).forget
theorem RSt.wipe' (r : RSt x π H ρ σ) : ∀ l : List Nat, RSt x π H (wipeS ρ l) σ
  | [] => r
  | i :: l => (RSt.wipe' r l).forget'
end
end Rw
set_option Elab.async false
set_option linter.all false
set_option autoImplicit false
set_option maxRecDepth 100000
set_option maxHeartbeats 4000000
namespace Rw
open PySem PySem.Spec PyProof.Rows L2

/-! ## readings by evaluation -/
/-- an error of the class c that bears p -/
def RX (x : Gx) (π : Nm) (H : Hp) (c : Nat) (p : D) (cls : Value) (d : Option Addr) : Prop :=
  cls = .ref (x.ca c) ∧ match x.cp c with
    | none => d = none ∧ p = .non
    | some f => ∃ dd v, d = some dd ∧ H dd = some (.xd [(f, v)]) ∧ RV x π H p v
/-- what is wished of exceptions, by the slots -/
abbrev WX := L2.WX
/-- from (π, H): whatever r is, its end is as Q (W) wants; F tells how the value lies -/
def PostF (x : Gx) {α : Type} (F : Nm → Hp → α → V → Prop) (W : L2.WX) (π : Nm) (H : Hp) (r : R α) (σ : L2.St) (Q : VK) : Prop :=
  match r with
  | .ok d h' => ∀ (π' : Nm) (H' : Hp) (v : V), Keep π H π' H' → Wd x π' h' H' → F π' H' d v → Q v H'
  | .ex c p h' => ∀ (π' : Nm) (H' : Hp) (cls : Value) (d : Option Addr), Keep π H π' H' → Wd x π' h' H' → RX x π' H' c p cls d → W cls d σ H'
  | .bad => False
abbrev Post (x : Gx) (W : L2.WX) (π : Nm) (H : Hp) (r : R D) (σ : L2.St) (Q : VK) : Prop := PostF x (RV x) W π H r σ Q
/-- a list made anew, that is not named -/
def FL (x : Gx) (π : Nm) (H : Hp) (ds : List D) (v : V) : Prop := ∃ a vs, v = .ref a ∧ Free π a ∧ H a = some (.lst vs) ∧ RVs x π H ds vs
/-- at the start: names, heap -/
structure Beg (x : Gx) (π : Nm) (ρ : St) (h : AH) (σ : L2.St) (H : Hp) : Prop where
  st : RSt x π H ρ σ
  wd : Wd x π h H
def tF (x : Gx) {α : Type} (F : Nm → Hp → α → V → Prop) (W : L2.WX) (m : St → AH → R α) : TE := fun σ H Q => ∃ π ρ h, Beg x π ρ h σ H ∧ PostF x F W π H (m ρ h) σ Q
abbrev tE (x : Gx) (W : L2.WX) (m : St → AH → R D) : TE := tF x (RV x) W m
abbrev tL (x : Gx) (W : L2.WX) (m : St → AH → R (List D)) : TE := tF x (FL x) W m

section
variable {x : Gx} {α β : Type} {F : Nm → Hp → α → V → Prop} {F' : Nm → Hp → β → V → Prop} {W : L2.WX} {π π' : Nm} {H H' : Hp} {σ : L2.St} {Q Q' : VK} {ρ : St} {h : AH}
theorem PostF.keep {r : R α} (k : Keep π H π' H') (p : PostF x F W π H r σ Q) : PostF x F W π' H' r σ Q := by
  cases r with
  | ok d h' => exact fun π2 H2 v k2 w q => p π2 H2 v (k.trans k2) w q
  | ex c d h' => exact fun π2 H2 v d k2 w q => p π2 H2 v d (k.trans k2) w q
  | bad => exact p
theorem PostF.mono {r : R α} (p : PostF x F W π H r σ Q) (hq : ∀ v H, Q v H → Q' v H) : PostF x F W π H r σ Q' := by
  cases r with
  | ok d h' => exact fun π2 H2 v k2 w q => hq _ _ (p π2 H2 v k2 w q)
  | ex c d h' => exact p
  | bad => exact p
/-- the first part of two -/
theorem PostF.fst {r : R α} {f : α → AH → R β} (p : PostF x F' W π H (r.bind f) σ Q)
    (hq : ∀ (π1 : Nm) (H1 : Hp) (h1 : AH) (d : α) (v : V), Keep π H π1 H1 → Wd x π1 h1 H1 → F π1 H1 d v → PostF x F' W π1 H1 (f d h1) σ Q → Q' v H1) : PostF x F W π H r σ Q' := by
  cases r with
  | ok d h' => exact fun π1 H1 v k w q => hq π1 H1 h' d v k w q (PostF.keep k p)
  | ex c d h' => exact p
  | bad => exact p
theorem Beg.keep {π1 : Nm} {H1 : Hp} {h1 : AH} (b : Beg x π ρ h σ H) (k : Keep π H π1 H1) (w : Wd x π1 h1 H1) : Beg x π1 ρ h1 σ H1 := ⟨b.st.keep k, w⟩
/-- the first of two readings -/
theorem tF.fst {m : St → AH → R α} {f : α → AH → R β} (b : Beg x π ρ h σ H) (p : PostF x F' W π H ((m ρ h).bind f) σ Q)
    (hq : ∀ (π1 : Nm) (H1 : Hp) (h1 : AH) (d : α) (v : V), Beg x π1 ρ h1 σ H1 → F π1 H1 d v → Keep π H π1 H1 → PostF x F' W π1 H1 (f d h1) σ Q → Q' v H1) : tF x F W m σ H Q' :=
  ⟨π, ρ, h, b, p.fst fun π1 H1 h1 d v k w q p1 => hq π1 H1 h1 d v (b.keep k w) q k p1⟩
theorem PostF.ok {d : α} {v : V} (p : PostF x F W π H (.ok d h) σ Q) (w : Wd x π h H) (q : F π H d v) : Q v H := p π H v Keep.refl w q
theorem PostF.ok' {d : α} {v : V} (p : PostF x F W π H (.ok d h) σ Q) (k : Keep π H π' H') (w : Wd x π' h H') (q : F π' H' d v) : Q v H' := p π' H' v k w q
end
theorem PE.imp {X : Cx} {e : Expr} {t t' : TE} (p : PE X e t) (h : ∀ σ H Q, t' σ H Q → t σ H Q) : PE X e t' := ⟨fun pins s σ H Q I q => p.run pins s σ H Q I (h σ H Q q)⟩
theorem PT.imp {X : Cx} {e : Expr} {t t' : TT} (p : PT X e t) (h : ∀ σ H Q, t' σ H Q → t σ H Q) : PT X e t' := ⟨fun pins s σ H Q I q => p.run pins s σ H Q I (h σ H Q q)⟩
theorem PA.imp {X : Cx} {es : List Expr} {t t' : TA} (p : PA X es t) (h : ∀ σ H Q, t' σ H Q → t σ H Q) : PA X es t' := ⟨fun pos pins s σ H Q I q => p.run pos pins s σ H Q I (h σ H Q q)⟩
theorem PS.imp {X : Cx} {st : Stmt} {t t' : TS} (p : PS X st t) (h : ∀ D σ H, t' D σ H → t D σ H) : PS X st t' := ⟨fun pins s σ H D I q => p.run pins s σ H D I (h D σ H q)⟩
theorem PSs.imp {X : Cx} {st : List Stmt} {t t' : TS} (p : PSs X st t) (h : ∀ D σ H, t' D σ H → t D σ H) : PSs X st t' := ⟨fun pins s σ H D I q => p.run pins s σ H D I (h D σ H q)⟩
/-- a rule by cases on the state -/
theorem PE.of {X : Cx} {e : Expr} {t : TE} (h : ∀ σ H Q, t σ H Q → ∃ t', PE X e t' ∧ t' σ H Q) : PE X e t := ⟨fun pins s σ H Q I q => by
  obtain ⟨t', p, q'⟩ := h σ H Q q
  exact p.run pins s σ H Q I q'⟩
/-- tests -/
def tT (x : Gx) (W : L2.WX) (m : St → AH → R D) : TT := fun σ H Q => tE x W m σ H fun v H1 => ∃ b, v = .bl b ∧ Q b H1
/-- argument lists -/
def PostA (x : Gx) (W : L2.WX) (π : Nm) (H : Hp) (r : R (List D)) (σ : L2.St) (Q : List V → Hp → Prop) : Prop :=
  match r with
  | .ok d h' => ∀ (π' : Nm) (H' : Hp) (vs : List V), Keep π H π' H' → Wd x π' h' H' → RVs x π' H' d vs → Q vs H'
  | .ex c p h' => ∀ (π' : Nm) (H' : Hp) (cls : Value) (d : Option Addr), Keep π H π' H' → Wd x π' h' H' → RX x π' H' c p cls d → W cls d σ H'
  | .bad => False
def tAs (x : Gx) (W : L2.WX) (m : St → AH → R (List D)) : TA := fun σ H Q => ∃ π ρ h, Beg x π ρ h σ H ∧ PostA x W π H (m ρ h) σ Q
section
variable {x : Gx} {α β : Type} {F : Nm → Hp → α → V → Prop} {W : L2.WX} {π π' : Nm} {H H' : Hp} {σ : L2.St} {Q : VK} {ρ : St} {h : AH}
theorem PostA.keep {r : R (List D)} {Q : List V → Hp → Prop} (k : Keep π H π' H') (p : PostA x W π H r σ Q) : PostA x W π' H' r σ Q := by
  cases r with
  | ok d h' => exact fun π2 H2 v k2 w q => p π2 H2 v (k.trans k2) w q
  | ex c d h' => exact fun π2 H2 v d k2 w q => p π2 H2 v d (k.trans k2) w q
  | bad => exact p
/-- arguments first, then what is made of them -/
theorem PostA.fst {r : R (List D)} {f : List D → AH → R β} {F : Nm → Hp → β → V → Prop} {Q' : List V → Hp → Prop} (p : PostF x F W π H (r.bind f) σ Q)
    (hq : ∀ (π1 : Nm) (H1 : Hp) (h1 : AH) (d : List D) (v : List V), Keep π H π1 H1 → Wd x π1 h1 H1 → RVs x π1 H1 d v → PostF x F W π1 H1 (f d h1) σ Q → Q' v H1) : PostA x W π H r σ Q' := by
  cases r with
  | ok d h' => exact fun π1 H1 v k w q => hq π1 H1 h' d v k w q (PostF.keep k p)
  | ex c d h' => exact p
  | bad => exact p
theorem tAs.fst {m : St → AH → R (List D)} {f : List D → AH → R β} {F : Nm → Hp → β → V → Prop} {Q' : List V → Hp → Prop} (b : Beg x π ρ h σ H) (p : PostF x F W π H ((m ρ h).bind f) σ Q)
    (hq : ∀ (π1 : Nm) (H1 : Hp) (h1 : AH) (d : List D) (v : List V), Beg x π1 ρ h1 σ H1 → RVs x π1 H1 d v → Keep π H π1 H1 → PostF x F W π1 H1 (f d h1) σ Q → Q' v H1) : tAs x W m σ H Q' :=
  ⟨π, ρ, h, b, PostA.fst p fun π1 H1 h1 d v k w q p1 => hq π1 H1 h1 d v (b.keep k w) q k p1⟩
/-- an expression, then more arguments -/
theorem PostF.fstA {r : R α} {f : α → AH → R (List D)} {Q : List V → Hp → Prop} {Q' : VK} (p : PostA x W π H (r.bind f) σ Q)
    (hq : ∀ (π1 : Nm) (H1 : Hp) (h1 : AH) (d : α) (v : V), Keep π H π1 H1 → Wd x π1 h1 H1 → F π1 H1 d v → PostA x W π1 H1 (f d h1) σ Q → Q' v H1) : PostF x F W π H r σ Q' := by
  cases r with
  | ok d h' => exact fun π1 H1 v k w q => hq π1 H1 h' d v k w q (PostA.keep k p)
  | ex c d h' => exact p
  | bad => exact p
theorem PostA.fstA {r : R (List D)} {f : List D → AH → R (List D)} {Q Q' : List V → Hp → Prop} (p : PostA x W π H (r.bind f) σ Q)
    (hq : ∀ (π1 : Nm) (H1 : Hp) (h1 : AH) (d : List D) (v : List V), Keep π H π1 H1 → Wd x π1 h1 H1 → RVs x π1 H1 d v → PostA x W π1 H1 (f d h1) σ Q → Q' v H1) : PostA x W π H r σ Q' := by
  cases r with
  | ok d h' => exact fun π1 H1 v k w q => hq π1 H1 h' d v k w q (PostA.keep k p)
  | ex c d h' => exact p
  | bad => exact p
/-- a pure step that may be undefined -/
theorem PostF.opt {o : Option α} {f : α → AH → R β} {F : Nm → Hp → β → V → Prop} (p : PostF x F W π H ((R.opt h o).bind f) σ Q) : ∃ a, o = some a ∧ PostF x F W π H (f a h) σ Q := by
  cases o with
  | none => exact p.elim
  | some a => exact ⟨a, rfl, p⟩
theorem PostF.opt1 {o : Option α} (p : PostF x F W π H (R.opt h o) σ Q) : ∃ a, o = some a ∧ PostF x F W π H (.ok a h) σ Q := by
  cases o with
  | none => exact p.elim
  | some a => exact ⟨a, rfl, p⟩
end
/-! ### holding a thing that has no name -/
section
variable {x : Gx} {α β : Type} {F : Nm → Hp → α → V → Prop} {F' : Nm → Hp → β → V → Prop} {W : L2.WX} {π π' : Nm} {H H' : Hp} {σ : L2.St} {Q : VK} {Q' : VK} {ρ : St} {h : AH} {a : Addr} {u : HO}
theorem RV.ns {d : D} {v : V} (r : RV x π H d v) (e : π'.ns = π.ns := by rfl) : RV x π' H d v := r.keep0 (Keep0.same e)
theorem RVs.ns {d : List D} {v : List V} (r : RVs x π H d v) (e : π'.ns = π.ns := by rfl) : RVs x π' H d v := r.keep0 (Keep0.same e)
/-- it does not lie in what is kept -/
def Slack {α : Type} (F : Nm → Hp → α → V → Prop) : Prop := ∀ (π : Nm) (H : Hp) (d : α) (v : V) (fr : List (Addr × HO)), (∀ p ∈ fr, p ∈ π.fr) → F π H d v → F (π.loose fr) H d v
theorem RV.slack : Slack (RV x) := fun π H d v fr _ r => r.ns
theorem RVs.loose {fr : List (Addr × HO)} {ds : List D} {vs : List V} (r : RVs x π H ds vs) : RVs x (π.loose fr) H ds vs := r.ns
theorem FL.slack : Slack (FL x) := fun π H d v fr hf ⟨a, vs, e, f, h, r⟩ => ⟨a, vs, e, ⟨f.1, fun p hp => f.2 p (hf p hp)⟩, h, r.loose⟩
theorem Keep.hold {u : HO} (k : Keep (π.hold a u) H π' H') : Keep π H (π'.loose π.fr) H' := ⟨⟨k.pre, k.tup, k.frz⟩, rfl⟩
theorem Wd.unhold (w : Wd x π' h H') (k : Keep (π.hold a u) H π' H') : Wd x (π'.loose π.fr) h H' := w.loose fun p hp => by rw [k.fr]; exact List.mem_cons_of_mem _ hp
theorem Wd.heldAt (w : Wd x π' h H') (k : Keep (π.hold a u) H π' H') (na : Free π a) : Free (π'.loose π.fr) a ∧ H' a = some u := by
  have := w.fr (a, u) (by rw [k.fr]; exact List.mem_cons_self)
  exact ⟨⟨this.1, na.2⟩, this.2⟩
theorem Beg.hold (b : Beg x π ρ h σ H) (na : Free π a) (ea : H a = some u) : Beg x (π.hold a u) ρ h σ H :=
  ⟨⟨b.st.1, fun i d e => by
    obtain ⟨v, h1, h2⟩ := b.st.2 i d e
    exact ⟨v, h1, h2.ns⟩⟩, b.wd.hold na ea⟩
theorem PostF.hold {r : R α} {f : α → AH → R β} (na : Free π a) (p : PostF x F' W π H (r.bind f) σ Q) (hF : Slack F)
    (hq : ∀ (π1 : Nm) (H1 : Hp) (h1 : AH) (d : α) (v : V), Keep π H π1 H1 → Wd x π1 h1 H1 → Free π1 a → H1 a = some u → F π1 H1 d v → PostF x F' W π1 H1 (f d h1) σ Q → Q' v H1) : PostF x F W (π.hold a u) H r σ Q' := by
  cases r with
  | ok d h' =>
      intro π1 H1 v k w q
      obtain ⟨n1, e1⟩ := w.heldAt k na
      exact hq _ H1 h' d v k.hold (w.unhold k) n1 e1 (hF _ _ _ _ _ (fun p hp => by rw [k.fr]; exact List.mem_cons_of_mem _ hp) q) (PostF.keep k.hold p)
  | ex c d h' =>
      intro π1 H1 cls dd k w q
      refine p _ H1 cls dd k.hold (w.unhold k) ⟨q.1, ?_⟩
      have := q.2
      split
      · rename_i e; rw [e] at this; exact this
      · rename_i fl e
        rw [e] at this
        obtain ⟨d1, v1, z1, z2, z3⟩ := this
        exact ⟨d1, v1, z1, z2, z3.ns⟩
  | bad => exact p
/-- the second of two readings, a thing without a name held -/
theorem tF.hold {m : St → AH → R α} {f : α → AH → R β} (b : Beg x π ρ h σ H) (na : Free π a) (ea : H a = some u) (p : PostF x F' W π H ((m ρ h).bind f) σ Q) (hF : Slack F)
    (hq : ∀ (π1 : Nm) (H1 : Hp) (h1 : AH) (d : α) (v : V), Beg x π1 ρ h1 σ H1 → Free π1 a → H1 a = some u → F π1 H1 d v → Keep π H π1 H1 → PostF x F' W π1 H1 (f d h1) σ Q → Q' v H1) : tF x F W m σ H Q' :=
  ⟨π.hold a u, ρ, h, b.hold na ea, PostF.hold na p hF fun π1 H1 h1 d v k w n1 e1 q p1 => hq π1 H1 h1 d v (b.keep k w) n1 e1 q k p1⟩
end
end Rw
set_option Elab.async false
set_option linter.all false
set_option autoImplicit false
set_option maxRecDepth 100000
set_option maxHeartbeats 4000000
namespace Rw
open PySem PySem.Spec PyProof.Rows L2

/-! ## operators -/
/-- two values by a function on data -/
def rD (x : Gx) (f : AH → D → D → Option D) : R2 := fun v u H Q => ∃ π h d1 d2 d, Wd x π h H ∧ RV x π H d1 v ∧ RV x π H d2 u ∧ f h d1 d2 = some d ∧ ∀ π' H' w, Keep π H π' H' → Wd x π' h H' → RV x π' H' d w → Q w H'
section
variable {x : Gx} {X : Cx} {π : Nm} {H : Hp} {h : AH}
theorem rv_int {i : Int} {v : V} (r : RV x π H (.int i) v) : v = .int i := by cases r; rfl
theorem rv_bl {i : Bool} {v : V} (r : RV x π H (.bl i) v) : v = .bl i := by cases r; rfl
theorem rv_str {i : Str} {v : V} (r : RV x π H (.str i) v) : v = .str i := by cases r; rfl
theorem rv_non {v : V} (r : RV x π H .non v) : v = .non := by cases r; rfl
theorem rv_tup {xs : List D} {v : V} (r : RV x π H (.tup xs) v) : ∃ a vs, v = .ref a ∧ TupAt x.K H a vs ∧ RVs x π H xs vs := by cases r with | tup a b => exact ⟨_, _, rfl, a, b⟩
theorem rv_ref {n : Nat} {v : V} (r : RV x π H (.ref n) v) : ∃ a, v = .ref a ∧ π.ns[n]? = some a := by cases r with | ref a => exact ⟨_, rfl, a⟩
theorem opInt {f : Value → Value → Sem Value} {r : R2} {v u : V} {Q : VK} (ho : OpR X f r) : ∀ (pins : List (Addr × Obj)) (s : Shared) (σ : L2.St) (H : Hp) (a b : Value), Inv X pins σ H s → RelV v a → RelV u b → r v u H Q → wpAny (model X.prog X.w) X.A (f a b) (EP X pins σ Q) X.xe s :=
  fun pins s σ H a b I rv ru q => ho pins s σ H v u a b Q I rv ru q
theorem op_powW : OpR X (binaryOp .Pow) (rI (fun i j => 0 ≤ j ∧ (i.natAbs.log2 + 1) * j.toNat ≤ 100000000) fun i j => .int (i ^ j.toNat)) := opI fun i j _ _ _ _ _ hc q => by
  refine pow_int hc.1 ?_ q
  have b : Builtin.Int.intBits i ≤ i.natAbs.log2 + 1 := by
    unfold Builtin.Int.intBits
    split <;> omega
  have e : (Builtin.Int.intBits i : Int) * j = ((Builtin.Int.intBits i * j.toNat : Nat) : Int) := by
    rw [Int.natCast_mul, Int.toNat_of_nonneg hc.1]
  have m : Builtin.Int.intBits i * j.toNat ≤ (i.natAbs.log2 + 1) * j.toNat := Nat.mul_le_mul_right _ b
  rw [e]
  have h2 := hc.2
  omega
theorem op_binD (hK : X.K = x.K) (op : Operator) : OpR X (binaryOp op) (rD x fun _ => binD op) := by
  intro pins s σ H v u a b Q I ra rb q
  obtain ⟨π, h, d1, d2, d, W, r1, r2, e, q⟩ := q
  have fin : ∀ {w : V}, RV x π H d w → Q w H := fun r => q π H _ Keep.refl W r
  replace e : binD op d1 d2 = some d := e
  unfold binD at e
  split at e
  · cases e; obtain rfl := rv_int r1; obtain rfl := rv_int r2
    exact op_add pins s σ H _ _ a b Q I ra rb ⟨_, _, rfl, rfl, fin (.int _)⟩
  · split at e
    · cases e; obtain rfl := rv_str r1; obtain rfl := rv_str r2
      exact op_add_str pins s σ H _ _ a b Q I ra rb ⟨_, _, rfl, rfl, by assumption, fin (.str _)⟩
    · cases e
  · split at e
    · cases e
      obtain ⟨a1, vs, rfl, t1, l1⟩ := rv_tup r1
      obtain ⟨a2, us, rfl, t2, l2⟩ := rv_tup r2
      rename_i xs ys hz
      have z1 := l1.length
      have z2 := l2.length
      refine op_catA pins s σ H _ _ a b Q I ra rb ⟨a1, a2, vs, us, rfl, rfl, by rw [hK]; exact t1.sq, by rw [hK]; exact t2.sq, by omega, fun e => ?_, fun _ e => ?_, fun _ _ p np => ?_⟩
      · subst e
        cases l1
        exact fin (.tup t2 l2)
      · subst e
        cases l2
        rw [List.append_nil] at fin
        exact fin (.tup t1 l1)
      · have k : Keep π H π (upd H p (.tup (vs ++ us))) := Keep.upd np
        exact q π _ _ k (W.upd np) (.tup (.inl upd_same) ((l1.append l2).keep k))
    · cases e
  · cases e; obtain rfl := rv_int r1; obtain rfl := rv_int r2
    exact op_sub pins s σ H _ _ a b Q I ra rb ⟨_, _, rfl, rfl, fin (.int _)⟩
  · split at e
    · cases e; obtain rfl := rv_int r1; obtain rfl := rv_int r2
      refine op_mulW pins s σ H _ _ a b Q I ra rb ⟨_, _, rfl, rfl, ?_, fin (.int _)⟩
      unfold CMulW; omega
    · cases e
  · split at e
    · cases e
      obtain ⟨a1, vs, rfl, t1, l1⟩ := rv_tup r1
      obtain rfl := rv_int r2
      rename_i hz
      obtain ⟨c1, c2, c3, c4⟩ := hz
      refine op_repT pins s σ H _ _ a b Q I ra rb ⟨a1, _, vs, rfl, rfl, by rw [hK]; exact t1.sq, fun z => c4 ?_, c1, c2, by rw [← l1.length]; exact c3, fun p np => ?_⟩
      · subst z
        cases l1
        rfl
      · exact q π _ _ (Keep.upd np) (W.upd np) (.tup (.inl upd_same) ((l1.rep _).keep (Keep.upd np)))
    · cases e
  · split at e
    · cases e; obtain rfl := rv_int r1; obtain rfl := rv_int r2
      exact op_fdivW pins s σ H _ _ a b Q I ra rb ⟨_, _, rfl, rfl, by assumption, fin (.int _)⟩
    · cases e
  · split at e
    · cases e; obtain rfl := rv_int r1; obtain rfl := rv_int r2
      exact op_mod pins s σ H _ _ a b Q I ra rb ⟨_, _, rfl, rfl, by assumption, fin (.int _)⟩
    · cases e
  · split at e
    · cases e; obtain rfl := rv_int r1; obtain rfl := rv_int r2
      rename_i hz
      exact op_powW pins s σ H _ _ a b Q I ra rb ⟨_, _, rfl, rfl, ⟨hz.1, hz.2.2⟩, fin (.int _)⟩
    · cases e
  · cases e; obtain rfl := rv_int r1; obtain rfl := rv_int r2
    exact op_and pins s σ H _ _ a b Q I ra rb ⟨_, _, rfl, rfl, fin (.int _)⟩
  · cases e; obtain rfl := rv_int r1; obtain rfl := rv_int r2
    exact op_or pins s σ H _ _ a b Q I ra rb ⟨_, _, rfl, rfl, fin (.int _)⟩
  · split at e
    · cases e; obtain rfl := rv_int r1; obtain rfl := rv_int r2
      exact op_shl pins s σ H _ _ a b Q I ra rb ⟨_, _, rfl, rfl, by assumption, fin (.int _)⟩
    · cases e
  · split at e
    · cases e; obtain rfl := rv_int r1; obtain rfl := rv_int r2
      exact op_shr pins s σ H _ _ a b Q I ra rb ⟨_, _, rfl, rfl, by assumption, fin (.int _)⟩
    · cases e
  · cases e
end
/-- an expression of two parts -/
theorem r_op2 {x : Gx} {X : Cx} {W : L2.WX} {a b : Expr} {ma mb : St → AH → R D} {f : AH → D → D → Option D} {e : Expr}
    (pe : ∀ {ta tb : TE}, PE X a ta → PE X b tb → PE X e (tOp (rD x f) ta tb)) (ha : PE X a (tE x W ma)) (hb : PE X b (tE x W mb)) :
    PE X e (tE x W fun ρ h => (ma ρ h).bind fun u h => (mb ρ h).bind fun v h => R.opt h (f h u v)) := by
  refine PE.imp (pe ha hb) fun σ H Q ⟨π, ρ, h, b, p⟩ => ?_
  refine tF.fst b p fun π1 H1 h1 d1 v1 b1 r1 k1 p1 => tF.fst b1 p1 fun π2 H2 h2 d2 v2 b2 r2 k2 p2 => ?_
  obtain ⟨d, e, p3⟩ := p2.opt1
  exact ⟨π2, h2, d1, d2, d, b2.wd, r1.keep k2, r2, e, fun π' H' w k W' r => p3 π' H' w k W' r⟩
end Rw
set_option Elab.async false
set_option linter.all false
set_option autoImplicit false
set_option maxRecDepth 100000
set_option maxHeartbeats 4000000
namespace Rw
open PySem PySem.Spec PyProof.Rows L2

/-! ## comparisons -/
theorem mapM_some {α β : Type} {f : α → Option β} : ∀ {l : List α} {r : List β}, l.mapM f = some r → Paired (fun a b => f a = some b) l r
  | [], r, h => by simp at h; subst h; exact .nil
  | a :: l, r, h => by
    rw [List.mapM_cons] at h
    cases e : f a with
    | none => rw [e] at h; cases h
    | some b =>
      cases e2 : l.mapM f with
      | none => rw [e, e2] at h; cases h
      | some bs =>
        rw [e, e2] at h
        cases h
        exact .cons e (mapM_some e2)
section
variable {x : Gx} {π : Nm} {H : Hp} {h : AH}
theorem Wd.lst {n : Nat} {xs : List D} {lk : Bool} {a : Addr} (W : Wd x π h H) (e : h[n]? = some (.lst xs lk)) (ea : π.ns[n]? = some a) : ∃ vs, RVs x π H xs vs ∧ AtLk H a lk (.lst vs) := by
  have r := W.obj n _ a e ea
  cases r with | lst r q => exact ⟨_, r, q⟩
theorem Wd.dct {n : Nat} {kvs : List (D × D)} {lk : Bool} {a : Addr} (W : Wd x π h H) (e : h[n]? = some (.dct kvs lk)) (ea : π.ns[n]? = some a) : ∃ u, DH x π H a kvs u ∧ AtLk H a lk u := by
  have r := W.obj n _ a e ea
  cases r with | dct r q => exact ⟨_, r, q⟩
theorem pd_dp (W : Wd x π h H) : ∀ (k : Nat) (d : D) (p : PyData) (v : V), d.pd h k = some p → RV x π H d v → Dp x.K H v p
  | 0, _, _, _, e, _ => by simp [D.pd] at e
  | k + 1, d, p, v, e, r => by
    have all : ∀ (ds : List D) (ps : List PyData) (vs : List V), Paired (fun a b => D.pd h k a = some b) ds ps → RVs x π H ds vs → DpAll x.K H vs ps := by
      intro ds
      induction ds with
      | nil => intro ps vs e r; cases e; cases r; exact .nil
      | cons d ds ih =>
        intro ps vs e r
        cases e with
        | cons e1 e2 =>
          cases r with
          | cons r1 r2 => exact .cons (pd_dp W k _ _ _ e1 r1) (ih _ _ e2 r2)
    cases d with
    | non => simp [D.pd] at e; subst e; cases r; exact .non
    | bl b => simp [D.pd] at e; subst e; cases r; exact .bl b
    | int i => simp [D.pd] at e; subst e; cases r; exact .int i
    | str z => simp [D.pd] at e; subst e; cases r; exact .str z
    | fn n => simp [D.pd] at e
    | tup xs =>
      simp only [D.pd, Option.map_eq_some_iff] at e
      obtain ⟨ps, e1, rfl⟩ := e
      obtain ⟨a, vs, rfl, t, l⟩ := rv_tup r
      exact .tup t.sq (all _ _ _ (mapM_some e1) l)
    | ref n =>
      obtain ⟨a, rfl, ea⟩ := rv_ref r
      simp only [D.pd] at e
      split at e
      · rename_i xs lk eh
        simp only [Option.map_eq_some_iff] at e
        obtain ⟨ps, e1, rfl⟩ := e
        obtain ⟨vs, l, q⟩ := W.lst eh ea
        exact .lst (.inl q.rd) (all _ _ _ (mapM_some e1) l)
      · cases e
mutual
theorem data_dp : ∀ (d : D) (v : V), d.data = true → RV x π H d v → Dp x.K H v d.toP
  | .non, _, _, r => by cases r; exact .non
  | .bl b, _, _, r => by cases r; exact .bl b
  | .int i, _, _, r => by cases r; exact .int i
  | .str z, _, _, r => by cases r; exact .str z
  | .fn n, _, e, _ => by simp [D.data] at e
  | .ref n, _, e, _ => by simp [D.data] at e
  | .tup xs, _, e, r => by
    obtain ⟨a, vs, rfl, t, l⟩ := rv_tup r
    simp only [D.data] at e
    exact .tup t.sq (datas_dp xs vs e l)
theorem datas_dp : ∀ (ds : List D) (vs : List V), D.datas ds = true → RVs x π H ds vs → DpAll x.K H vs (D.toPs ds)
  | [], _, _, r => by cases r; exact .nil
  | d :: ds, _, e, r => by
    cases r with
    | cons r1 r2 =>
      simp only [D.datas, Bool.and_eq_true] at e
      exact .cons (data_dp d _ e.1 r1) (datas_dp ds _ e.2 r2)
end
theorem toP_none {d : D} (hd : d.data = true) (e : d.toP = .none) : d = .non := by
  cases d <;> simp [D.toP] at e ⊢
end

/-- two values by a function on data, a truth -/
def rB (x : Gx) (f : AH → D → D → Option Bool) : R2 := fun v u H Q => ∃ π h d1 d2 b, Wd x π h H ∧ RV x π H d1 v ∧ RV x π H d2 u ∧ f h d1 d2 = some b ∧ Q (.bl b) H
section
variable {x : Gx} {X : Cx}
theorem orderly_of {a b : D} (e : orderly a b = true) : a.data = true ∧ b.data = true ∧ PySem.W.alike a.toP b.toP = true ∧ a.toP ≠ .none ∧ a.toP.depth ≤ 50 := by
  unfold orderly at e
  simp only [Bool.and_eq_true, decide_eq_true_eq] at e
  obtain ⟨⟨⟨⟨e1, e2⟩, e3⟩, e4⟩, e5⟩ := e
  exact ⟨e1, e2, e3, fun z => e4 (toP_none e1 z), e5⟩
theorem fits_key {kvs : List (D × D)} {k : D} (e : fits kvs k = true) : ∃ t nk, k.key = some (t, nk) ∧ ∀ kv ∈ kvs, ∃ m, kv.1.key = some (t, m) := by
  unfold fits at e
  split at e
  · rename_i t nk hk
    refine ⟨t, nk, hk, fun kv hkv => ?_⟩
    have := List.all_eq_true.mp e kv hkv
    split at this
    · rename_i u m hm
      have : t = u := by simpa using this
      subst this
      exact ⟨m, hm⟩
    · cases this
  · cases e
end
end Rw
set_option Elab.async false
set_option linter.all false
set_option autoImplicit false
set_option maxRecDepth 100000
set_option maxHeartbeats 4000000
namespace Rw
open PySem PySem.Spec PyProof.Rows L2

/-! ## dicts -/
theorem keyOf_key {d : D} {k : L2.Key} (h : keyOf d = some k) : d.key = some (false, match k with | .inl i => .num i | .inr z => .text z) := by
  cases d <;> simp [keyOf] at h <;> subst h <;> rfl
theorem key_flat {d : D} {n : NestedKey} (h : d.key = some (false, n)) : ∃ k, keyOf d = some k := by
  cases d <;> simp [D.key] at h
  · exact ⟨_, rfl⟩
  · exact ⟨_, rfl⟩
theorem key_tup {d : D} {n : NestedKey} (h : d.key = some (true, n)) : ∃ xs, d = .tup xs ∧ D.nk 8 (.tup xs) = some n := by
  cases d <;> simp [D.key] at h
  exact ⟨_, rfl, h⟩
theorem sameKey_flat {p a : D} {q k : L2.Key} (hp : keyOf p = some q) (ha : keyOf a = some k) : sameKey p a = decide (q = k) := by
  have e1 := keyOf_key hp
  have e2 := keyOf_key ha
  unfold sameKey
  rw [e1, e2]
  cases q <;> cases k <;> simp
theorem sameKey_tup {p a : D} {q k : NestedKey} (hp : p.key = some (true, q)) (ha : a.key = some (true, k)) : sameKey p a = decide (q = k) := by
  unfold sameKey
  rw [hp, ha]
  simp
theorem dget_cons {p : D × D} {r : List (D × D)} {a : D} : dget (p :: r) a = if sameKey p.1 a = true then some p.2 else dget r a := by
  unfold dget
  rw [List.find?_cons]
  cases sameKey p.1 a <;> simp
section
variable {x : Gx} {π : Nm} {H : Hp}
theorem dget_flat {a : D} {k : L2.Key} (ha : keyOf a = some k) : ∀ {kvs : List (D × D)} {ps : List (L2.Key × V)}, DK x π H kvs ps → match dget kvs a with | some d => ∃ v, valV ps k = some v ∧ RV x π H d v | none => valV ps k = none
  | [], _, .nil => by simp [dget, valV]
  | p :: kvs, q :: ps, .cons ⟨e, rv⟩ t => by
    have ih := dget_flat ha t
    have s := sameKey_flat e ha
    rw [dget_cons]
    by_cases h : q.1 = k
    · rw [decide_eq_true h] at s
      rw [if_pos s]
      exact ⟨q.2, valV_pos h, rv⟩
    · rw [decide_eq_false h] at s
      rw [if_neg (by rw [s]; decide), valV_neg h]
      exact ih
theorem atKey_cons {K : Type} [DecidableEq K] {p : K × Addr × Value} {r : List (K × Addr × Value)} {k : K} : atKey (p :: r) k = if p.1 = k then some p.2 else atKey r k := by
  unfold atKey
  rw [List.find?_cons]
  by_cases h : p.1 = k
  · rw [decide_eq_true h, if_pos h]; rfl
  · rw [decide_eq_false h, if_neg h]
theorem dget_tup {a : D} {k : NestedKey} (ha : a.key = some (true, k)) : ∀ {kvs : List (D × D)} {ps : List (NestedKey × Addr × Value)}, DT x π H kvs ps →
    match dget kvs a with | some d => ∃ b u v, atKey ps k = some (b, u) ∧ RelV v u ∧ RV x π H d v | none => atKey ps k = none
  | [], _, .nil => by simp [dget, atKey]
  | p :: kvs, q :: ps, .cons ⟨e, rk, v, rv, rd⟩ t => by
    have ih := dget_tup ha t
    have s := sameKey_tup e ha
    rw [dget_cons, atKey_cons]
    by_cases h : q.1 = k
    · rw [decide_eq_true h] at s
      rw [if_pos s, if_pos h]
      exact ⟨q.2.1, q.2.2, v, rfl, rv, rd⟩
    · rw [decide_eq_false h] at s
      rw [if_neg (by rw [s]; decide), if_neg h]
      exact ih
theorem dput_ne {kvs : List (D × D)} {a d : D} : dput kvs a d ≠ [] := by
  cases kvs with
  | nil => simp [dput]
  | cons p r => obtain ⟨k, v⟩ := p; unfold dput; split <;> simp
theorem dput_flat {a d : D} {v : V} {k : L2.Key} (ha : keyOf a = some k) (rv : RV x π H d v) : ∀ {kvs : List (D × D)} {ps : List (L2.Key × V)}, DK x π H kvs ps → (ps.map (·.1)).Nodup → DK x π H (dput kvs a d) (putK ps k v)
  | [], _, .nil, _ => .cons ⟨ha, rv⟩ .nil
  | p :: kvs, q :: ps, .cons ⟨e, rq⟩ t, nd => by
    have s := sameKey_flat e ha
    rw [List.map_cons, List.nodup_cons] at nd
    have ih := dput_flat ha rv t nd.2
    unfold dput
    by_cases h : q.1 = k
    · rw [decide_eq_true h] at s
      rw [if_pos s]
      have hno : ∀ z ∈ ps, z.1 ≠ k := fun z hz e' => nd.1 (List.mem_map.mpr ⟨z, hz, e'.trans h.symm⟩)
      have hm : ps.map (fun kv => if kv.1 = k then (kv.1, v) else kv) = ps := by
        conv => rhs; rw [← List.map_id ps]
        exact List.map_congr_left fun z hz => by rw [if_neg (hno z hz)]; rfl
      have hp : putK (q :: ps) k v = (q.1, v) :: ps := by
        unfold putK
        rw [if_pos (by simp [h]), List.map_cons, if_pos h, hm]
      rw [hp]
      exact .cons ⟨e, rv⟩ t
    · rw [decide_eq_false h] at s
      rw [if_neg (by rw [s]; decide)]
      have hp : putK (q :: ps) k v = q :: putK ps k v := by
        unfold putK
        by_cases hh : (ps.any fun kv => decide (kv.1 = k)) = true
        · rw [if_pos hh, if_pos (by simp only [List.any_cons, hh, Bool.or_true]), List.map_cons, if_neg h]
        · rw [if_neg hh, if_neg (by simp only [List.any_cons, decide_eq_false h, Bool.false_or]; exact hh), List.cons_append]
      rw [hp]
      exact .cons ⟨e, rq⟩ ih
theorem storedH_cons {p : NestedKey × Addr × Value} {ps : List (NestedKey × Addr × Value)} {k : NestedKey} {b : Addr} {u : Value} (nd : p.1 ∉ ps.map (·.1)) :
    storedH (p :: ps) k b u = if p.1 = k then (p.1, p.2.1, u) :: ps else p :: storedH ps k b u := by
  unfold storedH
  rw [atKey_cons]
  by_cases h : p.1 = k
  · rw [if_pos h, if_pos (by rfl), if_pos h, List.map_cons, map_putAt_of_not_mem ps k u (by rw [← h]; exact nd)]
    unfold putAt
    rw [if_pos h]
  · rw [if_neg h, if_neg h]
    by_cases hh : (atKey ps k).isSome = true
    · rw [if_pos hh, if_pos hh, List.map_cons]
      congr 1
      unfold putAt
      rw [if_neg h]
    · rw [if_neg hh, if_neg hh, List.cons_append]
theorem dput_tup {a d : D} {b : Addr} {u : Value} {v : V} {k : NestedKey} (ha : a.key = some (true, k)) (ra : RV x π H a (.ref b)) (ru : RelV v u) (rv : RV x π H d v) : ∀ {kvs : List (D × D)} {ps : List (NestedKey × Addr × Value)}, DT x π H kvs ps → (ps.map (·.1)).Nodup →
    DT x π H (dput kvs a d) (storedH ps k b u)
  | [], _, .nil, _ => by
    have e : storedH ([] : List (NestedKey × Addr × Value)) k b u = [(k, b, u)] := by simp [storedH, atKey]
    rw [e]
    exact .cons ⟨ha, ra, v, ru, rv⟩ .nil
  | p :: kvs, q :: ps, .cons ⟨e, rk, v', rv', rd⟩ t, nd => by
    have s := sameKey_tup e ha
    rw [List.map_cons, List.nodup_cons] at nd
    have ih := dput_tup ha ra ru rv t nd.2
    rw [storedH_cons nd.1]
    unfold dput
    by_cases h : q.1 = k
    · rw [decide_eq_true h] at s
      rw [if_pos s, if_pos h]
      exact .cons ⟨e, rk, v, ru, rv⟩ t
    · rw [decide_eq_false h] at s
      rw [if_neg (by rw [s]; decide), if_neg h]
      exact .cons ⟨e, rk, v', rv', rd⟩ ih
theorem storedH_nodup {ps : List (NestedKey × Addr × Value)} {k : NestedKey} {b : Addr} {u : Value} (nd : (ps.map (·.1)).Nodup) : ((storedH ps k b u).map (·.1)).Nodup := by
  unfold storedH
  split
  · have e : (ps.map (putAt k u)).map (·.1) = ps.map (·.1) := by
      rw [List.map_map]
      exact List.map_congr_left fun z _ => by
        show (putAt k u z).1 = z.1
        unfold putAt
        split <;> rfl
    rw [e]; exact nd
  · rename_i h
    rw [List.map_append, List.nodup_append]
    refine ⟨nd, by simp, fun z hz y hy => ?_⟩
    have e : y = k := by simpa using hy
    subst e
    rintro rfl
    obtain ⟨q, hq, rfl⟩ := List.mem_map.mp hz
    obtain ⟨i, hi⟩ := List.getElem?_of_mem hq
    exact h (by rw [atKey_of_get nd (k := q.1) (p := q.2) hi]; rfl)
theorem putK_nodup {ps : List (L2.Key × V)} {k : L2.Key} {v : V} (nd : (ps.map (·.1)).Nodup) : ((putK ps k v).map (·.1)).Nodup := by
  unfold putK
  split
  · have e : (ps.map (fun kv => if kv.1 = k then (kv.1, v) else kv)).map (·.1) = ps.map (·.1) := by
      rw [List.map_map]
      exact List.map_congr_left fun z _ => by
        show (if z.1 = k then (z.1, v) else z).1 = z.1
        split <;> rfl
    rw [e]; exact nd
  · rename_i h
    rw [List.map_append, List.nodup_append]
    refine ⟨nd, by simp, fun z hz y hy => ?_⟩
    have e : y = k := by simpa using hy
    subst e
    rintro rfl
    obtain ⟨q, hq, rfl⟩ := List.mem_map.mp hz
    exact h (List.any_eq_true.mpr ⟨q, hq, by simp⟩)
theorem storedH_len {ps : List (NestedKey × Addr × Value)} {k : NestedKey} {b : Addr} {u : Value} : (storedH ps k b u).length ≤ ps.length + 1 := by
  unfold storedH
  split <;> simp
theorem Paired.len {α β : Type} {F : α → β → Prop} : ∀ {l : List α} {r : List β}, Paired F l r → l.length = r.length
  | _, _, .nil => rfl
  | _, _, .cons _ t => by simp [Paired.len t]
theorem Paired.at {α β : Type} {F : α → β → Prop} : ∀ {l : List α} {r : List β}, Paired F l r → ∀ {i : Nat} {a : α}, l[i]? = some a → ∃ b, r[i]? = some b ∧ F a b
  | _, _, .nil, i, a, e => by simp at e
  | _, _, .cons h t, 0, a, e => by simp at e; subst e; exact ⟨_, rfl, h⟩
  | _, _, .cons h t, i + 1, a, e => by
    obtain ⟨b, h1, h2⟩ := Paired.at t (i := i) (a := a) (by simpa using e)
    exact ⟨b, by simpa using h1, h2⟩
theorem Paired.at' {α β : Type} {F : α → β → Prop} : ∀ {l : List α} {r : List β}, Paired F l r → ∀ {i : Nat} {b : β}, r[i]? = some b → ∃ a, l[i]? = some a ∧ F a b
  | _, _, .nil, i, a, e => by simp at e
  | _, _, .cons h t, 0, a, e => by simp at e; subst e; exact ⟨_, rfl, h⟩
  | _, _, .cons h t, i + 1, a, e => by
    obtain ⟨b, h1, h2⟩ := Paired.at' t (i := i) (b := a) (by simpa using e)
    exact ⟨b, by simpa using h1, h2⟩
/-- which of both kinds, by the key that is asked -/
theorem fits_kind {a : Addr} {kvs : List (D × D)} {u : HO} {k : D} (r : DH x π H a kvs u) (f : fits kvs k = true) (ne : kvs ≠ []) :
    (∃ ps q, u = .dK ps ∧ DK x π H kvs ps ∧ (ps.map (·.1)).Nodup ∧ keyOf k = some q) ∨ (∃ ps q, u = DN x a ps ∧ DT x π H kvs ps ∧ (ps.map (·.1)).Nodup ∧ k.key = some (true, q)) := by
  obtain ⟨t, nk, hk, all⟩ := fits_key f
  cases kvs with
  | nil => exact absurd rfl ne
  | cons p kvs =>
    obtain ⟨m, hm⟩ := all p List.mem_cons_self
    cases r with
    | @flat ps r n =>
      left
      have r0 := r
      cases r0 with
      | cons e _ =>
        rw [keyOf_key e.1] at hm
        have : t = false := by injection hm with h1; exact (Prod.mk.inj h1).1.symm
        subst this
        obtain ⟨q, hq⟩ := key_flat hk
        exact ⟨_, q, rfl, r, n, hq⟩
    | @tups ps r n _ =>
      right
      have r0 := r
      cases r0 with
      | cons e _ =>
        rw [e.1] at hm
        have : t = true := by injection hm with h1; exact (Prod.mk.inj h1).1.symm
        subst this
        exact ⟨_, nk, rfl, r, n, hk⟩
end

/-! ### a key in the machine's heap -/
section
variable {x : Gx} {X : Cx} {pins : List (Addr × Obj)} {σ : L2.St} {π : Nm} {H : Hp} {s : Shared}
theorem nk_depth : ∀ (k : Nat) (d : D) (n : NestedKey), D.nk k d = some n → n.depth ≤ k
  | 0, _, _, e => by simp [D.nk] at e
  | k + 1, d, n, e => by
    have all : ∀ (ds : List D) (ns : List NestedKey), Paired (fun a b => D.nk k a = some b) ds ns → NestedKey.depthAll ns ≤ k := by
      intro ds
      induction ds with
      | nil => intro ns h; cases h; simp [NestedKey.depthAll]
      | cons d ds ih =>
        intro ns h
        cases h with
        | cons e1 e2 =>
          have := nk_depth k _ _ e1
          have := ih _ e2
          simp only [NestedKey.depthAll]
          omega
    cases d with
    | non => simp [D.nk] at e; subst e; simp [NestedKey.depth]
    | bl b => simp [D.nk] at e; subst e; simp [NestedKey.depth]
    | int b => simp [D.nk] at e; subst e; simp [NestedKey.depth]
    | str b => simp [D.nk] at e; subst e; simp [NestedKey.depth]
    | fn b => simp [D.nk] at e
    | ref b => simp [D.nk] at e
    | tup xs =>
      simp only [D.nk, Option.map_eq_some_iff] at e
      obtain ⟨ns, e1, rfl⟩ := e
      have := all _ _ (mapM_some e1)
      simp only [NestedKey.depth]
      omega
theorem nk_is (hK : X.K = x.K) (I : Inv X pins σ H s) : ∀ (k : Nat) (d : D) (n : NestedKey) (v : V) (u : Value), D.nk k d = some n → RV x π H d v → RelV v u → NestedIs s.heap n u
  | 0, _, _, _, _, e, _, _ => by simp [D.nk] at e
  | k + 1, d, n, v, u, e, r, ru => by
    have all : ∀ (ds : List D) (ns : List NestedKey) (vs : List V) (us : List Value), Paired (fun a b => D.nk k a = some b) ds ns → RVs x π H ds vs → Vals vs us → NestedAll s.heap ns us := by
      intro ds
      induction ds with
      | nil => intro ns vs us h r ru; cases h; cases r; cases ru; exact .nil
      | cons d ds ih =>
        intro ns vs us h r ru
        cases h with
        | cons e1 e2 => cases r with
          | cons r1 r2 => cases ru with
            | cons u1 u2 => exact .cons (nk_is hK I k _ _ _ _ e1 r1 u1) (ih _ _ _ e2 r2 u2)
    cases d with
    | non => simp [D.nk] at e; subst e; cases r; cases ru; exact .none
    | bl b => simp [D.nk] at e; subst e; cases r; cases ru; exact .bool (by cases b <;> rfl)
    | int b => simp [D.nk] at e; subst e; cases r; obtain ⟨t, rfl⟩ := ru; exact .int _ _
    | str b => simp [D.nk] at e; subst e; cases r; obtain ⟨t, rfl⟩ := ru; exact .text _ _
    | fn b => simp [D.nk] at e
    | ref b => simp [D.nk] at e
    | tup xs =>
      simp only [D.nk, Option.map_eq_some_iff] at e
      obtain ⟨ns, e1, rfl⟩ := e
      obtain ⟨a, vs, rfl, t, l⟩ := rv_tup r
      cases ru
      obtain ⟨its, rits, ⟨o, ho, hc, m, hd⟩, _⟩ := I.tuple (by rw [hK]; exact t.sq)
      exact .tup ho hc hd (by simpa using all _ _ _ _ (mapM_some e1) l rits)
/-- a tuple's key at its address -/
theorem key_is (hK : X.K = x.K) (I : Inv X pins σ H s) {d : D} {n : NestedKey} {b : Addr} (e : d.key = some (true, n)) (r : RV x π H d (.ref b)) : (nestedKind X.prog X.w).is s.heap n b := by
  obtain ⟨xs, rfl, e1⟩ := key_tup e
  have := nk_depth _ _ _ e1
  exact ⟨nk_is hK I 8 _ n (.ref b) (.ref b) e1 r rfl, by omega⟩
theorem dn_ok (hK : X.K = x.K) (hP : X.prog = x.P) (hw : X.w = x.w) (I : Inv X pins σ H s) {a : Addr} {kvs : List (D × D)} {ps : List (NestedKey × Addr × Value)} (e : Rd H a (DN x a ps)) (r : DT x π H kvs ps) :
    s.heap.DictOfH (nestedKind X.prog X.w) a ps ∧ (a == sysModules) = false ∧ ps.length ≤ sizeLine := by
  obtain ⟨⟨o, es, ep, ho, hc, hd, he, nd, hm, hz⟩, _, _⟩ := e.ok I.hok
  refine ⟨⟨o, es, ep, ho, hc, hd, by rw [hP, hw]; exact he, fun q hq => ?_, nd⟩, hm, hz⟩
  obtain ⟨i, hi⟩ := List.getElem?_of_mem hq
  obtain ⟨p, _, z1, z2, _⟩ := Paired.at' r hi
  exact key_is hK I z1 z2
end
end Rw
set_option Elab.async false
set_option linter.all false
set_option autoImplicit false
set_option maxRecDepth 100000
set_option maxHeartbeats 4000000
namespace Rw
open PySem PySem.Spec PyProof.Rows L2

section
variable {x : Gx} {X : Cx} {pins : List (Addr × Obj)} {σ : L2.St} {π : Nm} {H : Hp} {h : AH} {s : Shared} {a : Addr} {kvs : List (D × D)} {u : HO} {k : D}
theorem empty_T (I : Inv X pins σ H s) (e : Rd H a (.dK [])) : s.heap.DictOfH (nestedKind X.prog X.w) a [] ∧ (a == sysModules) = false := by
  obtain ⟨_, hm, vs, rel, o, es, ep, ho, hc, hd, _, hp, _⟩ := e.ok I.hok
  cases rel
  have he : es.toList = [] := by
    cases hes : es.toList with
    | nil => rfl
    | cons p r => rw [hes] at hp; cases hp
  exact ⟨⟨o, es, ep, ho, hc, hd, by simpa using he, by simp, by simp⟩, hm⟩
theorem empty_K (I : Inv X pins σ H s) (e : Rd H a (DN x a [])) : s.heap.DictOf (mixKind X.prog X.w) a [] ∧ (a == sysModules) = false := by
  obtain ⟨⟨o, es, ep, ho, hc, hd, he, nd, hm, hz⟩, _, _⟩ := e.ok I.hok
  have he' : es.toList = [] := by simpa using he
  have : es = #[] := by simpa using he'
  subst this
  obtain ⟨o2, es2, ep2, h1, h2, h3, h4, h5, h6⟩ := Heap.DictOf.new (knd := mixKind X.prog X.w) s.heap
  refine ⟨⟨o, #[], ep, ho, hc, hd, ?_, ?_, by simp⟩, hm⟩
  · exact fun i hi => absurd hi (by simp)
  · exact .nil
/-- as a dict of flat keys -/
theorem viewK (hP : X.prog = x.P) (hw : X.w = x.w) (I : Inv X pins σ H s) (r : DH x π H a kvs u) (e : Rd H a u) (f : fits kvs k = true) {q : L2.Key} (hk : keyOf k = some q) :
    ∃ ps vs, DK x π H kvs ps ∧ (ps.map (·.1)).Nodup ∧ KV ps vs ∧ s.heap.DictOf (mixKind X.prog X.w) a vs ∧ (a == sysModules) = false ∧ ps.length ≤ sizeLine := by
  cases kvs with
  | nil =>
    cases r with
    | flat r n =>
      cases r
      obtain ⟨z, hm, vs, rel, dd⟩ := dk_rd I.hok e
      exact ⟨[], vs, .nil, by simp, rel, dd, hm, z⟩
    | tups r n _ =>
      cases r
      obtain ⟨dd, hm⟩ := empty_K I e
      exact ⟨[], [], .nil, by simp, .nil, dd, hm, by simp⟩
  | cons p kvs =>
    rcases fits_kind r f (by simp) with ⟨ps, q', rfl, r, n, _⟩ | ⟨ps, q', rfl, r, n, hq⟩
    · obtain ⟨z, hm, vs, rel, dd⟩ := dk_rd I.hok e
      exact ⟨ps, vs, r, n, rel, dd, hm, z⟩
    · rw [keyOf_key hk] at hq
      cases hq
/-- as a dict of tuples -/
theorem viewT (hK : X.K = x.K) (hP : X.prog = x.P) (hw : X.w = x.w) (I : Inv X pins σ H s) (r : DH x π H a kvs u) (e : Rd H a u) (f : fits kvs k = true) {q : NestedKey} (hk : k.key = some (true, q)) :
    ∃ ps, DT x π H kvs ps ∧ (ps.map (·.1)).Nodup ∧ s.heap.DictOfH (nestedKind X.prog X.w) a ps ∧ (a == sysModules) = false ∧ ps.length ≤ sizeLine := by
  cases kvs with
  | nil =>
    cases r with
    | flat r n =>
      cases r
      obtain ⟨dd, hm⟩ := empty_T I e
      exact ⟨[], .nil, by simp, dd, hm, by simp⟩
    | tups r n _ =>
      obtain ⟨dd, hm, z⟩ := dn_ok hK hP hw I e r
      exact ⟨_, r, n, dd, hm, z⟩
  | cons p kvs =>
    rcases fits_kind r f (by simp) with ⟨ps, q', rfl, r, n, hq⟩ | ⟨ps, q', rfl, r, n, _⟩
    · rw [keyOf_key hq] at hk
      cases hk
    · obtain ⟨dd, hm, z⟩ := dn_ok hK hP hw I e r
      exact ⟨_, r, n, dd, hm, z⟩
/-- flat or a tuple -/
theorem fits_or (f : fits kvs k = true) : (∃ q, keyOf k = some q) ∨ ∃ q, k.key = some (true, q) := by
  obtain ⟨t, nk, hk, _⟩ := fits_key f
  cases t with
  | false => exact .inl (key_flat hk)
  | true => exact .inr ⟨_, hk⟩
theorem kV_of {q : L2.Key} {v : V} (hk : keyOf k = some q) (r : RV x π H k v) : v = kV q := by
  cases k <;> simp [keyOf] at hk <;> subst hk <;> cases r <;> rfl
theorem isRef {q : NestedKey} {v : V} (hk : k.key = some (true, q)) (r : RV x π H k v) : ∃ b, v = .ref b := by
  obtain ⟨xs, rfl, _⟩ := key_tup hk
  obtain ⟨b, vs, rfl, _⟩ := rv_tup r
  exact ⟨b, rfl⟩

variable {A : Around} {E : Value → Shared → Prop} {v : V} {uv : Value}
/-- k in d -/
theorem dIn (hK : X.K = x.K) (hP : X.prog = x.P) (hw : X.w = x.w) (hu : A.units + 9 < cLine) {Q : Value → Shared → Prop} (I : Inv X pins σ H s) (r : DH x π H a kvs u) (e : Rd H a u) (f : fits kvs k = true) (rk : RV x π H k v) (ru : RelV v uv)
    (hq : ∀ s', Inv X pins σ H s' → Q (.bool (dget kvs k).isSome) s') : wpAny (model X.prog X.w) A (compareOp .In uv (.ref a)) Q E s := by
  rcases fits_or f with ⟨q, hk⟩ | ⟨q, hk⟩
  · obtain ⟨ps, vs, dk, nd, rel, dd, hm, z⟩ := viewK hP hw I r e f hk
    obtain rfl := kV_of hk rk
    refine wpAny_in_of (kV_is ru) hm dd.mapOf ?_
    rw [← (rel.val q).isSome_eq]
    have g := dget_flat hk dk
    have e2 : (valV ps q).isSome = (dget kvs k).isSome := by
      cases hd : dget kvs k with
      | none => rw [hd] at g; rw [g]; rfl
      | some d => rw [hd] at g; obtain ⟨v, g, _⟩ := g; rw [g]; rfl
    rw [e2]
    exact hq _ (I.tok _)
  · obtain ⟨ps, dt, nd, dd, hm, z⟩ := viewT hK hP hw I r e f hk
    obtain ⟨b, rfl⟩ := isRef hk rk
    cases ru
    refine wpAny_in_heap (k := q) (by show A.units + 1 + 8 < cLine; omega) (key_is hK I hk rk) hm dd ?_
    have g := dget_tup hk dt
    have e2 : (atKey ps q).isSome = (dget kvs k).isSome := by
      cases hd : dget kvs k with
      | none => rw [hd] at g; rw [g]; rfl
      | some d => rw [hd] at g; obtain ⟨b, u, v, g, _⟩ := g; rw [g]; rfl
    rw [e2]
    exact hq _ (I.tok _)
theorem dNotIn (hK : X.K = x.K) (hP : X.prog = x.P) (hw : X.w = x.w) (hu : A.units + 9 < cLine) {Q : Value → Shared → Prop} (I : Inv X pins σ H s) (r : DH x π H a kvs u) (e : Rd H a u) (f : fits kvs k = true) (rk : RV x π H k v) (ru : RelV v uv)
    (hq : ∀ s', Inv X pins σ H s' → Q (.bool (!(dget kvs k).isSome)) s') : wpAny (model X.prog X.w) A (compareOp .NotIn uv (.ref a)) Q E s := by
  rcases fits_or f with ⟨q, hk⟩ | ⟨q, hk⟩
  · obtain ⟨ps, vs, dk, nd, rel, dd, hm, z⟩ := viewK hP hw I r e f hk
    obtain rfl := kV_of hk rk
    refine wpAny_notIn_of (kV_is ru) hm dd.mapOf ?_
    rw [← (rel.val q).isSome_eq]
    have g := dget_flat hk dk
    have e2 : (valV ps q).isSome = (dget kvs k).isSome := by
      cases hd : dget kvs k with
      | none => rw [hd] at g; rw [g]; rfl
      | some d => rw [hd] at g; obtain ⟨v, g, _⟩ := g; rw [g]; rfl
    rw [e2]
    exact hq _ (I.tok _)
  · obtain ⟨ps, dt, nd, dd, hm, z⟩ := viewT hK hP hw I r e f hk
    obtain ⟨b, rfl⟩ := isRef hk rk
    cases ru
    refine wpAny_notIn_heap (k := q) (by show A.units + 1 + 8 < cLine; omega) (key_is hK I hk rk) hm dd ?_
    have g := dget_tup hk dt
    have e2 : (atKey ps q).isSome = (dget kvs k).isSome := by
      cases hd : dget kvs k with
      | none => rw [hd] at g; rw [g]; rfl
      | some d => rw [hd] at g; obtain ⟨b, u, v, g, _⟩ := g; rw [g]; rfl
    rw [e2]
    exact hq _ (I.tok _)
/-- d[k] -/
theorem dGetItem (hK : X.K = x.K) (hP : X.prog = x.P) (hw : X.w = x.w) (hu : A.units + 9 < cLine) {Q : Value → Shared → Prop} {d : D} (I : Inv X pins σ H s) (r : DH x π H a kvs u) (e : Rd H a u) (f : fits kvs k = true) (rk : RV x π H k v) (ru : RelV v uv) (hg : dget kvs k = some d)
    (hq : ∀ s' v' u', Inv X pins σ H s' → RV x π H d v' → RelV v' u' → Q u' s') : wpAny (model X.prog X.w) A (getItem (.ref a) uv) Q E s := by
  rcases fits_or f with ⟨q, hk⟩ | ⟨q, hk⟩
  · obtain ⟨ps, vs, dk, nd, rel, dd, hm, z⟩ := viewK hP hw I r e f hk
    obtain rfl := kV_of hk rk
    have g := dget_flat hk dk
    rw [hg] at g
    obtain ⟨v', g, rd⟩ := g
    obtain ⟨w', hw', rw'⟩ := RelO.some_of (v := v') (o := valueAt vs q) (by rw [← g]; exact rel.val q)
    exact wpAny_getItem_of (kV_is ru) dd.mapOf hw' (hq _ _ _ (I.tok _) rd rw')
  · obtain ⟨ps, dt, nd, dd, hm, z⟩ := viewT hK hP hw I r e f hk
    obtain ⟨b, rfl⟩ := isRef hk rk
    cases ru
    have g := dget_tup hk dt
    rw [hg] at g
    obtain ⟨b', u', v', g, rv, rd⟩ := g
    exact wpAny_getItem_heap (k := q) (by show A.units + 1 + 8 < cLine; omega) (key_is hK I hk rk) dd g (hq _ _ _ (I.tok _) rd rv)
theorem not_tup_of (r : DH x π H a kvs u) (e : H a = some u) : Soft (H a) ∧ Mut (H a) := by
  cases r with
  | flat _ _ => exact ⟨⟨fun vs z => (by rw [e] at z; cases z), fun ob u z => (by rw [e] at z; cases z)⟩, (by rw [e]; exact True.intro)⟩
  | tups _ _ _ => exact ⟨⟨fun vs z => (by rw [e] at z; cases z), fun ob u z => (by rw [e] at z; cases z)⟩, (by rw [e]; exact True.intro)⟩
/-- d[k] = w -/
theorem dSetItem (hK : X.K = x.K) (hP : X.prog = x.P) (hw : X.w = x.w) (hu : A.units + 9 < cLine) {Q : Unit → Shared → Prop} {d : D} {vd : V} {ud : Value} (I : Inv X pins σ H s) (r : DH x π H a kvs u) (e : H a = some u) (f : fits kvs k = true) (rk : RV x π H k v) (ru : RelV v uv) (rd : RV x π H d vd) (rud : RelV vd ud) (hl : kvs.length < sizeLine)
    (hq : ∀ s' u', Inv X pins σ (upd H a u') s' → DH x π (upd H a u') a (dput kvs k d) u' → Q () s') : wpAny (model X.prog X.w) A (setItem (.ref a) uv ud) Q E s := by
  obtain ⟨nt, mu⟩ := not_tup_of r e
  have kp : ∀ {u' : HO}, Keep π H π (upd H a u') := Keep.upd' nt
  rcases fits_or f with ⟨q, hk⟩ | ⟨q, hk⟩
  · obtain ⟨ps, vs, dk, nd, rel, dd, hm, z⟩ := viewK hP hw I r (.inl e) f hk
    obtain rfl := kV_of hk rk
    have hlen : ps.length = kvs.length := (Paired.len dk).symm
    refine wpAny_setItem_pairs (hsz := by rw [← rel.length]; exact z) (kV_is ru) dd fun h' dd' hs => hq _ (.dK (putK ps q vd)) ?_ (.flat ((dput_flat hk rd dk nd).keep kp) (putK_nodup nd))
    have he : ∃ q, h'.get? a = some q := let ⟨q, _, _, hq, _⟩ := dd'; ⟨q, hq⟩
    exact d_write I mu hs he (dk_new (by have := length_putK ps q vd; omega) hm (rel.put q rud) dd')
  · obtain ⟨ps, dt, nd, dd, hm, z⟩ := viewT hK hP hw I r (.inl e) f hk
    obtain ⟨b, rfl⟩ := isRef hk rk
    cases ru
    have hlen : ps.length = kvs.length := (Paired.len dt).symm
    refine wpAny_setItem_heap (k := q) (hsz := z) (by show A.units + 1 + 8 < cLine; omega) (key_is hK I hk rk) dd fun h' dd' hs => hq _ (DN x a (storedH ps q b ud)) ?_ (.tups ((dput_tup hk rk rud rd dt nd).keep kp) (storedH_nodup nd) dput_ne)
    obtain ⟨o, es, ep, ho, h2, h3, h4, _, h5⟩ := dd'
    refine d_write I mu hs ⟨o, ho⟩ ⟨⟨o, es, ep, ho, h2, h3, by rw [← hP, ← hw]; exact h4, h5, hm, ?_⟩, ⟨o, ho⟩, fun h1 h2' ⟨o, es, ep, e1, e2, e3, e4, e5⟩ st => ⟨o, es, ep, st o e1, e2, e3, e4, e5⟩⟩
    have := storedH_len (ps := ps) (k := q) (b := b) (u := ud)
    omega
end

section
variable {x : Gx} {X : Cx}
theorem op_cmpD (hK : X.K = x.K) (hP : X.prog = x.P) (hw : X.w = x.w) (hu : X.A.units + 100 < cLine) (op : CmpOp) : OpR X (compareOp op) (rB x fun h => cmpD h op) := by
  intro pins s σ H v u a b Q I ra rb q
  obtain ⟨π, h, d1, d2, k, W, r1, r2, e, q⟩ := q
  replace e : cmpD h op d1 d2 = some k := e
  have fin : ∀ {t : Bool} {s' : Shared}, Inv X pins σ H s' → t = k → EP X pins σ Q (.bool t) s' := fun I' e => ⟨.bl _, H, I', rfl, by rw [e]; exact q⟩
  have eqs : ∀ {t : Bool}, cmpEq h d1 d2 = some t → ∃ p q, Dp X.K H v p ∧ Dp X.K H u q ∧ SeqAt.shaped p = true ∧ SeqAt.shaped q = true ∧ PyData.eqv p q = t := fun {t} e => by
    unfold cmpEq at e
    split at e
    · rename_i p q hp hq
      split at e
      · rename_i hs
        rw [Bool.and_eq_true] at hs
        exact ⟨p, q, by rw [hK]; exact pd_dp W _ _ _ _ hp r1, by rw [hK]; exact pd_dp W _ _ _ _ hq r2, hs.1, hs.2, Option.some.inj e⟩
      · cases e
    · cases e
  have ords : orderly d1 d2 = true → ∃ as bs, Reads s.heap a d1.toP as ∧ Reads s.heap b d2.toP bs ∧ PySem.W.alike d1.toP d2.toP = true ∧ d1.toP ≠ .none ∧ X.A.units + min d1.toP.depth d2.toP.depth < cLine := fun ho => by
    obtain ⟨h1, h2, h3, h4, h5⟩ := orderly_of ho
    obtain ⟨as, q1⟩ := Dp.reads I _ _ _ (by rw [hK]; exact data_dp d1 v h1 r1) ra
    obtain ⟨bs, q2⟩ := Dp.reads I _ _ _ (by rw [hK]; exact data_dp d2 u h2 r2) rb
    refine ⟨as, bs, q1, q2, h3, h4, ?_⟩
    have := Nat.min_le_left d1.toP.depth d2.toP.depth
    omega
  have ins : ∀ {t : Bool}, seqIn h d1 d2 = some t → (∀ s', Inv X pins σ H s' → EP X pins σ Q (.bool t) s') → wpAny (model X.prog X.w) X.A (compareOp .In a b) (EP X pins σ Q) X.xe s := fun {t} e hq => by
    unfold seqIn at e
    split at e
    · rename_i p ds hp hd
      split at e
      · rename_i hs
        rw [Bool.and_eq_true] at hs
        cases e
        obtain ⟨as, q1⟩ := Dp.reads I _ _ _ (by rw [hK]; exact pd_dp W _ _ _ _ hp r1) ra
        obtain ⟨bs, q2⟩ := Dp.reads I _ _ _ (by rw [hK]; exact pd_dp W _ _ _ _ hd r2) rb
        exact SeqAt.in_list_reads q2 q1 hs.2 (SeqAt.canLay_of_shaped hs.1) (room_in_shaped hs.1 (by omega)) (hq s I)
      · cases e
    · rename_i p ds hp hd
      split at e
      · rename_i hs
        rw [Bool.and_eq_true] at hs
        cases e
        obtain ⟨as, q1⟩ := Dp.reads I _ _ _ (by rw [hK]; exact pd_dp W _ _ _ _ hp r1) ra
        obtain ⟨bs, q2⟩ := Dp.reads I _ _ _ (by rw [hK]; exact pd_dp W _ _ _ _ hd r2) rb
        exact SeqAt.in_tuple_reads q2 q1 hs.2 (SeqAt.canLay_of_shaped hs.1) (room_in_shaped hs.1 (by omega)) (hq s I)
      · cases e
    · cases e
  have nins : ∀ {t : Bool}, seqIn h d1 d2 = some t → (∀ s', Inv X pins σ H s' → EP X pins σ Q (.bool (!t)) s') → wpAny (model X.prog X.w) X.A (compareOp .NotIn a b) (EP X pins σ Q) X.xe s := fun {t} e hq => by
    unfold seqIn at e
    split at e
    · rename_i p ds hp hd
      split at e
      · rename_i hs
        rw [Bool.and_eq_true] at hs
        cases e
        obtain ⟨as, q1⟩ := Dp.reads I _ _ _ (by rw [hK]; exact pd_dp W _ _ _ _ hp r1) ra
        obtain ⟨bs, q2⟩ := Dp.reads I _ _ _ (by rw [hK]; exact pd_dp W _ _ _ _ hd r2) rb
        exact SeqAt.notIn_list_reads q2 q1 hs.2 (SeqAt.canLay_of_shaped hs.1) (room_in_shaped hs.1 (by omega)) (hq s I)
      · cases e
    · rename_i p ds hp hd
      split at e
      · rename_i hs
        rw [Bool.and_eq_true] at hs
        cases e
        obtain ⟨as, q1⟩ := Dp.reads I _ _ _ (by rw [hK]; exact pd_dp W _ _ _ _ hp r1) ra
        obtain ⟨bs, q2⟩ := Dp.reads I _ _ _ (by rw [hK]; exact pd_dp W _ _ _ _ hd r2) rb
        exact SeqAt.notIn_tuple_reads q2 q1 hs.2 (SeqAt.canLay_of_shaped hs.1) (room_in_shaped hs.1 (by omega)) (hq s I)
      · cases e
    · cases e
  cases op with
  | Eq =>
    obtain ⟨p, q', h1, h2, h3, h4, h5⟩ := eqs (t := k) e
    exact op_eqD (by omega) pins s σ H v u a b Q I ra rb ⟨p, q', h1, h2, h3, h4, by rw [h5]; exact q⟩
  | NotEq =>
    have e' : (cmpEq h d1 d2).map (!·) = some k := e
    obtain ⟨t, e1, rfl⟩ := Option.map_eq_some_iff.mp e'
    obtain ⟨p, q', h1, h2, h3, h4, h5⟩ := eqs e1
    exact op_neD (by omega) pins s σ H v u a b Q I ra rb ⟨p, q', h1, h2, h3, h4, by rw [h5]; exact q⟩
  | Lt =>
    have e' : ltD d1 d2 = some k := e
    unfold ltD at e'
    split at e'
    · cases e'; obtain rfl := rv_int r1; obtain rfl := rv_int r2
      exact op_lt pins s σ H _ _ a b Q I ra rb ⟨_, _, rfl, rfl, q⟩
    · split at e'
      · cases e'
        obtain ⟨as, bs, h1, h2, h3, h4, h5⟩ := ords (by assumption)
        exact PySem.W.lt_data h1 h2 h3 h4 h5 (fin I rfl)
      · cases e'
  | Gt =>
    have e' : gtD d1 d2 = some k := e
    unfold gtD at e'
    split at e'
    · cases e'; obtain rfl := rv_int r1; obtain rfl := rv_int r2
      exact op_gt pins s σ H _ _ a b Q I ra rb ⟨_, _, rfl, rfl, q⟩
    · split at e'
      · cases e'
        obtain ⟨as, bs, h1, h2, h3, h4, h5⟩ := ords (by assumption)
        exact PySem.W.gt_data h1 h2 h3 h4 h5 (fin I rfl)
      · cases e'
  | LtE =>
    have e' : leD' d1 d2 = some k := e
    unfold leD' at e'
    split at e'
    · cases e'; obtain rfl := rv_int r1; obtain rfl := rv_int r2
      exact op_le pins s σ H _ _ a b Q I ra rb ⟨_, _, rfl, rfl, q⟩
    · split at e'
      · cases e'
        obtain ⟨as, bs, h1, h2, h3, h4, h5⟩ := ords (by assumption)
        exact PySem.W.le_data h1 h2 h3 h4 h5 (fin I rfl)
      · cases e'
  | GtE =>
    have e' : geD' d1 d2 = some k := e
    unfold geD' at e'
    split at e'
    · cases e'; obtain rfl := rv_int r1; obtain rfl := rv_int r2
      exact op_ge pins s σ H _ _ a b Q I ra rb ⟨_, _, rfl, rfl, q⟩
    · split at e'
      · cases e'
        obtain ⟨as, bs, h1, h2, h3, h4, h5⟩ := ords (by assumption)
        exact PySem.W.ge_data h1 h2 h3 h4 h5 (fin I rfl)
      · cases e'
  | Is =>
    cases d2 with
    | non =>
      obtain rfl := rv_non r2
      have e' : decide (d1 = .non) = k := Option.some.inj e
      refine op_isN pins s σ H _ _ a b Q I ra rb ⟨rfl, ?_⟩
      have e2 : decide (v = V.non) = k := by
        rw [← e']
        cases r1 <;> simp
      rw [e2]; exact q
    | bl b2 =>
      cases d1 with
      | bl b1 =>
        obtain rfl := rv_bl r1; obtain rfl := rv_bl r2
        have e' : decide (b1 = b2) = k := Option.some.inj e
        exact op_isBl pins s σ H _ _ a b Q I ra rb ⟨_, _, rfl, rfl, by rw [e']; exact q⟩
      | _ => cases e
    | _ => cases d1 <;> cases e
  | IsNot =>
    cases d2 with
    | non =>
      obtain rfl := rv_non r2
      have e' : (!decide (d1 = .non)) = k := Option.some.inj e
      refine op_notN pins s σ H _ _ a b Q I ra rb ⟨rfl, ?_⟩
      have e2 : (!decide (v = V.non)) = k := by
        rw [← e']
        cases r1 <;> simp
      rw [e2]; exact q
    | bl b2 =>
      cases d1 with
      | bl b1 =>
        obtain rfl := rv_bl r1; obtain rfl := rv_bl r2
        have e' : (!decide (b1 = b2)) = k := Option.some.inj e
        exact op_notBl pins s σ H _ _ a b Q I ra rb ⟨_, _, rfl, rfl, by rw [e']; exact q⟩
      | _ => cases e
    | _ => cases d1 <;> cases e
  | In =>
    have e' : cmpIn h d1 d2 = some k := e
    unfold cmpIn at e'
    split at e'
    · split at e'
      · rename_i n kvs lk he
        split at e'
        · obtain ⟨c, rfl, ec⟩ := rv_ref r2
          cases rb
          obtain ⟨uo, dh, at_⟩ := W.dct he ec
          exact dIn hK hP hw (by omega) I dh at_.rd (by assumption) r1 ra fun s' I' => fin I' (Option.some.inj e')
        · cases e'
      · exact ins e' fun s' I' => fin I' rfl
    · exact ins e' fun s' I' => fin I' rfl
  | NotIn =>
    have e' : (cmpIn h d1 d2).map (!·) = some k := e
    obtain ⟨t, e1, rfl⟩ := Option.map_eq_some_iff.mp e'
    unfold cmpIn at e1
    split at e1
    · split at e1
      · rename_i n kvs lk he
        split at e1
        · obtain ⟨c, rfl, ec⟩ := rv_ref r2
          cases rb
          obtain ⟨uo, dh, at_⟩ := W.dct he ec
          exact dNotIn hK hP hw (by omega) I dh at_.rd (by assumption) r1 ra fun s' I' => fin I' (by rw [Option.some.inj e1])
        · cases e1
      · exact nins e1 fun s' I' => fin I' rfl
    · exact nins e1 fun s' I' => fin I' rfl
end
end Rw
set_option Elab.async false
set_option linter.all false
set_option autoImplicit false
set_option maxRecDepth 100000
set_option maxHeartbeats 4000000
namespace Rw
open PySem PySem.Spec PyProof.Rows L2

/-! ## expressions -/
section
variable {x : Gx} {X : Cx} {W : L2.WX} {pos : Pos}
theorem r_var {y : Str} {i : Nat} (hN : X.N[i]? = some y) (hv : Vis X.env.scope y) (hd : (y == ("__debug__" : Str)) = false) (hcd : (y == ("__classdict__" : Str)) = false) :
    PE X (.Name y pos) (tE x W fun ρ h => R.opt h (atS ρ i)) := by
  refine PE.imp (pe_var (i := i) hN hv hd hcd) fun σ H Q ⟨π, ρ, h, b, p⟩ => ?_
  obtain ⟨d, e, p⟩ := p.opt1
  obtain ⟨v, e1, r⟩ := b.st.at e
  exact ⟨v, e1, p.ok b.wd r⟩
theorem r_con {e : Expr} {v : V} {d : D} (h : PE X e (tC v)) (r : ∀ π H, RV x π H d v) : PE X e (tE x W fun _ h => .ok d h) :=
  PE.imp h fun σ H Q ⟨π, ρ, h, b, p⟩ => p.ok b.wd (r π H)
theorem r_bin {op : Operator} {a b : Expr} {ma mb : St → AH → R D} (hK : X.K = x.K) (ha : PE X a (tE x W ma)) (hb : PE X b (tE x W mb)) :
    PE X (.BinOp a op b pos) (tE x W fun ρ h => (ma ρ h).bind fun u h => (mb ρ h).bind fun v h => R.opt h (binD op u v)) :=
  r_op2 (f := fun _ => binD op) (fun h1 h2 => pe_op (op_binD hK op) h1 h2) ha hb
theorem r_neg {a : Expr} {ma : St → AH → R D} (ha : PE X a (tE x W ma)) : PE X (.UnaryOp .USub a pos) (tE x W fun ρ h => (ma ρ h).bind fun u h => match u with | .int i => .ok (.int (-i)) h | _ => .bad) := by
  refine PE.imp (pe_un un_neg ha) fun σ H Q ⟨π, ρ, h, b, p⟩ => tF.fst b p fun π1 H1 h1 d1 v1 b1 r1 k1 p1 => ?_
  cases d1 with
  | int i => obtain rfl := rv_int r1; exact ⟨i, rfl, p1.ok b1.wd (.int _)⟩
  | _ => exact p1.elim
theorem r_not {a : Expr} {ma : St → AH → R D} (ha : PE X a (tE x W ma)) : PE X (.UnaryOp .Not a pos) (tE x W fun ρ h => (ma ρ h).bind fun u h => match u with | .bl i => .ok (.bl (!i)) h | _ => .bad) := by
  refine PE.imp (pe_not ha) fun σ H Q ⟨π, ρ, h, b, p⟩ => tF.fst b p fun π1 H1 h1 d1 v1 b1 r1 k1 p1 => ?_
  cases d1 with
  | bl i => obtain rfl := rv_bl r1; exact ⟨i, rfl, p1.ok b1.wd (.bl _)⟩
  | _ => exact p1.elim
def mAnd (ma mb : St → AH → R D) : St → AH → R D := fun ρ h => (ma ρ h).bind fun u h => match u with | .bl true => mb ρ h | .bl false => .ok (.bl false) h | _ => .bad
def mOr (ma mb : St → AH → R D) : St → AH → R D := fun ρ h => (ma ρ h).bind fun u h => match u with | .bl true => .ok (.bl true) h | .bl false => mb ρ h | _ => .bad
def mIte (mc ma mb : St → AH → R D) : St → AH → R D := fun ρ h => (mc ρ h).bind fun u h => match u with | .bl true => ma ρ h | .bl false => mb ρ h | _ => .bad
theorem r_and {a b : Expr} {rest : List Expr} {ma mb : St → AH → R D} (ha : PE X a (tE x W ma)) (hb : PE X (.BoolOp .And (b :: rest) pos) (tE x W mb)) :
    PE X (.BoolOp .And (a :: b :: rest) pos) (tE x W (mAnd ma mb)) := by
  refine PE.imp (pe_and ha hb) fun σ H Q ⟨π, ρ, h, b, p⟩ => tF.fst b p fun π1 H1 h1 d1 v1 b1 r1 k1 p1 => ?_
  cases d1 with
  | bl i =>
    obtain rfl := rv_bl r1
    refine ⟨i, rfl, ?_⟩
    cases i with
    | true => exact ⟨π1, ρ, h1, b1, p1⟩
    | false => exact p1.ok b1.wd (.bl _)
  | _ => exact p1.elim
theorem r_or {a b : Expr} {rest : List Expr} {ma mb : St → AH → R D} (ha : PE X a (tE x W ma)) (hb : PE X (.BoolOp .Or (b :: rest) pos) (tE x W mb)) :
    PE X (.BoolOp .Or (a :: b :: rest) pos) (tE x W (mOr ma mb)) := by
  refine PE.imp (pe_or ha hb) fun σ H Q ⟨π, ρ, h, b, p⟩ => tF.fst b p fun π1 H1 h1 d1 v1 b1 r1 k1 p1 => ?_
  cases d1 with
  | bl i =>
    obtain rfl := rv_bl r1
    refine ⟨i, rfl, ?_⟩
    cases i with
    | false => exact ⟨π1, ρ, h1, b1, p1⟩
    | true => exact p1.ok b1.wd (.bl _)
  | _ => exact p1.elim
theorem r_ite {c a b : Expr} {mc ma mb : St → AH → R D} (hc : PT X c (tT x W mc)) (ha : PE X a (tE x W ma)) (hb : PE X b (tE x W mb)) : PE X (.IfExp c a b pos) (tE x W (mIte mc ma mb)) := by
  refine PE.imp (pe_ifExp hc ha hb) fun σ H Q ⟨π, ρ, h, b, p⟩ => tF.fst b p fun π1 H1 h1 d1 v1 b1 r1 k1 p1 => ?_
  cases d1 with
  | bl i =>
    obtain rfl := rv_bl r1
    refine ⟨i, rfl, ?_⟩
    cases i with
    | true => exact ⟨π1, ρ, h1, b1, p1⟩
    | false => exact ⟨π1, ρ, h1, b1, p1⟩
  | _ => exact p1.elim
/-! ### tests -/
theorem t_val {e : Expr} {m : St → AH → R D} (h : PE X e (tE x W m)) (he : ∀ whole, isTrue e X.env whole = (do let v ← whole; standAt e.pos; holding [v] (truthy v))) : PT X e (tT x W m) :=
  PT.imp (pt_val h he) fun σ H Q q => q
theorem t_not {a : Expr} {ma : St → AH → R D} (ha : PT X a (tT x W ma)) : PT X (.UnaryOp .Not a pos) (tT x W fun ρ h => (ma ρ h).bind fun u h => match u with | .bl i => .ok (.bl (!i)) h | _ => .bad) := by
  refine PT.imp (pt_not ha) fun σ H Q ⟨π, ρ, h, b, p⟩ => ?_
  refine tF.fst b p fun π1 H1 h1 d1 v1 b1 r1 k1 p1 => ?_
  cases d1 with
  | bl i =>
    obtain rfl := rv_bl r1
    obtain ⟨c, e, q⟩ := p1.ok b1.wd (.bl (!i))
    cases e
    exact ⟨i, rfl, q⟩
  | _ => exact p1.elim
theorem w_and1 {a : Expr} {ma : St → AH → R D} (ha : PT X a (tT x W ma)) : PW X (.BoolOp .And [a] pos) (tT x W ma) := pw_and1 ha
theorem w_or1 {a : Expr} {ma : St → AH → R D} (ha : PT X a (tT x W ma)) : PW X (.BoolOp .Or [a] pos) (tT x W ma) := pw_or1 ha
theorem w_and {a b : Expr} {rest : List Expr} {ma mb : St → AH → R D} (ha : PT X a (tT x W ma)) (hb : PW X (.BoolOp .And (b :: rest) pos) (tT x W mb)) : PW X (.BoolOp .And (a :: b :: rest) pos) (tT x W (mAnd ma mb)) := by
  refine ⟨fun wh pins s σ H Q I q => (pw_and ha hb).run wh pins s σ H Q I ?_⟩
  obtain ⟨π, ρ, h, b, p⟩ := q
  refine tF.fst b p fun π1 H1 h1 d1 v1 b1 r1 k1 p1 => ?_
  cases d1 with
  | bl i =>
    obtain rfl := rv_bl r1
    refine ⟨i, rfl, ?_⟩
    cases i with
    | true => exact ⟨π1, ρ, h1, b1, p1⟩
    | false =>
      obtain ⟨c, e, q⟩ := p1.ok b1.wd (.bl false)
      cases e
      exact q
  | _ => exact p1.elim
theorem w_or {a b : Expr} {rest : List Expr} {ma mb : St → AH → R D} (ha : PT X a (tT x W ma)) (hb : PW X (.BoolOp .Or (b :: rest) pos) (tT x W mb)) : PW X (.BoolOp .Or (a :: b :: rest) pos) (tT x W (mOr ma mb)) := by
  refine ⟨fun wh pins s σ H Q I q => (pw_or ha hb).run wh pins s σ H Q I ?_⟩
  obtain ⟨π, ρ, h, b, p⟩ := q
  refine tF.fst b p fun π1 H1 h1 d1 v1 b1 r1 k1 p1 => ?_
  cases d1 with
  | bl i =>
    obtain rfl := rv_bl r1
    refine ⟨i, rfl, ?_⟩
    cases i with
    | false => exact ⟨π1, ρ, h1, b1, p1⟩
    | true =>
      obtain ⟨c, e, q⟩ := p1.ok b1.wd (.bl true)
      cases e
      exact q
  | _ => exact p1.elim
theorem t_ite {c a b : Expr} {mc ma mb : St → AH → R D} (hc : PT X c (tT x W mc)) (ha : PT X a (tT x W ma)) (hb : PT X b (tT x W mb)) : PT X (.IfExp c a b pos) (tT x W (mIte mc ma mb)) := by
  refine ⟨fun pins s σ H Q I q => ?_⟩
  obtain ⟨π, ρ, h, b0, p⟩ := q
  show wpAny _ _ (do if ← isTrue c X.env (eval c X.env) then isTrue a X.env (eval a X.env) else isTrue b X.env (eval b X.env)) _ _ _
  refine wpAny_bind (thn (hc.run pins s σ H _ I (tF.fst b0 p fun π1 H1 h1 d1 v1 b1 r1 k1 p1 => (?_ : ∃ t, v1 = .bl t ∧ (if t = true then tT x W ma σ H1 Q else tT x W mb σ H1 Q)))) fun t s1 ⟨H1, I1, q1⟩ => ?_)
  · cases d1 with
    | bl i =>
      obtain rfl := rv_bl r1
      refine ⟨i, rfl, ?_⟩
      cases i with
      | true => exact ⟨π1, ρ, h1, b1, p1⟩
      | false => exact ⟨π1, ρ, h1, b1, p1⟩
    | _ => exact p1.elim
  · cases t with
    | true => exact ha.run pins s1 σ H1 Q I1 q1
    | false => exact hb.run pins s1 σ H1 Q I1 q1
/-! ### comparisons -/
def mCmp (op : CmpOp) (ma mb : St → AH → R D) : St → AH → R D := fun ρ h => (ma ρ h).bind fun u h => (mb ρ h).bind fun v h => (R.opt h (cmpD h op u v)).bind fun b h => .ok (.bl b) h
theorem rB_of {f : AH → D → D → Option Bool} {ma mb : St → AH → R D} {σ : L2.St} {H : Hp} {Q : VK} (q : tE x W (fun ρ h => (ma ρ h).bind fun u h => (mb ρ h).bind fun v h => (R.opt h (f h u v)).bind fun b h => .ok (.bl b) h) σ H Q) :
    tOp (rB x f) (tE x W ma) (tE x W mb) σ H Q := by
  obtain ⟨π, ρ, h, b, p⟩ := q
  refine tF.fst b p fun π1 H1 h1 d1 v1 b1 r1 k1 p1 => tF.fst b1 p1 fun π2 H2 h2 d2 v2 b2 r2 k2 p2 => ?_
  obtain ⟨k, e, p3⟩ := p2.opt
  exact ⟨π2, h2, d1, d2, k, b2.wd, r1.keep k2, r2, e, p3.ok b2.wd (.bl k)⟩
variable (hK : X.K = x.K) (hP : X.prog = x.P) (hw : X.w = x.w) (hu : X.A.units + 100 < cLine)
include hK hP hw hu
theorem r_cmp {op : CmpOp} {a b : Expr} {ma mb : St → AH → R D} (ha : PE X a (tE x W ma)) (hb : PE X b (tE x W mb)) (hm : behindInMarks op b = false) : PE X (.Compare a [op] [b] pos) (tE x W (mCmp op ma mb)) :=
  PE.imp (pe_cmpR (op_cmpD hK hP hw hu op) ha hb hm) fun σ H Q q => rB_of q
theorem t_cmp {op : CmpOp} {a b : Expr} {ma mb : St → AH → R D} (ha : PE X a (tE x W ma)) (hb : PE X b (tE x W mb)) (hm : behindInMarks op b = false) : PT X (.Compare a [op] [b] pos) (tT x W (mCmp op ma mb)) :=
  PT.imp (pt_cmpR (op_cmpD hK hP hw hu op) ha hb hm) fun σ H Q q => rB_of q
def mChn (op op' : CmpOp) (ma mb mc : St → AH → R D) : St → AH → R D := fun ρ h => (ma ρ h).bind fun u h => (mb ρ h).bind fun v h => (R.opt h (cmpD h op u v)).bind fun r h =>
  if r then (mc ρ h).bind fun z h => (R.opt h (cmpD h op' v z)).bind fun b h => .ok (.bl b) h else .ok (.bl false) h
omit hK hP hw hu in
theorem chn_of {op op' : CmpOp} {ma mb mc : St → AH → R D} {σ : L2.St} {H : Hp} {Q : VK} (q : tE x W (mChn op op' ma mb mc) σ H Q) :
    tChain (rB x fun h => cmpD h op) (rB x fun h => cmpD h op') (tE x W ma) (tE x W mb) (tE x W mc) σ H Q := by
  obtain ⟨π, ρ, h, b, p⟩ := q
  refine tF.fst b p fun π1 H1 h1 d1 v1 b1 r1 k1 p1 => tF.fst b1 p1 fun π2 H2 h2 d2 v2 b2 r2 k2 p2 => ?_
  obtain ⟨k, e, p3⟩ := p2.opt
  refine ⟨π2, h2, d1, d2, k, b2.wd, r1.keep k2, r2, e, k, rfl, ?_⟩
  cases k with
  | true =>
    refine tF.fst b2 p3 fun π3 H3 h3 d3 v3 b3 r3 k3 p4 => ?_
    obtain ⟨k', e', p5⟩ := p4.opt
    exact ⟨π3, h3, d2, d3, k', b3.wd, r2.keep k3, r3, e', p5.ok b3.wd (.bl k')⟩
  | false => exact p3.ok b2.wd (.bl false)
theorem r_chn {op op' : CmpOp} {a b c : Expr} {ma mb mc : St → AH → R D} (ha : PE X a (tE x W ma)) (hb : PE X b (tE x W mb)) (hc : PE X c (tE x W mc)) (h1 : behindInMarks op b = false) (h2 : behindInMarks op' c = false) :
    PE X (.Compare a [op, op'] [b, c] pos) (tE x W (mChn op op' ma mb mc)) := PE.imp (pe_chain (op_cmpD hK hP hw hu op) (op_cmpD hK hP hw hu op') ha hb hc h2) fun σ H Q q => chn_of q
theorem t_chn {op op' : CmpOp} {a b c : Expr} {ma mb mc : St → AH → R D} (ha : PE X a (tE x W ma)) (hb : PE X b (tE x W mb)) (hc : PE X c (tE x W mc)) (h1 : behindInMarks op b = false) (h2 : behindInMarks op' c = false) :
    PT X (.Compare a [op, op'] [b, c] pos) (tT x W (mChn op op' ma mb mc)) := PT.imp (pt_chain (op_cmpD hK hP hw hu op) (op_cmpD hK hP hw hu op') ha hb hc h2) fun σ H Q q => chn_of q
end
end Rw
set_option Elab.async false
set_option linter.all false
set_option autoImplicit false
set_option maxRecDepth 100000
set_option maxHeartbeats 4000000
namespace Rw
open PySem PySem.Spec PyProof.Rows L2

/-! ## argument lists, displays -/
/-- a list or a tuple: its items -/
def FQ (x : Gx) (π : Nm) (H : Hp) (ds : List D) (v : V) : Prop := ∃ a vs, v = .ref a ∧ (SqL x.K H a vs ∨ TupAt x.K H a vs) ∧ RVs x π H ds vs
abbrev tQ (x : Gx) (W : L2.WX) (m : St → AH → R (List D)) : TE := tF x (FQ x) W m
section
variable {x : Gx} {X : Cx} {W : L2.WX} {pos : Pos}
theorem FL.q {π : Nm} {H : Hp} {ds : List D} {v : V} (f : FL x π H ds v) : FQ x π H ds v := by
  obtain ⟨a, vs, e, _, h, r⟩ := f
  exact ⟨a, vs, e, .inl (.of h), r⟩
theorem seq_q {π : Nm} {H : Hp} {h : AH} {d : D} {ds : List D} {v : V} (Wd' : Wd x π h H) (r : RV x π H d v) (e : seqD .q h d = some ds) : FQ x π H ds v := by
  unfold seqD at e
  split at e
  · simp only [reduceCtorEq, if_false, Option.some.injEq] at e
    subst e
    obtain ⟨a, vs, rfl, t, l⟩ := rv_tup r
    exact ⟨a, vs, rfl, .inr t, l⟩
  · obtain ⟨a, rfl, ea⟩ := rv_ref r
    split at e
    · rename_i xs lk eh
      simp only [reduceCtorEq, false_and, if_false, Option.some.injEq] at e
      subst e
      obtain ⟨vs, l, q⟩ := Wd'.lst eh ea
      exact ⟨a, vs, rfl, .inl (.inl q.rd), l⟩
    · simp at e
    · cases e
  · cases e
theorem q_e {e : Expr} {m : St → AH → R D} (h : PE X e (tE x W m)) : PE X e (tQ x W fun ρ h => (m ρ h).bind fun d h => R.opt h (seqD .q h d)) := by
  refine PE.imp h fun σ H Q ⟨π, ρ, h, b, p⟩ => tF.fst b p fun π1 H1 h1 d1 v1 b1 r1 k1 p1 => ?_
  obtain ⟨ds, e, p2⟩ := p1.opt1
  exact p2.ok b1.wd (seq_q b1.wd r1 e)
theorem PostF.of {α : Type} {F F' : Nm → Hp → α → V → Prop} {π : Nm} {H : Hp} {r : R α} {σ : L2.St} {Q : VK} (p : PostF x F' W π H r σ Q) (hf : ∀ π H d v, F π H d v → F' π H d v) : PostF x F W π H r σ Q := by
  cases r with
  | ok d h' => exact fun π' H' v k w q => p π' H' v k w (hf _ _ _ _ q)
  | ex c d h' => exact p
  | bad => exact p
theorem q_l {e : Expr} {m : St → AH → R (List D)} (h : PE X e (tL x W m)) : PE X e (tQ x W m) :=
  PE.imp h fun σ H Q ⟨π, ρ, h, b, p⟩ => ⟨π, ρ, h, b, PostF.of p fun π H d v f => f.q⟩
theorem a_nil : PA X [] (tAs x W fun _ h => .ok [] h) := PA.imp pa_nil fun σ H Q ⟨π, ρ, h, b, p⟩ => p π H [] Keep.refl b.wd .nil
theorem a_cons {e : Expr} {es : List Expr} {m : St → AH → R D} {ms : St → AH → R (List D)} (h : PE X e (tE x W m)) (hs : PA X es (tAs x W ms)) (he : starEach (e :: es) X.env = (false, eval e X.env) :: starEach es X.env) :
    PA X (e :: es) (tAs x W fun ρ h => (m ρ h).bind fun u h => (ms ρ h).bind fun us h => .ok (u :: us) h) := by
  refine PA.imp (pa_cons h hs he) fun σ H Q ⟨π, ρ, h, b, p⟩ => ?_
  refine ⟨π, ρ, h, b, PostF.fstA p fun π1 H1 h1 d1 v1 k1 w1 r1 p1 => ?_⟩
  refine ⟨π1, ρ, h1, b.keep k1 w1, PostA.fstA p1 fun π2 H2 h2 ds vs k2 w2 r2 p2 => ?_⟩
  exact p2 π2 H2 (v1 :: vs) Keep.refl w2 (.cons (r1.keep k2) r2)
/-- *e among arguments -/
theorem pa_star {e : Expr} {es : List Expr} {te : TE} {t : TA} {p : Pos} (hh : X.calm = true) (he : PE X e te) (hr : PA X es t) : PA X (.Starred e p :: es) (fun σ H Q => te σ H fun v H1 => ∃ a vs, v = .ref a ∧ (SqL X.K H1 a vs ∨ SqT X.K H1 a vs) ∧ t σ H1 fun ws H2 => Q (vs ++ ws) H2) := by
  refine ⟨fun pos pins s σ H Q I h => ?_⟩
  refine PySem.W.items_star (thn (he.run pins s σ H _ I h) fun u s1 ⟨v, H1, I1, r1, a, vs, e1, sq, q1⟩ => ?_)
  subst e1
  cases r1
  have fin : ∀ {h' : Heap} {its : List Value}, (∀ b o, s1.heap.get? b = some o → h'.get? b = some o) → Vals vs its → wpAny (model X.prog X.w) X.A (spliced (backTo pos (starEach es X.env))) (fun us s3 => AP X pins σ Q (its ++ us) s3) X.xe { s1 with heap := h' } := fun {h' its} k rv => by
    have I2 : Inv X pins σ H1 { s1 with heap := h' } := I1.kept (t' := s1.toks) k
    exact thn (hr.run pos pins _ σ H1 _ I2 q1) fun us s3 ⟨ws, H3, I3, r3, q3⟩ => ⟨_, H3, I3, rv.append r3, q3⟩
  rcases sq with sq | sq
  · obtain ⟨its, rv, ⟨o, n, ho, hc, hd, hs⟩, hz⟩ := I1.list sq
    have hT : s1.TypeIs (.ref a) "list" := ⟨o, ho, hc⟩
    unfold PySem.W.StarOf notIterableAtAll
    refine wpAny_bind (wpAny_specialOf hT PySem.F.slot_list_iter.lookup (wpAny_pure ⟨rfl, ?_⟩))
    refine wpAny_collect_seq a (.inl rfl) ho hc hs (fun h' hk => fin hk (by simpa using rv)) ?_
    have := rv.length
    simp; omega
  · obtain ⟨its, rv, ⟨o, ho, hc, n, hs⟩, hz⟩ := I1.tuple sq
    have hT : s1.TypeIs (.ref a) "tuple" := ⟨o, ho, hc⟩
    unfold PySem.W.StarOf notIterableAtAll
    refine wpAny_bind (wpAny_specialOf hT PySem.F.slot_tuple_iter.lookup (wpAny_pure ⟨rfl, ?_⟩))
    refine wpAny_collect_seq a (.inr rfl) ho hc hs (fun h' hk => fin hk (by simpa using rv)) ?_
    have := rv.length
    simp; omega
theorem a_star {e : Expr} {es : List Expr} {m : St → AH → R (List D)} {ms : St → AH → R (List D)} {p : Pos} (hK : X.K = x.K) (hh : X.calm = true) (h : PE X e (tQ x W m)) (hs : PA X es (tAs x W ms)) :
    PA X (.Starred e p :: es) (tAs x W fun ρ h => (m ρ h).bind fun u h => (ms ρ h).bind fun us h => .ok (u ++ us) h) := by
  refine PA.imp (pa_star hh h hs) fun σ H Q ⟨π, ρ, h, b, p⟩ => ?_
  refine ⟨π, ρ, h, b, PostF.fstA p fun π1 H1 h1 d1 v1 k1 w1 r1 p1 => ?_⟩
  obtain ⟨a, vs, rfl, sq, r⟩ := r1
  refine ⟨a, vs, rfl, by rw [hK]; exact sq.imp id TupAt.sq, π1, ρ, h1, b.keep k1 w1, PostA.fstA p1 fun π2 H2 h2 ds ws k2 w2 r2 p2 => ?_⟩
  exact p2 π2 H2 (vs ++ ws) Keep.refl w2 ((r.keep k2).append r2)
theorem r_tup {es : List Expr} {x1} {ms : St → AH → R (List D)} (h : PA X es (tAs x W ms)) : PE X (.Tuple es x1 pos) (tE x W fun ρ h => (ms ρ h).bind fun us h => if us.length ≤ sizeLine then .ok (.tup us) h else .bad) := by
  refine PE.imp (pe_tup h) fun σ H Q ⟨π, ρ, h, b, p⟩ => tAs.fst b p fun π1 H1 h1 ds vs b1 r1 k1 p1 => ?_
  split at p1
  · rename_i hz
    refine ⟨by rw [← r1.length]; exact hz, fun q nq => ?_⟩
    exact p1.ok' (Keep.upd nq) (b1.wd.upd nq) (.tup (.inl upd_same) (r1.keep (Keep.upd nq)))
  · exact p1.elim
theorem l_disp {es : List Expr} {ms : St → AH → R (List D)} (h : PA X es (tAs x W ms)) : PE X (.List es pos) (tL x W fun ρ h => (ms ρ h).bind fun us h => if us.length ≤ sizeLine then .ok us h else .bad) := by
  refine PE.imp (pe_lst h) fun σ H Q ⟨π, ρ, h, b, p⟩ => tAs.fst b p fun π1 H1 h1 ds vs b1 r1 k1 p1 => ?_
  split at p1
  · rename_i hz
    refine ⟨by rw [← r1.length]; exact hz, fun q nq => ?_⟩
    exact p1.ok' (Keep.upd nq) (b1.wd.upd nq) ⟨q, vs, rfl, b1.wd.notin nq, upd_same, r1.keep (Keep.upd nq)⟩
  · exact p1.elim
/-- a new list is named -/
theorem imp_new {m : St → AH → R (List D)} : ∀ σ H Q, tE x W (fun ρ h => (m ρ h).bind fun us h => .ok (.ref h.length) (h ++ [.lst us false])) σ H Q → tL x W m σ H Q := by
  refine fun σ H Q ⟨π, ρ, h, b, p⟩ => tF.fst b p fun π1 H1 h1 ds v b1 r1 k1 p1 => ?_
  obtain ⟨a, vs, rfl, na, e, r⟩ := r1
  obtain ⟨w2, k2⟩ := b1.wd.named (o := .lst ds false) na (.lst (r.keep Keep.push) e)
  exact p1.ok' k2 w2 (.ref (b1.wd.pushed))
theorem r_new {e : Expr} {m : St → AH → R (List D)} (h : PE X e (tL x W m)) : PE X e (tE x W fun ρ h => (m ρ h).bind fun us h => .ok (.ref h.length) (h ++ [.lst us false])) := PE.imp h imp_new
/-! ### subscripts -/
theorem atI_rv {π : Nm} {H : Hp} {ds : List D} {vs : List V} {i : Int} {d : D} (r : RVs x π H ds vs) (e : atI ds i = some d) : ∃ v, atI vs i = some v ∧ RV x π H d v := by
  unfold atI at e ⊢
  rw [r.length] at e
  cases hj : ixN vs.length i with
  | none => rw [hj] at e; cases e
  | some j =>
    rw [hj] at e
    have e' : ds[j]? = some d := e
    obtain ⟨v, e2, rv⟩ := r.get e'
    exact ⟨v, e2, rv⟩
theorem dType {pins : List (Addr × Obj)} {σ : L2.St} {π : Nm} {H : Hp} {s : Shared} {a : Addr} {kvs : List (D × D)} {u : HO} (I : Inv X pins σ H s) (r : DH x π H a kvs u) (e : Rd H a u) : s.TypeIs (.ref a) "dict" := by
  cases r with
  | flat r n =>
    obtain ⟨_, _, vs, _, dd⟩ := dk_rd I.hok e
    exact dd.typeIs
  | tups r n _ =>
    obtain ⟨⟨o, es, ep, ho, hc, _⟩, _, _⟩ := e.ok I.hok
    exact ⟨o, ho, hc.1⟩
theorem ix_D (hK : X.K = x.K) (hP : X.prog = x.P) (hw : X.w = x.w) (hu : X.A.units + 100 < cLine) : IxR X (rD x ixD) := by
  intro value slice pins s σ H v u a b Q I ra rb q hs
  obtain ⟨π, h, d1, d2, d, Wd', r1, r2, e, q⟩ := q
  have fin : ∀ {w : V}, RV x π H d w → Q w H := fun r => q π H _ Keep.refl Wd' r
  replace e : ixD h d1 d2 = some d := e
  unfold ixD at e
  split at e
  · obtain ⟨c, vs, rfl, t, l⟩ := rv_tup r1
    obtain rfl := rv_int r2
    obtain ⟨w, e1, r⟩ := atI_rv l e
    refine ix_tup value slice pins s σ H _ _ a b Q I ra rb ⟨c, vs, _, w, rfl, rfl, by rw [hK]; exact t.sq, e1, fin r⟩ hs
  · obtain rfl := rv_str r1
    obtain rfl := rv_int r2
    split at e
    · rename_i hz
      obtain ⟨c, e1, rfl⟩ := Option.map_eq_some_iff.mp e
      refine ix_str value slice pins s σ H _ _ a b Q I ra rb ⟨_, _, c, rfl, rfl, hz, e1, fin (.str _)⟩ hs
    · cases e
  · obtain ⟨c, rfl, ec⟩ := rv_ref r1
    split at e
    · rename_i xs lk eh
      split at e
      · obtain rfl := rv_int r2
        obtain ⟨vs, l, at_⟩ := Wd'.lst eh ec
        obtain ⟨w, e1, r⟩ := atI_rv l e
        refine ix_list value slice pins s σ H _ _ a b Q I ra rb ⟨c, vs, _, w, rfl, rfl, .inl at_.rd, e1, fin r⟩ hs
      · cases e
    · rename_i kvs lk eh
      split at e
      · rename_i hf
        cases ra
        obtain ⟨uo, dh, at_⟩ := Wd'.dct eh ec
        exact tail_any (dType I dh at_.rd) PySem.F.slot_dict_getitem.lookup (dGetItem hK hP hw (by omega) I dh at_.rd hf r2 rb e fun s' v' u' I' rd ru => ⟨v', H, I', ru, fin rd⟩) hs
      · cases e
    · cases e
  · cases e
end
end Rw
set_option Elab.async false
set_option linter.all false
set_option autoImplicit false
set_option maxRecDepth 100000
set_option maxHeartbeats 4000000
namespace Rw
open PySem PySem.Spec PyProof.Rows L2

/-! ## subscripts, slices, built-ins -/
/-- no star in front -/
def plainE : Expr → Bool
  | .Starred _ _ => false
  | _ => true
theorem star_of {e : Expr} {es : List Expr} {env : Env} (h : plainE e = true) : starEach (e :: es) env = (false, eval e env) :: starEach es env := by
  cases e <;> first | rfl | cases h
theorem no_star {es : List Expr} {env : Env} {pos : Pos} (h : es.all plainE = true) : (backTo pos (starEach es env)).any (·.1) = false := by
  induction es with
  | nil => rfl
  | cons e es ih =>
    simp only [List.all_cons, Bool.and_eq_true] at h
    rw [star_of h.1]
    have := ih h.2
    unfold backTo at this ⊢
    rw [List.map_cons, List.any_cons, this]
    rfl
/-- no slice -/
def plainI : Expr → Bool
  | .Slice _ _ _ _ => false
  | _ => true
theorem plainIx_of {b : Expr} (h : plainI b = true) : PlainIx b := fun o i => by
  cases b <;> first | rfl | cases h
section
variable {x : Gx} {X : Cx} {W : L2.WX} {pos : Pos}
theorem r_ix {a b : Expr} {ma mb : St → AH → R D} (hK : X.K = x.K) (hP : X.prog = x.P) (hw : X.w = x.w) (hu : X.A.units + 100 < cLine) (hb : plainI b = true) (ha : PE X a (tE x W ma)) (hb' : PE X b (tE x W mb)) :
    PE X (.Subscript a b pos) (tE x W fun ρ h => (ma ρ h).bind fun u h => (mb ρ h).bind fun v h => R.opt h (ixD h u v)) :=
  r_op2 (f := ixD) (fun h1 h2 => pe_ix (ix_D hK hP hw hu) h1 h2 (plainIx_of hb)) ha hb'
/-- a bound of a slice, or none -/
def FP (_ : Nm) (_ : Hp) (o : Option Int) (v : V) : Prop := (v = .non ∧ o = none) ∨ ∃ i, v = .int i ∧ o = some i
def tP (x : Gx) (W : L2.WX) (m : St → AH → R (Option Int)) : TO := fun σ H Q => tF x FP W m σ H fun v H1 => ∀ o, FP ⟨[], []⟩ H1 o v → Q o H1
def mP (m : St → AH → R D) : St → AH → R (Option Int) := fun ρ h => (m ρ h).bind fun d h => R.opt h (partD d)
theorem FP.uniq {π π' : Nm} {H H' : Hp} {v : V} {o o' : Option Int} (a : FP π H o v) (b : FP π' H' o' v) : o = o' := by
  rcases a with ⟨e, rfl⟩ | ⟨i, e, rfl⟩ <;> rcases b with ⟨e2, rfl⟩ | ⟨j, e2, rfl⟩
  · rfl
  · rw [e] at e2; cases e2
  · rw [e] at e2; cases e2
  · rw [e] at e2; cases e2; rfl
theorem part_v {π π' : Nm} {H H' : Hp} {d : D} {v : V} {o : Option Int} (r : RV x π H d v) (e : partD d = some o) : FP π' H' o v := by
  unfold partD at e
  split at e
  · cases e
    exact .inl ⟨rv_non r, rfl⟩
  · cases e
    exact .inr ⟨_, rv_int r, rfl⟩
  · cases e
theorem p_none : PO X none (tP x W (mP fun _ h => .ok .non h)) := by
  refine ⟨fun pins s σ H Q I q => po_none.run pins s σ H Q I ?_⟩
  obtain ⟨π, ρ, h, b, p⟩ := q
  exact PostF.ok (d := none) (v := .non) p b.wd (.inl ⟨rfl, rfl⟩) none (.inl ⟨rfl, rfl⟩)
theorem p_some {e : Expr} {m : St → AH → R D} (he : PE X e (tE x W m)) : PO X (some e) (tP x W (mP m)) := by
  refine ⟨fun pins s σ H Q I hw => ?_⟩
  rw [evalPart_some]
  obtain ⟨π, ρ, h, b, p⟩ := hw
  refine thn (he.run pins s σ H (fun v H1 => ∃ o, FP ⟨[], []⟩ H1 o v ∧ Q o H1) I (tF.fst b p fun π1 H1 h1 d1 v1 b1 r1 k1 p1 => ?_)) fun u s1 ⟨y, H1, I1, r1, o, f, q⟩ => ?_
  · obtain ⟨o, e, p2⟩ := p1.opt1
    exact ⟨o, part_v r1 e, p2.ok b1.wd (part_v r1 e) o (part_v r1 e)⟩
  · rcases f with ⟨rfl, rfl⟩ | ⟨i, rfl, rfl⟩
    · cases r1
      exact ⟨none, H1, I1, .none, q⟩
    · obtain ⟨t, rfl⟩ := r1
      exact ⟨some i, H1, I1, .int i t, q⟩
theorem tP.fst {β : Type} {m : St → AH → R (Option Int)} {f : Option Int → AH → R β} {F' : Nm → Hp → β → V → Prop} {Q : VK} {π : Nm} {ρ : St} {h : AH} {σ : L2.St} {H : Hp} {Q' : Option Int → Hp → Prop} (b : Beg x π ρ h σ H) (p : PostF x F' W π H ((m ρ h).bind f) σ Q)
    (hq : ∀ (π1 : Nm) (H1 : Hp) (h1 : AH) (o : Option Int), Beg x π1 ρ h1 σ H1 → Keep π H π1 H1 → PostF x F' W π1 H1 (f o h1) σ Q → Q' o H1) : tP x W m σ H Q' :=
  tF.fst b p fun π1 H1 h1 d v b1 r k p1 o f => by
    cases FP.uniq r f
    exact hq π1 H1 h1 _ b1 k p1
def mSlc (ma : St → AH → R D) (ml mh : St → AH → R (Option Int)) : St → AH → R D := fun ρ h => (ma ρ h).bind fun x h => (ml ρ h).bind fun l h => (mh ρ h).bind fun u h => match x with
      | .tup xs => .ok (.tup (cutD xs l u)) h
      | _ => .bad
def mSlcL (ma : St → AH → R D) (ml mh : St → AH → R (Option Int)) : St → AH → R (List D) := fun ρ h => (ma ρ h).bind fun x h => (ml ρ h).bind fun l h => (mh ρ h).bind fun u h => match x with
      | .ref n => match h[n]? with
        | some (.lst xs _) => .ok (cutD xs l u) h
        | _ => .bad
      | _ => .bad
theorem cut_all {xs : List V} {lo hi : Option Int} (h : HT.sIx xs.length 0 lo = 0 ∧ HT.sIx xs.length xs.length hi = xs.length) : cutV xs lo hi = xs := by
  unfold cutV
  rw [h.1, h.2]
  simp
theorem r_slc {e : Expr} {lo hi : Option Expr} {p2 : Pos} {ma : St → AH → R D} {ml mh : St → AH → R (Option Int)} (hK : X.K = x.K) (ha : PE X e (tE x W ma)) (hl : PO X lo (tP x W ml)) (hh : PO X hi (tP x W mh)) :
    PE X (.Subscript e (.Slice lo hi none p2) pos) (tE x W (mSlc ma ml mh)) := by
  refine PE.imp (pe_slice sl_tupA ha hl hh) fun σ H Q ⟨π, ρ, h, b, p⟩ => tF.fst b p fun π1 H1 h1 d1 v1 b1 r1 k1 p1 => tP.fst b1 p1 fun π2 H2 h2 o2 b2 k2 p2 => tP.fst b2 p2 fun π3 H3 h3 o3 b3 k3 p3 => ?_
  cases d1 with
  | tup xs =>
    obtain ⟨a, vs, rfl, t, l⟩ := rv_tup (r1.keep (k2.trans k3))
    refine ⟨a, vs, rfl, by rw [hK]; exact t.sq, fun hw => ?_, fun hw q nq => ?_⟩
    · refine p3.ok b3.wd ?_
      have := l.cut o2 o3
      rw [cut_all hw] at this
      exact .tup t this
    · exact p3.ok' (Keep.upd nq) (b3.wd.upd nq) (.tup (.inl upd_same) ((l.cut o2 o3).keep (Keep.upd nq)))
  | _ => exact p3.elim
theorem l_slc {e : Expr} {lo hi : Option Expr} {p2 : Pos} {ma : St → AH → R D} {ml mh : St → AH → R (Option Int)} (hK : X.K = x.K) (ha : PE X e (tE x W ma)) (hl : PO X lo (tP x W ml)) (hh : PO X hi (tP x W mh)) :
    PE X (.Subscript e (.Slice lo hi none p2) pos) (tL x W (mSlcL ma ml mh)) := by
  refine PE.imp (pe_slice sl_list ha hl hh) fun σ H Q ⟨π, ρ, h, b, p⟩ => tF.fst b p fun π1 H1 h1 d1 v1 b1 r1 k1 p1 => tP.fst b1 p1 fun π2 H2 h2 o2 b2 k2 p2 => tP.fst b2 p2 fun π3 H3 h3 o3 b3 k3 p3 => ?_
  cases d1 with
  | ref n =>
    obtain ⟨a, rfl, ea⟩ := rv_ref (r1.keep (k2.trans k3))
    replace p3 : PostF x (FL x) W π3 H3 (match h3[n]? with
        | some (.lst xs _) => .ok (cutD xs o2 o3) h3
        | _ => .bad) σ Q := p3
    split at p3
    · rename_i xs lk eh
      obtain ⟨vs, l, at_⟩ := b3.wd.lst eh ea
      refine ⟨a, vs, rfl, .inl at_.rd, fun q nq => ?_⟩
      exact p3.ok' (Keep.upd nq) (b3.wd.upd nq) ⟨q, _, rfl, b3.wd.notin nq, upd_same, (l.cut o2 o3).keep (Keep.upd nq)⟩
    · exact p3.elim
  | _ => exact p3.elim
end
end Rw
set_option Elab.async false
set_option linter.all false
set_option autoImplicit false
set_option maxRecDepth 100000
set_option maxHeartbeats 4000000
namespace Rw
open PySem PySem.Spec PyProof.Rows L2

/-! ## built-ins by value -/
section
variable {x : Gx} {X : Cx} {W : L2.WX} {pos p : Pos}
/-- one argument, nothing told of the heap -/
theorem r_call1 {α : Type} {F : Nm → Hp → α → V → Prop} {a e : Expr} {m : St → AH → R α} {r : List V → Hp → VK → Prop} {f : AH → α → Option D} (pe : ∀ {t : TA}, PA X [a] t → PE X e (tCB r t)) (hp : plainE a = true) (ha : PE X a (tF x F W m))
    (H : ∀ (π : Nm) (H : Hp) (h : AH) (d : α) (v : V) (d' : D) (Q : VK), Wd x π h H → F π H d v → f h d = some d' → (∀ (π' : Nm) (H' : Hp) (w : V), Keep π H π' H' → Wd x π' h H' → RV x π' H' d' w → Q w H') → r [v] H Q) :
    PE X e (tE x W fun ρ h => (m ρ h).bind fun d h => R.opt h (f h d)) := by
  refine PE.imp (pe (pa_cons ha pa_nil (star_of hp))) fun σ H0 Q ⟨π, ρ, h, b, q⟩ => tF.fst b q fun π1 H1 h1 d1 v1 b1 r1 k1 p1 => ?_
  obtain ⟨d', e', p2⟩ := p1.opt1
  exact H π1 H1 h1 d1 v1 d' Q b1.wd r1 e' fun π' H' w k W' r => p2 π' H' w k W' r
/-- two -/
theorem r_call2 {a b e : Expr} {ma mb : St → AH → R D} {r : List V → Hp → VK → Prop} {f : AH → D → D → Option D} (pe : ∀ {t : TA}, PA X [a, b] t → PE X e (tCB r t)) (hp : plainE a = true) (hp2 : plainE b = true) (ha : PE X a (tE x W ma)) (hb : PE X b (tE x W mb))
    (H : ∀ (π : Nm) (H : Hp) (h : AH) (d1 d2 : D) (v1 v2 : V) (d' : D) (Q : VK), Wd x π h H → RV x π H d1 v1 → RV x π H d2 v2 → f h d1 d2 = some d' → (∀ (π' : Nm) (H' : Hp) (w : V), Keep π H π' H' → Wd x π' h H' → RV x π' H' d' w → Q w H') → r [v1, v2] H Q) :
    PE X e (tE x W fun ρ h => (ma ρ h).bind fun u h => (mb ρ h).bind fun v h => R.opt h (f h u v)) := by
  refine PE.imp (pe (pa_cons ha (pa_cons hb pa_nil (star_of hp2)) (star_of hp))) fun σ H0 Q ⟨π, ρ, h, b, q⟩ => tF.fst b q fun π1 H1 h1 d1 v1 b1 r1 k1 p1 => tF.fst b1 p1 fun π2 H2 h2 d2 v2 b2 r2 k2 p2 => ?_
  obtain ⟨d', e', p3⟩ := p2.opt1
  exact H π2 H2 h2 d1 d2 v1 v2 d' Q b2.wd (r1.keep k2) r2 e' fun π' H' w k W' r => p3 π' H' w k W' r
variable {a b : Expr} {ma mb : St → AH → R D}
theorem r_int (hg : Gl X "int") (hm : X.mg "int" = none) (hp : plainE a = true) (ha : PE X a (tE x W ma)) :
    PE X (.Call (.Name "int" p) [a] [] pos) (tE x W fun ρ h => (ma ρ h).bind fun u h => R.opt h (b1D h .int u)) :=
  r_call1 (fun t => pe_callTy call_int1 hg hm (by decide +kernel) t (by decide) (by decide) (star_of hp) rfl) hp ha fun π H h d v d' Q W' r e fin => by
    unfold b1D at e
    split at e <;> cases e
    · exact .inl ⟨_, by rw [rv_int r], fin _ _ _ Keep.refl W' (.int _)⟩
    · exact .inr ⟨_, by rw [rv_bl r], fin _ _ _ Keep.refl W' (.int _)⟩
    all_goals contradiction
theorem r_bool (hg : Gl X "bool") (hm : X.mg "bool" = none) (hp : plainE a = true) (ha : PE X a (tE x W ma)) :
    PE X (.Call (.Name "bool" p) [a] [] pos) (tE x W fun ρ h => (ma ρ h).bind fun u h => R.opt h (b1D h .bool u)) :=
  r_call1 (fun t => pe_callTy call_bool1 hg hm (by decide +kernel) t (by decide) (by decide) (star_of hp) rfl) hp ha fun π H h d v d' Q W' r e fin => by
    cases d with
    | int i => cases e; exact .inl ⟨_, by rw [rv_int r], fin _ _ _ Keep.refl W' (.bl _)⟩
    | bl i => cases e; exact .inr ⟨_, by rw [rv_bl r], fin _ _ _ Keep.refl W' (.bl _)⟩
    | _ => cases e
theorem r_abs (hg : Gl X "abs") (hm : X.mg "abs" = none) (hp : plainE a = true) (ha : PE X a (tE x W ma)) :
    PE X (.Call (.Name "abs" p) [a] [] pos) (tE x W fun ρ h => (ma ρ h).bind fun u h => R.opt h (b1D h .abs u)) :=
  r_call1 (fun t => pe_callB call_abs hg hm (by decide +kernel) t (by decide) (by decide) (star_of hp) rfl) hp ha fun π H h d v d' Q W' r e fin => by
    cases d with
    | int i => cases e; exact ⟨_, by rw [rv_int r], fin _ _ _ Keep.refl W' (.int _)⟩
    | _ => cases e
theorem r_min2 (hc : X.calm = true) (hg : Gl X "min") (hm : X.mg "min" = none) (hp : plainE a = true) (hp2 : plainE b = true) (ha : PE X a (tE x W ma)) (hb : PE X b (tE x W mb)) :
    PE X (.Call (.Name "min" p) [a, b] [] pos) (tE x W fun ρ h => (ma ρ h).bind fun u h => (mb ρ h).bind fun v h => R.opt h (b2D .min u v)) :=
  r_call2 (f := fun _ => b2D .min) (fun t => pe_callB (call_min2 hc) hg hm (by decide +kernel) t (by decide) (by decide) (star_of hp) (no_star (by simp [hp2]))) hp hp2 ha hb fun π H h d1 d2 v1 v2 d' Q W' r1 r2 e fin => by
    cases d1 <;> cases d2 <;> simp only [b2D, reduceCtorEq] at e
    cases e
    exact ⟨_, _, by rw [rv_int r1, rv_int r2], fin _ _ _ Keep.refl W' (.int _)⟩
theorem r_max2 (hc : X.calm = true) (hg : Gl X "max") (hm : X.mg "max" = none) (hp : plainE a = true) (hp2 : plainE b = true) (ha : PE X a (tE x W ma)) (hb : PE X b (tE x W mb)) :
    PE X (.Call (.Name "max" p) [a, b] [] pos) (tE x W fun ρ h => (ma ρ h).bind fun u h => (mb ρ h).bind fun v h => R.opt h (b2D .max u v)) :=
  r_call2 (f := fun _ => b2D .max) (fun t => pe_callB (call_max2 hc) hg hm (by decide +kernel) t (by decide) (by decide) (star_of hp) (no_star (by simp [hp2]))) hp hp2 ha hb fun π H h d1 d2 v1 v2 d' Q W' r1 r2 e fin => by
    cases d1 <;> cases d2 <;> simp only [b2D, reduceCtorEq] at e
    cases e
    exact ⟨_, _, by rw [rv_int r1, rv_int r2], fin _ _ _ Keep.refl W' (.int _)⟩
end
/-! ## over a list or a tuple -/
section
variable {x : Gx} {X : Cx} {W : L2.WX} {pos p : Pos}
theorem allD_rv {π : Nm} {H : Hp} : ∀ {ds : List D} {bs : List Bool} {vs : List V}, allD ds = some bs → RVs x π H ds vs → vs = bs.map V.bl
  | [], _, _, e, r => by cases r; cases e; rfl
  | .bl c :: ds, _, _, e, r => by
    simp only [allD, Option.map_eq_some_iff] at e
    obtain ⟨bs, e, rfl⟩ := e
    cases r with
    | cons r1 r2 => rw [rv_bl r1, allD_rv e r2]; rfl
  | .non :: _, _, _, e, _ => by simp [allD] at e
  | .int _ :: _, _, _, e, _ => by simp [allD] at e
  | .str _ :: _, _, _, e, _ => by simp [allD] at e
  | .tup _ :: _, _, _, e, _ => by simp [allD] at e
  | .ref _ :: _, _, _, e, _ => by simp [allD] at e
  | .fn _ :: _, _, _, e, _ => by simp [allD] at e
theorem intsD_rv {π : Nm} {H : Hp} : ∀ {ds : List D} {bs : List Int} {vs : List V}, intsD ds = some bs → RVs x π H ds vs → vs = bs.map V.int
  | [], _, _, e, r => by cases r; cases e; rfl
  | .int c :: ds, _, _, e, r => by
    simp only [intsD, Option.map_eq_some_iff] at e
    obtain ⟨bs, e, rfl⟩ := e
    cases r with
    | cons r1 r2 => rw [rv_int r1, intsD_rv e r2]; rfl
  | .non :: _, _, _, e, _ => by simp [intsD] at e
  | .bl _ :: _, _, _, e, _ => by simp [intsD] at e
  | .str _ :: _, _, _, e, _ => by simp [intsD] at e
  | .tup _ :: _, _, _, e, _ => by simp [intsD] at e
  | .ref _ :: _, _, _, e, _ => by simp [intsD] at e
  | .fn _ :: _, _, _, e, _ => by simp [intsD] at e
theorem reads_bools {h : Heap} : ∀ {bs : List Bool} {us : List Value}, Vals (bs.map V.bl) us → ReadsAll h us (bs.map PyData.bool) []
  | [], us, r => by cases r; exact .nil
  | b :: bs, us, r => by
    rw [List.map_cons] at r
    cases r with
    | cons r1 r2 =>
      cases r1
      have : ([] : List Addr) = [] ++ [] := rfl
      rw [this]
      exact .cons (.bool b) (reads_bools r2)
theorem plain_bools : ∀ bs : List Bool, PyData.plainAll (bs.map PyData.bool) = true
  | [] => rfl
  | b :: bs => by rw [List.map_cons, PyData.plainAll, plain_bools bs]; rfl
theorem any_bools (bs : List Bool) : (bs.map PyData.bool).any PyData.truthy = bs.any id := by rw [List.any_map]; rfl
theorem all_bools (bs : List Bool) : (bs.map PyData.bool).all PyData.truthy = bs.all id := by rw [List.all_map]; rfl
/-- by a list or a tuple of truths -/
def rSeqB (K : PySem.W.Frag) (f : List Bool → Bool) : List V → Hp → VK → Prop := fun vs H Q => ∃ a bs, vs = [.ref a] ∧ (SqL K H a (bs.map V.bl) ∨ SqT K H a (bs.map V.bl)) ∧ Q (.bl (f bs)) H
theorem cq_any (hc : X.calm = true) : CallR X (.builtin "any") (rSeqB X.K fun bs => bs.any id) := by
  intro pins s σ H vs us Q I r h
  obtain ⟨a, bs, rfl, hs, q⟩ := h
  rw [Vals.ref1 r]
  rcases hs with hs | hs
  · obtain ⟨its, rv, hl, _⟩ := I.list hs
    exact PySem.W.any_list_data (I.ok.hd hc) hl.isList (reads_bools rv) (plain_bools bs) (fun y hy => by obtain ⟨b, _, rfl⟩ := List.mem_map.mp hy; trivial) fun h' tk hk => ⟨.bl _, H, I.kept hk, congrArg Value.bool (any_bools bs), q⟩
  · obtain ⟨its, rv, hl, _⟩ := I.tuple hs
    exact PySem.W.any_tuple_data (I.ok.hd hc) hl (reads_bools rv) (plain_bools bs) (fun y hy => by obtain ⟨b, _, rfl⟩ := List.mem_map.mp hy; trivial) fun h' tk hk => ⟨.bl _, H, I.kept hk, congrArg Value.bool (any_bools bs), q⟩
theorem cq_all (hc : X.calm = true) : CallR X (.builtin "all") (rSeqB X.K fun bs => bs.all id) := by
  intro pins s σ H vs us Q I r h
  obtain ⟨a, bs, rfl, hs, q⟩ := h
  rw [Vals.ref1 r]
  rcases hs with hs | hs
  · obtain ⟨its, rv, hl, _⟩ := I.list hs
    exact PySem.W.all_list_data (I.ok.hd hc) hl.isList (reads_bools rv) (plain_bools bs) (fun y hy => by obtain ⟨b, _, rfl⟩ := List.mem_map.mp hy; trivial) fun h' tk hk => ⟨.bl _, H, I.kept hk, congrArg Value.bool (all_bools bs), q⟩
  · obtain ⟨its, rv, hl, _⟩ := I.tuple hs
    exact PySem.W.all_tuple_data (I.ok.hd hc) hl (reads_bools rv) (plain_bools bs) (fun y hy => by obtain ⟨b, _, rfl⟩ := List.mem_map.mp hy; trivial) fun h' tk hk => ⟨.bl _, H, I.kept hk, congrArg Value.bool (all_bools bs), q⟩
variable {a : Expr} {m : St → AH → R (List D)}
theorem r_any (hK : X.K = x.K) (hc : X.calm = true) (hg : Gl X "any") (hm : X.mg "any" = none) (hp : plainE a = true) (ha : PE X a (tQ x W m)) :
    PE X (.Call (.Name "any" p) [a] [] pos) (tE x W fun ρ h => (m ρ h).bind fun u h => R.opt h (bqD .any u)) :=
  r_call1 (f := fun _ => bqD .any) (fun t => pe_callB (cq_any hc) hg hm (by decide +kernel) t (by decide) (by decide) (star_of hp) rfl) hp ha fun π H h d v d' Q W' r e fin => by
    obtain ⟨l, vs, rfl, sq, rs⟩ := r
    simp only [bqD, Option.map_eq_some_iff] at e
    obtain ⟨bs, e, rfl⟩ := e
    obtain rfl := allD_rv e rs
    exact ⟨l, bs, rfl, by rw [hK]; exact sq.imp id TupAt.sq, fin _ _ _ Keep.refl W' (.bl _)⟩
theorem r_all (hK : X.K = x.K) (hc : X.calm = true) (hg : Gl X "all") (hm : X.mg "all" = none) (hp : plainE a = true) (ha : PE X a (tQ x W m)) :
    PE X (.Call (.Name "all" p) [a] [] pos) (tE x W fun ρ h => (m ρ h).bind fun u h => R.opt h (bqD .all u)) :=
  r_call1 (f := fun _ => bqD .all) (fun t => pe_callB (cq_all hc) hg hm (by decide +kernel) t (by decide) (by decide) (star_of hp) rfl) hp ha fun π H h d v d' Q W' r e fin => by
    obtain ⟨l, vs, rfl, sq, rs⟩ := r
    simp only [bqD, Option.map_eq_some_iff] at e
    obtain ⟨bs, e, rfl⟩ := e
    obtain rfl := allD_rv e rs
    exact ⟨l, bs, rfl, by rw [hK]; exact sq.imp id TupAt.sq, fin _ _ _ Keep.refl W' (.bl _)⟩
/-! ### sum -/
def rSumQ (K : PySem.W.Frag) : List V → Hp → VK → Prop := fun vs H Q => ∃ (a : Addr) (ns : List Int), vs = [V.ref a] ∧ (SqL K H a (ns.map V.int) ∨ SqT K H a (ns.map V.int)) ∧ Q (.int ns.sum) H
theorem cq_sum (hc : X.calm = true) : CallR X (.builtin "sum") (rSumQ X.K) := by
  intro pins s σ H vs us Q I r h
  obtain ⟨a, ns, rfl, hs, q⟩ := h
  rw [Vals.ref1 r]
  rcases hs with hs | hs
  · obtain ⟨its, rv, hl, _⟩ := I.list hs
    exact sum_raw (I.ok.hd hc) hl.isList rv.ints fun h' tk t' hk => ⟨.int _, H, I.kept hk, ⟨_, rfl⟩, q⟩
  · obtain ⟨its, rv, hl, _⟩ := I.tuple hs
    have hi := rv.ints
    obtain ⟨xs, e⟩ := hi.allInts.items
    have hn : numsOf (intItems xs).toList = ns := by rw [← e]; exact hi.numsOf
    rw [nums_intItems] at hn
    rw [e] at hl
    refine PySem.W.ktm_sumG (I.ok.hd hc) hl fun h' tk t' hk => ⟨.int ns.sum, H, I.kept hk, ⟨t', ?_⟩, q⟩
    rw [preSum_eq, List.take_of_length_le (by simp), hn]
theorem r_sum (hK : X.K = x.K) (hc : X.calm = true) (hg : Gl X "sum") (hm : X.mg "sum" = none) (hp : plainE a = true) (ha : PE X a (tQ x W m)) :
    PE X (.Call (.Name "sum" p) [a] [] pos) (tE x W fun ρ h => (m ρ h).bind fun u h => R.opt h (bqD .sum u)) :=
  r_call1 (f := fun _ => bqD .sum) (fun t => pe_callB (cq_sum hc) hg hm (by decide +kernel) t (by decide) (by decide) (star_of hp) rfl) hp ha fun π H h d v d' Q W' r e fin => by
    obtain ⟨l, vs, rfl, sq, rs⟩ := r
    simp only [bqD, Option.map_eq_some_iff] at e
    obtain ⟨bs, e, rfl⟩ := e
    obtain rfl := intsD_rv e rs
    exact ⟨l, bs, rfl, by rw [hK]; exact sq.imp id TupAt.sq, fin _ _ _ Keep.refl W' (.int _)⟩
theorem r_lenQ (hK : X.K = x.K) (hg : Gl X "len") (hm : X.mg "len" = none) (hp : plainE a = true) (ha : PE X a (tQ x W m)) :
    PE X (.Call (.Name "len" p) [a] [] pos) (tE x W fun ρ h => (m ρ h).bind fun u h => R.opt h (bqD .len u)) :=
  r_call1 (f := fun _ => bqD .len) (fun t => pe_callB call_len_seq hg hm (by decide +kernel) t (by decide) (by decide) (star_of hp) rfl) hp ha fun π H h d v d' Q W' r e fin => by
    obtain ⟨l, vs, rfl, sq, rs⟩ := r
    cases e
    exact ⟨l, vs, rfl, by rw [hK]; exact sq.imp id TupAt.sq, by rw [← rs.length]; exact fin _ _ _ Keep.refl W' (.int _)⟩
/-- tuple(e) of a list or a tuple -/
theorem r_tupleQ (hK : X.K = x.K) (hg : Gl X "tuple") (hm : X.mg "tuple" = none) (hp : plainE a = true) (ha : PE X a (tQ x W m)) :
    PE X (.Call (.Name "tuple" p) [a] [] pos) (tE x W fun ρ h => (m ρ h).bind fun u h => R.opt h (bqD .tuple u)) :=
  r_call1 (f := fun _ => bqD .tuple) (fun t => pe_callTy call_tuple_of hg hm (by decide +kernel) t (by decide) (by decide) (star_of hp) rfl) hp ha fun π H h d v d' Q W' r e fin => by
    obtain ⟨l, vs, rfl, sq, rs⟩ := r
    cases e
    refine ⟨l, vs, rfl, ?_⟩
    rw [hK]
    rcases sq with sq | sq
    · exact .inl ⟨sq, fun q nq => fin _ _ _ (Keep.upd nq) (W'.upd nq) (.tup (.inl upd_same) (rs.keep (Keep.upd nq)))⟩
    · exact .inr ⟨sq.sq, fin _ _ _ Keep.refl W' (.tup sq rs)⟩
/-- list(e) of a list or a tuple -/
theorem l_list (hK : X.K = x.K) (hg : Gl X "list") (hm : X.mg "list" = none) (hp : plainE a = true) (ha : PE X a (tQ x W m)) :
    PE X (.Call (.Name "list" p) [a] [] pos) (tL x W m) := by
  refine PE.imp (pe_callTy call_list_of hg hm (by decide +kernel) (pa_cons ha pa_nil (star_of hp)) (by decide) (by decide) (star_of hp) rfl) fun σ H0 Q ⟨π, ρ, h, b, q⟩ => ⟨π, ρ, h, b, ?_⟩
  cases e : m ρ h with
  | ok ds h1 =>
    rw [e] at q
    intro π1 H1 v k w f
    obtain ⟨l, vs, rfl, sq, rs⟩ := f
    refine ⟨l, vs, rfl, by rw [hK]; exact sq.imp id TupAt.sq, fun r nr => ?_⟩
    exact q π1 _ _ (k.trans (Keep.upd nr)) (w.upd nr) ⟨r, vs, rfl, w.notin nr, upd_same, rs.keep (Keep.upd nr)⟩
  | ex c d h1 => rw [e] at q; exact q
  | bad => rw [e] at q; exact q.elim
/-! ### a list that may be written -/
def FM (x : Gx) (π : Nm) (H : Hp) (ds : List D) (v : V) : Prop := ∃ a vs, v = .ref a ∧ H a = some (.lst vs) ∧ RVs x π H ds vs
abbrev tM (x : Gx) (W : L2.WX) (m : St → AH → R (List D)) : TE := tF x (FM x) W m
theorem FM.slack : Slack (FM x) := fun π H d v fr hf ⟨a, vs, e, h, r⟩ => ⟨a, vs, e, h, r.loose⟩
theorem FL.fm {π : Nm} {H : Hp} {ds : List D} {v : V} (f : FL x π H ds v) : FM x π H ds v := by
  obtain ⟨a, vs, e, _, h, r⟩ := f
  exact ⟨a, vs, e, h, r⟩
theorem AtLk.free {H : Hp} {a : Addr} {u : HO} (h : AtLk H a false u) : H a = some u := h
theorem seq_m {π : Nm} {H : Hp} {h : AH} {d : D} {ds : List D} {v : V} (Wd' : Wd x π h H) (r : RV x π H d v) (e : seqD .l h d = some ds) : FM x π H ds v := by
  unfold seqD at e
  split at e
  · simp at e
  · obtain ⟨a, rfl, ea⟩ := rv_ref r
    split at e
    · rename_i xs lk eh
      split at e
      · cases e
      · cases e
        rename_i nl
        have : lk = false := by cases lk <;> simp_all
        subst this
        obtain ⟨vs, l, q⟩ := Wd'.lst eh ea
        exact ⟨a, vs, rfl, q.free, l⟩
    · simp at e
    · cases e
  · cases e
theorem m_e {e : Expr} {m : St → AH → R D} (h : PE X e (tE x W m)) : PE X e (tM x W fun ρ h => (m ρ h).bind fun d h => R.opt h (seqD .l h d)) := by
  refine PE.imp h fun σ H Q ⟨π, ρ, h, b, p⟩ => tF.fst b p fun π1 H1 h1 d1 v1 b1 r1 k1 p1 => ?_
  obtain ⟨ds, e, p2⟩ := p1.opt1
  exact p2.ok b1.wd (seq_m b1.wd r1 e)
theorem m_l {e : Expr} {m : St → AH → R (List D)} (h : PE X e (tL x W m)) : PE X e (tM x W m) :=
  PE.imp h fun σ H Q ⟨π, ρ, h, b, p⟩ => ⟨π, ρ, h, b, PostF.of p fun π H d v f => FL.fm f⟩
variable {b n : Expr} {ml mb : St → AH → R (List D)} {ma mn : St → AH → R D}
def mCatL (ml mb : St → AH → R (List D)) : St → AH → R (List D) := fun ρ h => (ml ρ h).bind fun xs h => (mb ρ h).bind fun ys h => if xs.length + ys.length ≤ sizeLine then .ok (xs ++ ys) h else .bad
theorem l_catL (ha : PE X a (tL x W ml)) (hb : PE X b (tM x W mb)) : PE X (.BinOp a .Add b pos) (tL x W (mCatL ml mb)) := by
  refine PE.imp (pe_op op_cat ha hb) fun σ H Q ⟨π, ρ, h, b0, p⟩ => tF.fst b0 p fun π1 H1 h1 d1 v1 b1 r1 k1 p1 => ?_
  obtain ⟨c, vs, rfl, na, ea, ra⟩ := r1
  refine tF.hold b1 na ea p1 FM.slack fun π2 H2 h2 d2 v2 b2 n2 e2 r2 k2 p2 => ?_
  obtain ⟨c2, us, rfl, eb, rb⟩ := r2
  split at p2
  · rename_i hz
    have z1 := ra.length
    have z2 := rb.length
    refine ⟨c, c2, vs, us, rfl, rfl, e2, eb, by omega, fun q nq => ?_⟩
    exact p2.ok' (Keep.upd nq) (b2.wd.upd nq) ⟨q, _, rfl, b2.wd.notin nq, upd_same, ((ra.keep k2).append rb).keep (Keep.upd nq)⟩
  · exact p2.elim
def mCatE (ma : St → AH → R D) (mb : St → AH → R (List D)) : St → AH → R (List D) := fun ρ h => (ma ρ h).bind fun x h => (mb ρ h).bind fun ys h => match x with
      | .ref n => match h[n]? with
        | some (.lst xs false) => if xs.length + ys.length ≤ sizeLine then .ok (xs ++ ys) h else .bad
        | _ => .bad
      | _ => .bad
theorem l_catE (ha : PE X a (tE x W ma)) (hb : PE X b (tM x W mb)) : PE X (.BinOp a .Add b pos) (tL x W (mCatE ma mb)) := by
  refine PE.imp (pe_op op_cat ha hb) fun σ H Q ⟨π, ρ, h, b0, p⟩ => tF.fst b0 p fun π1 H1 h1 d1 v1 b1 r1 k1 p1 => tF.fst b1 p1 fun π2 H2 h2 d2 v2 b2 r2 k2 p2 => ?_
  obtain ⟨c2, us, rfl, eb, rb⟩ := r2
  cases d1 with
  | ref n =>
    obtain ⟨c, rfl, ec⟩ := rv_ref (r1.keep k2)
    replace p2 : PostF x (FL x) W π2 H2 (match h2[n]? with
        | some (.lst xs false) => if xs.length + d2.length ≤ sizeLine then .ok (xs ++ d2) h2 else .bad
        | _ => .bad) σ Q := p2
    split at p2
    · rename_i xs eh
      split at p2
      · rename_i hz
        obtain ⟨vs, ra, q⟩ := b2.wd.lst eh ec
        have z1 := ra.length
        have z2 := rb.length
        refine ⟨c, c2, vs, us, rfl, rfl, q.free, eb, by omega, fun q nq => ?_⟩
        exact p2.ok' (Keep.upd nq) (b2.wd.upd nq) ⟨q, _, rfl, b2.wd.notin nq, upd_same, (ra.append rb).keep (Keep.upd nq)⟩
      · exact p2.elim
    · exact p2.elim
  | _ => exact p2.elim
def mRep (ml : St → AH → R (List D)) (mn : St → AH → R D) : St → AH → R (List D) := fun ρ h => (ml ρ h).bind fun xs h => (mn ρ h).bind fun x h => match x with
      | .int k => if -(2 ^ 63) ≤ k ∧ k < 2 ^ 63 ∧ xs.length * k.toNat ≤ sizeLine then .ok (List.replicate k.toNat xs).flatten h else .bad
      | _ => .bad
theorem l_rep (ha : PE X a (tL x W ml)) (hn : PE X n (tE x W mn)) : PE X (.BinOp a .Mult n pos) (tL x W (mRep ml mn)) := by
  refine PE.imp (pe_op op_rep ha hn) fun σ H Q ⟨π, ρ, h, b0, p⟩ => tF.fst b0 p fun π1 H1 h1 d1 v1 b1 r1 k1 p1 => ?_
  obtain ⟨c, vs, rfl, na, ea, ra⟩ := r1
  refine tF.hold b1 na ea p1 RV.slack fun π2 H2 h2 d2 v2 b2 n2 e2 r2 k2 p2 => ?_
  cases d2 with
  | int k =>
    obtain rfl := rv_int r2
    replace p2 : PostF x (FL x) W π2 H2 (if -(2 ^ 63) ≤ k ∧ k < 2 ^ 63 ∧ d1.length * k.toNat ≤ sizeLine then .ok (List.replicate k.toNat d1).flatten h2 else .bad) σ Q := p2
    split at p2
    · rename_i hz
      refine ⟨c, k, vs, rfl, rfl, e2, hz.1, hz.2.1, by rw [← ra.length]; exact hz.2.2, fun q nq => ?_⟩
      exact p2.ok' (Keep.upd nq) (b2.wd.upd nq) ⟨q, _, rfl, b2.wd.notin nq, upd_same, ((ra.keep k2).rep _).keep (Keep.upd nq)⟩
    · exact p2.elim
  | _ => exact p2.elim
end
end Rw
set_option Elab.async false
set_option linter.all false
set_option autoImplicit false
set_option maxRecDepth 100000
set_option maxHeartbeats 4000000
namespace Rw
open PySem PySem.Spec PyProof.Rows L2

/-! ## methods of lists -/
section
variable {x : Gx} {X : Cx} {W : L2.WX} {pos ap : Pos}
theorem base_of {o : Expr} {nm : Str} {env : Env} (h : (match o with | .Call _ _ _ _ => false | _ => true) = true) : attributeBase o nm env (eval o env) = eval o env := by
  cases o <;> first | rfl | cases h
theorem few1 {e : Expr} {env : Env} {pos : Pos} (h : plainE e = true) : ((backTo pos (starEach [e] env)).all (fun x => !x.1) && (backToKw pos (keywordEach [] env)).all (fun x => x.1.isSome)
      && decide (([e] : List Expr).length + ([] : List Keyword).length + (if ([] : List Keyword).isEmpty then 0 else 1) < 30)) = true := by
  rw [star_of h]; rfl
theorem Wd.setL {π : Nm} {H : Hp} {h : AH} {n : Nat} {a : Addr} {ds : List D} {vs us : List V} (w : Wd x π h H) (en : π.ns[n]? = some a) (ea : H a = some (.lst us)) (r : RVs x π H ds vs) :
    Keep π H π (L2.upd H a (.lst vs)) ∧ Wd x π (h.set n (.lst ds false)) (L2.upd H a (.lst vs)) := by
  have nt : Soft (H a) := ⟨fun ws e => (by rw [ea] at e; cases e), fun o u e => (by rw [ea] at e; cases e)⟩
  have k : Keep π H π (L2.upd H a (.lst vs)) := Keep.upd' nt
  exact ⟨k, w.set en nt.1 (.lst (r.keep k) upd_same)⟩
theorem lstN_of {π : Nm} {H : Hp} {h : AH} {d : D} {n : Nat} {v : V} (w : Wd x π h H) (e : lstN h d = some n) (r : RV x π H d v) : ∃ a, v = .ref a ∧ π.ns[n]? = some a ∧ tyV x.K "list" v H := by
  unfold lstN at e
  split at e
  · split at e
    · cases e
      rename_i xs lk eh
      obtain ⟨a, rfl, ea⟩ := rv_ref r
      obtain ⟨vs, l, q⟩ := w.lst eh ea
      exact ⟨a, rfl, ea, .inl ⟨rfl, vs, .inl q.rd⟩⟩
    · cases e
  · cases e
variable {o e : Expr} {mo me : St → AH → R D} {mq : St → AH → R (List D)}
def mApp (mo me : St → AH → R D) : St → AH → R D := fun ρ h => ((mo ρ h).bind fun x h => R.opt h (lstN h x)).bind fun n h => (me ρ h).bind fun y h => match h[n]? with
        | some (.lst xs false) => if xs.length < sizeLine then .ok .non (h.set n (.lst (xs ++ [y]) false)) else .bad
        | _ => .bad
/-- a receiver that names a list -/
theorem lst_fst {β : Type} {F' : Nm → Hp → β → V → Prop} {f : Nat → AH → R β} {π : Nm} {ρ : St} {h : AH} {σ : L2.St} {H : Hp} {Q Q' : VK} (b : Beg x π ρ h σ H) (p : PostF x F' W π H (((mo ρ h).bind fun x h => R.opt h (lstN h x)).bind f) σ Q)
    (hq : ∀ (π1 : Nm) (H1 : Hp) (h1 : AH) (n : Nat) (a : Addr), Beg x π1 ρ h1 σ H1 → π1.ns[n]? = some a → tyV x.K "list" (.ref a) H1 → Keep π H π1 H1 → PostF x F' W π1 H1 (f n h1) σ Q → Q' (.ref a) H1) : tE x W mo σ H Q' := by
  have e : ((mo ρ h).bind fun x h => R.opt h (lstN h x)).bind f = (mo ρ h).bind fun x h => (R.opt h (lstN h x)).bind f := by cases mo ρ h <;> rfl
  rw [e] at p
  refine tF.fst b p fun π1 H1 h1 d1 v1 b1 r1 k1 p1 => ?_
  obtain ⟨n, en, p2⟩ := p1.opt
  obtain ⟨a, rfl, ea, ty⟩ := lstN_of b1.wd en r1
  exact hq π1 H1 h1 n a b1 ea ty k1 p2
theorem r_append (hK : X.K = x.K) (hb : (match o with | .Call _ _ _ _ => false | _ => true) = true) (hp : plainE e = true) (hl : (ap.endLine == pos.line) = true) (ho : PE X o (tE x W mo)) (he : PE X e (tE x W me)) :
    PE X (.Call (.Attribute o "append" ap) [e] [] pos) (tE x W (mApp mo me)) := by
  refine PE.imp (pe_bm PySem.F.plainAttrs_list PySem.F.slot_list_append rfl mt_append ho (pa_cons he pa_nil (star_of hp)) (base_of hb) (few1 hp) hl (star_of hp) rfl) fun σ H Q ⟨π, ρ, h, b, p⟩ => ?_
  refine lst_fst b p fun π1 H1 h1 n a b1 ea ty k1 p1 => ⟨by rw [hK]; exact ty, ?_⟩
  refine tF.fst b1 p1 fun π2 H2 h2 d2 v2 b2 r2 k2 p2 => ?_
  split at p2
  · rename_i xs eh
    split at p2
    · rename_i hz
      have ea2 := k2.pre _ _ ea
      obtain ⟨vs, l, q⟩ := b2.wd.lst eh ea2
      refine ⟨a, vs, v2, rfl, rfl, q.free, by rw [← l.length]; exact hz, ?_⟩
      obtain ⟨k, w⟩ := b2.wd.setL ea2 q.free (l.append (RVs.single r2))
      exact p2.ok' k w .non
    · exact p2.elim
  · exact p2.elim
def mExt (mo : St → AH → R D) (mq : St → AH → R (List D)) : St → AH → R D := fun ρ h => ((mo ρ h).bind fun x h => R.opt h (lstN h x)).bind fun n h => (mq ρ h).bind fun ys h => match h[n]? with
        | some (.lst xs false) => if xs.length + ys.length ≤ sizeLine then .ok .non (h.set n (.lst (xs ++ ys) false)) else .bad
        | _ => .bad
theorem r_extend (hK : X.K = x.K) (hb : (match o with | .Call _ _ _ _ => false | _ => true) = true) (hp : plainE e = true) (hl : (ap.endLine == pos.line) = true) (ho : PE X o (tE x W mo)) (he : PE X e (tM x W mq)) :
    PE X (.Call (.Attribute o "extend" ap) [e] [] pos) (tE x W (mExt mo mq)) := by
  refine PE.imp (pe_bm PySem.F.plainAttrs_list PySem.F.slot_list_extend rfl mt_extend ho (pa_cons he pa_nil (star_of hp)) (base_of hb) (few1 hp) hl (star_of hp) rfl) fun σ H Q ⟨π, ρ, h, b, p⟩ => ?_
  refine lst_fst b p fun π1 H1 h1 n a b1 ea ty k1 p1 => ⟨by rw [hK]; exact ty, ?_⟩
  refine tF.fst b1 p1 fun π2 H2 h2 d2 v2 b2 r2 k2 p2 => ?_
  obtain ⟨c2, us, rfl, eb, rb⟩ := r2
  split at p2
  · rename_i xs eh
    split at p2
    · rename_i hz
      have ea2 := k2.pre _ _ ea
      obtain ⟨vs, l, q⟩ := b2.wd.lst eh ea2
      refine ⟨a, c2, vs, us, rfl, rfl, q.free, eb, by rw [← l.length, ← rb.length]; exact hz, ?_⟩
      obtain ⟨k, w⟩ := b2.wd.setL ea2 q.free (l.append rb)
      exact p2.ok' k w .non
    · exact p2.elim
  · exact p2.elim
def mPop (mo : St → AH → R D) : St → AH → R D := fun ρ h => ((mo ρ h).bind fun x h => R.opt h (lstN h x)).bind fun n h => match h[n]? with
        | some (.lst xs false) => match xs.getLast? with
          | some y => .ok y (h.set n (.lst xs.dropLast false))
          | none => .bad
        | _ => .bad
theorem RVs.dropLast {π : Nm} {H : Hp} {ds : List D} {vs : List V} (r : RVs x π H ds vs) : RVs x π H ds.dropLast vs.dropLast := by
  rw [List.dropLast_eq_take, List.dropLast_eq_take, r.length]
  exact r.take _
theorem r_pop (hK : X.K = x.K) (hb : (match o with | .Call _ _ _ _ => false | _ => true) = true) (hl : (ap.endLine == pos.line) = true) (ho : PE X o (tE x W mo)) :
    PE X (.Call (.Attribute o "pop" ap) [] [] pos) (tE x W (mPop mo)) := by
  refine PE.imp (pe_bm0 PySem.F.plainAttrs_list PySem.F.slot_list_pop rfl mt_pop ho (base_of hb) hl) fun σ H Q ⟨π, ρ, h, b, p⟩ => ?_
  refine lst_fst b p fun π1 H1 h1 n a b1 ea ty k1 p1 => ⟨by rw [hK]; exact ty, ?_⟩
  split at p1
  · rename_i xs eh
    split at p1
    · rename_i y ey
      obtain ⟨vs, l, q⟩ := b1.wd.lst eh ea
      rw [List.getLast?_eq_getElem?] at ey
      obtain ⟨v, ev, rv⟩ := l.get ey
      rw [l.length] at ev
      refine ⟨a, vs, v, rfl, rfl, q.free, ev, ?_⟩
      obtain ⟨k, w⟩ := b1.wd.setL ea q.free l.dropLast
      exact p1.ok' k w (rv.keep k)
    · exact p1.elim
  · exact p1.elim
end
end Rw
set_option Elab.async false
set_option linter.all false
set_option autoImplicit false
set_option maxRecDepth 100000
set_option maxHeartbeats 4000000
namespace Rw
open PySem PySem.Spec PyProof.Rows L2

/-! ## calls of defs -/
/-- a def's promise: what the evaluator tells -/
def spD (x : Gx) (np : Nat) (cl : List D → AH → R D) : Sp := fun vs H Q E => ∃ π h ds, ds.length = np ∧ Wd x π h H ∧ RVs x π H ds vs ∧ PostF x (RV x) (fun c d _ H' => E c d H') π H (cl ds h) [] Q
section
variable {x : Gx} {X : Cx} {W : L2.WX} {pos p : Pos}
theorem spD_len {np : Nat} {ps : List Str} {cl : List D → AH → R D} (e : ps.length = np) : ∀ vs H Q E, spD x np cl vs H Q E → vs.length = ps.length := by
  rintro vs H Q E ⟨π, h, ds, hl, _, r, _⟩
  rw [← r.length, hl, e]
theorem r_call {k np : Nat} {f : Addr} {fd : FuncData} {ps : List Str} {cl : List D → AH → R D} {nm : Str} {e : Expr} {es : List Expr} {ms : St → AH → R (List D)} (hP : X.prog = x.P) (hw : X.w = x.w)
    (F : FnOk X.prog X.w X.K X.mg X.base (L2.CX X.prog X.w) k f fd ps (spD x np cl)) (hr : Room k X.A) (hg : Gl X nm) (hm : X.mg nm = some (.ref f)) (hk : PySem.W.keepIn X.K (.ref f) = true) (hb : Binds X.K fd ps []) (tk : Takes X W)
    (hnp : ∀ ds h, cl ds h ≠ .bad → ds.length = np) (hdb : (nm == ("__debug__" : Str)) = false) (hpl : (e :: es).all plainE = true) (ha : PA X (e :: es) (tAs x W ms)) :
    PE X (.Call (.Name nm p) (e :: es) [] pos) (tE x W fun ρ h => (ms ρ h).bind fun xs h => cl xs h) := by
  simp only [List.all_cons, Bool.and_eq_true] at hpl
  refine PE.imp (pe_callS F hr hg hm hk hb (fun σ => passAt tk σ) ha hdb (star_of hpl.1) (no_star hpl.2)) fun σ H Q ⟨π, ρ, h, b, q⟩ => tAs.fst b q fun π1 H1 h1 ds vs b1 r1 k1 p1 => ?_
  refine ⟨π1, h1, ds, hnp ds h1 fun z => ?_, b1.wd, r1, ?_⟩
  · rw [z] at p1; exact p1
  · cases ec : cl ds h1 with
    | ok d h2 => rw [ec] at p1; exact p1
    | ex c d h2 => rw [ec] at p1; exact p1
    | bad => rw [ec] at p1; exact p1
theorem r_call0 {k np : Nat} {f : Addr} {fd : FuncData} {ps : List Str} {cl : List D → AH → R D} {nm : Str} (hP : X.prog = x.P) (hw : X.w = x.w)
    (F : FnOk X.prog X.w X.K X.mg X.base (L2.CX X.prog X.w) k f fd ps (spD x np cl)) (hr : Room k X.A) (hg : Gl X nm) (hm : X.mg nm = some (.ref f)) (hk : PySem.W.keepIn X.K (.ref f) = true) (hb : Binds X.K fd ps []) (tk : Takes X W)
    (hnp : ∀ ds h, cl ds h ≠ .bad → ds.length = np) (hdb : (nm == ("__debug__" : Str)) = false) :
    PE X (.Call (.Name nm p) [] [] pos) (tE x W fun ρ h => cl [] h) := by
  refine ⟨fun pins s σ H Q I q => ?_⟩
  obtain ⟨π, ρ, h, b, p1⟩ := q
  replace p1 : PostF x (RV x) W π H (cl [] h) σ Q := p1
  refine wpAny_Call_Name_kw (ld_glob I hg hm ?_ hdb)
  refine PySem.W.callWith_K0 I.kIn hk (run_fnS (us := []) (vs := []) F hr hb (passAt tk σ) I .nil ⟨π, h, [], hnp [] h fun z => ?_, b.wd, .nil, ?_⟩)
  · rw [z] at p1; exact p1
  · cases ec : cl [] h with
    | ok d h2 => rw [ec] at p1; exact p1
    | ex c d h2 => rw [ec] at p1; exact p1
    | bad => rw [ec] at p1; exact p1
end
end Rw
set_option Elab.async false
set_option linter.all false
set_option autoImplicit false
set_option maxRecDepth 100000
set_option maxHeartbeats 4000000
namespace Rw
open PySem PySem.Spec PyProof.Rows L2

/-! ## statements by evaluation -/
def PostS (x : Gx) (W : L2.WX) (E : Ends) (π : Nm) (H : Hp) : RS → Prop
  | .nx ρ h => ∀ (π' : Nm) (H' : Hp) (σ' : L2.St), Keep π H π' H' → Beg x π' ρ h σ' H' → E.nx σ' H'
  | .rt d h => ∀ (π' : Nm) (H' : Hp) (v : V), Keep π H π' H' → Wd x π' h H' → RV x π' H' d v → E.rt v H'
  | .bk ρ h => ∀ (π' : Nm) (H' : Hp) (σ' : L2.St), Keep π H π' H' → Beg x π' ρ h σ' H' → E.bk σ' H'
  | .ct ρ h => ∀ (π' : Nm) (H' : Hp) (σ' : L2.St), Keep π H π' H' → Beg x π' ρ h σ' H' → E.ct σ' H'
  | .ex c p ρ h => ∀ (π' : Nm) (H' : Hp) (σ' : L2.St) (cls : Value) (d : Option Addr), Keep π H π' H' → Beg x π' ρ h σ' H' → RX x π' H' c p cls d → W cls d σ' H'
  | .bad => False
def tS (x : Gx) (W : L2.WX) (m : St → AH → RS) : TS := fun E σ H => ∃ π ρ h, Beg x π ρ h σ H ∧ PostS x W E π H (m ρ h)
/-- a value first -/
def RS.of {α : Type} (ρ : St) : R α → (α → AH → RS) → RS
  | .ok a h, f => f a h
  | .ex c p h, _ => .ex c p ρ h
  | .bad, _ => .bad
section
variable {x : Gx} {α : Type} {F : Nm → Hp → α → V → Prop} {W : L2.WX} {E : Ends} {π π' : Nm} {H H' : Hp} {σ : L2.St} {ρ : St} {h : AH}
theorem PostS.keep {r : RS} (k : Keep π H π' H') (p : PostS x W E π H r) : PostS x W E π' H' r := by
  cases r with
  | nx ρ h => exact fun π2 H2 σ2 k2 b => p π2 H2 σ2 (k.trans k2) b
  | rt d h => exact fun π2 H2 v k2 b q => p π2 H2 v (k.trans k2) b q
  | bk ρ h => exact fun π2 H2 σ2 k2 b => p π2 H2 σ2 (k.trans k2) b
  | ct ρ h => exact fun π2 H2 σ2 k2 b => p π2 H2 σ2 (k.trans k2) b
  | ex c d ρ h => exact fun π2 H2 σ2 cls dd k2 b q => p π2 H2 σ2 cls dd (k.trans k2) b q
  | bad => exact p
theorem tS.fst {m : St → AH → R α} {f : α → AH → RS} {Q : VK} (b : Beg x π ρ h σ H) (p : PostS x W E π H (RS.of ρ (m ρ h) f))
    (hq : ∀ (π1 : Nm) (H1 : Hp) (h1 : AH) (d : α) (v : V), Beg x π1 ρ h1 σ H1 → F π1 H1 d v → Keep π H π1 H1 → PostS x W E π1 H1 (f d h1) → Q v H1) : tF x F W m σ H Q := by
  refine ⟨π, ρ, h, b, ?_⟩
  cases e : m ρ h with
  | ok d h' =>
    rw [e] at p
    exact fun π1 H1 v k w q => hq π1 H1 h' d v (b.keep k w) q k (PostS.keep k p)
  | ex c d h' =>
    rw [e] at p
    exact fun π1 H1 cls dd k w q => p π1 H1 σ cls dd k (b.keep k w) q
  | bad => rw [e] at p; exact p
theorem tS.fstA {m : St → AH → R (List D)} {f : List D → AH → RS} {Q : List V → Hp → Prop} (b : Beg x π ρ h σ H) (p : PostS x W E π H (RS.of ρ (m ρ h) f))
    (hq : ∀ (π1 : Nm) (H1 : Hp) (h1 : AH) (d : List D) (v : List V), Beg x π1 ρ h1 σ H1 → RVs x π1 H1 d v → Keep π H π1 H1 → PostS x W E π1 H1 (f d h1) → Q v H1) : tAs x W m σ H Q := by
  refine ⟨π, ρ, h, b, ?_⟩
  cases e : m ρ h with
  | ok d h' =>
    rw [e] at p
    exact fun π1 H1 v k w q => hq π1 H1 h' d v (b.keep k w) q k (PostS.keep k p)
  | ex c d h' =>
    rw [e] at p
    exact fun π1 H1 cls dd k w q => p π1 H1 σ cls dd k (b.keep k w) q
  | bad => rw [e] at p; exact p
theorem Beg.set {i : Nat} {d : D} {v : V} (b : Beg x π ρ h σ H) (r : RV x π H d v) : Beg x π (ρ.set i (some d)) h (σ.set i (some v)) H := ⟨b.st.set r, b.wd⟩
end
section
variable {x : Gx} {X : Cx} {W : L2.WX} {pos pos' : Pos} {st : Stmt} {rest : List Stmt}
theorem s_nil : PSs X [] (tS x W fun ρ h => .nx ρ h) := PSs.imp pss_nil fun E σ H ⟨π, ρ, h, b, p⟩ => p π H σ Keep.refl b
def seqS (m n : St → AH → RS) : St → AH → RS := fun ρ h => match m ρ h with
    | .nx ρ h => n ρ h
    | r => r
theorem s_cons {m n : St → AH → RS} (h1 : PS X st (tS x W m)) (h2 : PSs X rest (tS x W n)) : PSs X (st :: rest) (tS x W (seqS m n)) := by
  refine PSs.imp (pss_cons h1 h2) fun E σ H ⟨π, ρ, h, b, p⟩ => ⟨π, ρ, h, b, ?_⟩
  unfold seqS at p
  cases e : m ρ h with
  | nx ρ1 h1 => rw [e] at p; exact fun π1 H1 σ1 k b1 => ⟨π1, ρ1, h1, b1, PostS.keep k p⟩
  | _ => rw [e] at p; exact p
theorem s_pass : PS X (.Pass pos) (tS x W fun ρ h => .nx ρ h) := PS.imp ps_pass fun E σ H ⟨π, ρ, h, b, p⟩ => p π H σ Keep.refl b
theorem s_doc {y j} : PS X (.Expr (.Constant (.str y) j pos) pos') (tS x W fun ρ h => .nx ρ h) := PS.imp ps_doc fun E σ H ⟨π, ρ, h, b, p⟩ => p π H σ Keep.refl b
theorem s_brk : PS X (.Break pos) (tS x W fun ρ h => .bk ρ h) := PS.imp ps_break fun E σ H ⟨π, ρ, h, b, p⟩ => p π H σ Keep.refl b
theorem s_cnt : PS X (.Continue pos) (tS x W fun ρ h => .ct ρ h) := PS.imp ps_continue fun E σ H ⟨π, ρ, h, b, p⟩ => p π H σ Keep.refl b
variable {e : Expr} {m : St → AH → R D}
theorem s_expr (he : PE X e (tE x W m)) (hs : swapsWith e none pos.line X.env = pure false) : PS X (.Expr e pos) (tS x W fun ρ h => RS.of ρ (m ρ h) fun _ h => .nx ρ h) :=
  PS.imp (ps_expr he hs) fun E σ H ⟨π, ρ, h, b, p⟩ => tS.fst b p fun π1 H1 h1 d v b1 r k p1 => p1 π1 H1 σ Keep.refl b1
theorem s_ret (he : PE X e (tE x W m)) : PS X (.Return (some e) pos) (tS x W fun ρ h => RS.of ρ (m ρ h) fun d h => .rt d h) :=
  PS.imp (ps_ret he) fun E σ H ⟨π, ρ, h, b, p⟩ => tS.fst b p fun π1 H1 h1 d v b1 r k p1 => p1 π1 H1 v Keep.refl b1.wd r
theorem s_retN : PS X (.Return none pos) (tS x W fun ρ h => .rt .non h) := PS.imp ps_retN fun E σ H ⟨π, ρ, h, b, p⟩ => p π H .non Keep.refl b.wd .non
def ifS (mc : St → AH → R D) (ma mb : St → AH → RS) : St → AH → RS := fun ρ h => RS.of ρ (mc ρ h) fun d h => match d with
  | .bl true => ma ρ h
  | .bl false => mb ρ h
  | _ => .bad
theorem s_if {c : Expr} {as bs : List Stmt} {mc : St → AH → R D} {ma mb : St → AH → RS} (hc : PT X c (tT x W mc)) (ha : PSs X as (tS x W ma)) (hb : PSs X bs (tS x W mb)) : PS X (.If c as bs pos) (tS x W (ifS mc ma mb)) := by
  refine PS.imp (ps_if hc ha hb) fun E σ H ⟨π, ρ, h, b, p⟩ => tS.fst b p fun π1 H1 h1 d v b1 r k p1 => ?_
  cases d with
  | bl i =>
    obtain rfl := rv_bl r
    refine ⟨i, rfl, ?_⟩
    cases i with
    | true => exact ⟨π1, ρ, h1, b1, p1⟩
    | false => exact ⟨π1, ρ, h1, b1, p1⟩
  | _ => exact p1.elim
theorem s_set {i : Nat} {y : Str} (hN : X.N.Nodup) (hi : X.N[i]? = some y) (hx : X.env.scope.names.lookup y = some .local) (he : PE X e (tE x W m)) (hs : swapsWith e (some (.Name y pos')) pos.line X.env = pure false) :
    PS X (.Assign [.Name y pos'] e pos) (tS x W fun ρ h => RS.of ρ (m ρ h) fun d h => .nx (ρ.set i (some d)) h) :=
  PS.imp (ps_set hN hi (.inl hx) he hs (.inr hx)) fun E σ H ⟨π, ρ, h, b, p⟩ => tS.fst b p fun π1 H1 h1 d v b1 r k p1 => p1 π1 H1 _ Keep.refl (b1.set r)
/-- .. of a name that a comprehension reads -/
theorem s_setC {i : Nat} {y : Str} (hN : X.N.Nodup) (hi : X.N[i]? = some y) (hx : X.env.scope.names.lookup y = some .cell) (hf : X.fn y = true) (he : PE X e (tE x W m)) (hs : swapsWith e (some (.Name y pos')) pos.line X.env = pure false) :
    PS X (.Assign [.Name y pos'] e pos) (tS x W fun ρ h => RS.of ρ (m ρ h) fun d h => .nx (ρ.set i (some d)) h) :=
  PS.imp (ps_set hN hi (.inr hx) he hs (.inl hf)) fun E σ H ⟨π, ρ, h, b, p⟩ => tS.fst b p fun π1 H1 h1 d v b1 r k p1 => p1 π1 H1 _ Keep.refl (b1.set r)
end
end Rw
set_option Elab.async false
set_option linter.all false
set_option autoImplicit false
set_option maxRecDepth 100000
set_option maxHeartbeats 4000000
namespace Rw
open PySem PySem.Spec PyProof.Rows L2

/-! ## targets -/
theorem PG.imp {X : Cx} {e : Expr} {t t' : TG} (p : PG X e t) (h : ∀ v σ H Q, t' v σ H Q → t v σ H Q) : PG X e t' := ⟨fun pins s σ H v u Q I r q => p.run pins s σ H v u Q I r (h v σ H Q q)⟩
theorem PG.of {X : Cx} {e : Expr} {t : TG} (h : ∀ v σ H Q, t v σ H Q → ∃ t', PG X e t' ∧ t' v σ H Q) : PG X e t := ⟨fun pins s σ H v u Q I r q => by
  obtain ⟨t', p, q'⟩ := h v σ H Q q
  exact p.run pins s σ H v u Q I r q'⟩
def setSl : List Nat → List V → L2.St → L2.St
  | i :: is, v :: vs, σ => setSl is vs (σ.set i (some v))
  | _, _, σ => σ
/-- which slots are written -/
def Put : Tg → L2.St → L2.St → Prop
  | .nm i, σ, σ' => ∃ v, σ' = σ.set i (some v)
  | .tp is, σ, σ' => ∃ vs, σ' = setSl is vs σ
def tG (x : Gx) (tg : Tg) : TG := fun v σ H Q => ∃ π ρ h d ρ', Beg x π ρ h σ H ∧ RV x π H d v ∧ asgD h tg d ρ = some ρ' ∧ ∀ σ', Beg x π ρ' h σ' H → Put tg σ σ' → Q σ' H
def gNames : List Nat → TGs
  | [] => gNil
  | i :: is => gCons (gName i) (gNames is)
section
variable {x : Gx} {X : Cx} {pos : Pos}
/-- a place for a name -/
def Plc (X : Cx) (i : Nat) (y : Str) : Prop := X.N[i]? = some y ∧ Loc X.env.scope y ∧ (X.fn y = true ∨ X.env.scope.names.lookup y = some .local)
theorem g_name {i : Nat} {y : Str} (hN : X.N.Nodup) (p : Plc X i y) : PG X (.Name y pos) (tG x (.nm i)) :=
  PG.imp (pg_name hN p.1 p.2.1 p.2.2) fun v σ H Q ⟨π, ρ, h, d, ρ', b, r, e, q⟩ => by
    cases e
    exact q _ (b.set r) ⟨v, rfl⟩
inductive Names (X : Cx) : List Expr → List Nat → Prop
  | nil : Names X [] []
  | cons {y : Str} {p : Pos} {i : Nat} {es : List Expr} {is : List Nat} : Plc X i y → Names X es is → Names X (.Name y p :: es) (i :: is)
theorem Names.pgs {es : List Expr} {is : List Nat} (hN : X.N.Nodup) (n : Names X es is) : PGs X es (gNames is) := by
  induction n with
  | nil => exact pgs_nil
  | cons p _ ih => exact pgs_cons (pg_name hN p.1 p.2.1 p.2.2) ih
theorem Names.len {es : List Expr} {is : List Nat} (n : Names X es is) : (assignEach es X.env).length = is.length := by
  induction n with
  | nil => rfl
  | cons p _ ih => rw [List.length_cons, ← ih]; rfl
theorem Names.nostar {es : List Expr} {is : List Nat} (n : Names X es is) : (assignEach es X.env).findIdx? (·.1) = none := by
  induction n with
  | nil => rfl
  | cons p _ ih =>
    show List.findIdx? (·.1) ((false, _) :: assignEach _ X.env) = none
    rw [List.findIdx?_cons, ih]
    rfl
theorem names_set {π : Nm} {H : Hp} {h : AH} {Q : L2.St → Hp → Prop} : ∀ {is : List Nat} {ds : List D} {vs : List V} {ρ : St} {σ : L2.St}, ds.length = is.length → RVs x π H ds vs → Beg x π ρ h σ H → (∀ σ', Beg x π (setS is ds ρ) h σ' H → σ' = setSl is vs σ → Q σ' H) → gNames is vs σ H Q
  | [], ds, vs, ρ, σ, hl, r, b, q => by
    cases r with
    | nil => exact ⟨rfl, q σ b rfl⟩
    | cons _ _ => simp at hl
  | i :: is, ds, vs, ρ, σ, hl, r, b, q => by
    cases r with
    | nil => simp at hl
    | cons r rs => exact ⟨_, _, rfl, names_set (by simpa using hl) rs (b.set r) q⟩
theorem g_tup {es : List Expr} {is : List Nat} {k : Nat} (hK : X.K = x.K) (hc : X.calm = true) (hN : X.N.Nodup) (n : Names X es is) : PG X (.Tuple es k pos) (tG x (.tp is)) := by
  refine PG.of fun v σ H Q ⟨π, ρ, h, d, ρ', b, r, e, q⟩ => ?_
  cases d with
  | tup ds =>
    replace e : (if ds.length = is.length then some (setS is ds ρ) else none) = some ρ' := e
    split at e
    · rename_i hl
      cases e
      obtain ⟨a, vs, rfl, t, l⟩ := rv_tup r
      exact ⟨_, pg_tup hc (n.pgs hN) n.len n.nostar, a, vs, rfl, by rw [hK]; exact t.sq, by rw [← l.length, hl], names_set hl l b fun σ' b' e' => q σ' b' ⟨_, e'⟩⟩
    · cases e
  | ref m =>
    obtain ⟨a, rfl, ea⟩ := rv_ref r
    replace e : (match h[m]? with
    | some (.lst ds _) => if ds.length = is.length then some (setS is ds ρ) else none
    | _ => none) = some ρ' := e
    split at e
    · rename_i ds lk eh
      split at e
      · rename_i hl
        cases e
        obtain ⟨vs, l, at_⟩ := b.wd.lst eh ea
        exact ⟨_, pg_lst hc (n.pgs hN) n.len n.nostar, a, vs, rfl, .inl at_.rd, by rw [← l.length, hl], names_set hl l b fun σ' b' e' => q σ' b' ⟨_, e'⟩⟩
      · cases e
    · cases e
  | _ => cases e
variable {W : L2.WX} {m : St → AH → R D} {e tg : Expr} {t : Tg}
theorem s_asg (he : PE X e (tE x W m)) (hg : PG X tg (tG x t)) (hs : swapsWithSole [tg] e pos.line X.env = pure false) (hw : swappedStores [tg] e X.env = pure none) (h1 : (assignEach [tg] X.env).map (·.2) = [assign tg X.env]) :
    PS X (.Assign [tg] e pos) (tS x W fun ρ h => RS.of ρ (m ρ h) fun d h => match asgD h t d ρ with | some ρ => .nx ρ h | none => .bad) := by
  refine PS.imp (ps_asg he hg hs hw h1) fun E σ H ⟨π, ρ, h, b, p⟩ => tS.fst b p fun π1 H1 h1 d v b1 r k p1 => ?_
  split at p1
  · rename_i ρ' ea
    exact ⟨π1, ρ, h1, d, ρ', b1, r, ea, fun σ' b' _ => p1 π1 H1 σ' Keep.refl b'⟩
  · exact p1.elim
end
end Rw
set_option Elab.async false
set_option linter.all false
set_option autoImplicit false
set_option maxRecDepth 100000
set_option maxHeartbeats 4000000
namespace Rw
open PySem PySem.Spec PyProof.Rows L2

/-! ## stores by index -/
def sD (x : Gx) : TSet := fun o i v H Q => ∃ π h d1 d2 d3 h', Wd x π h H ∧ RV x π H d1 o ∧ RV x π H d2 i ∧ RV x π H d3 v ∧ evS.putD h d1 d2 d3 = .ok .non h' ∧ ∀ H', Keep π H π H' → Wd x π h' H' → Q H'
section
variable {x : Gx} {X : Cx} {W : L2.WX} {pos pos' : Pos}
theorem put_ok {h : AH} {d1 d2 d3 : D} : evS.putD h d1 d2 d3 = .bad ∨ ∃ h', evS.putD h d1 d2 d3 = .ok .non h' := by
  unfold evS.putD
  repeat' split
  all_goals first | exact .inl rfl | exact .inr ⟨_, rfl⟩
theorem set_D (hK : X.K = x.K) (hP : X.prog = x.P) (hw : X.w = x.w) (hu : X.A.units + 100 < cLine) : PSet X (sD x) := by
  intro pins s σ H o i v ov iv u Q I ro ri rv q
  obtain ⟨π, h, d1, d2, d3, h', w, r1, r2, r3, e, q⟩ := q
  unfold evS.putD at e
  split at e
  · rename_i n k dv
    obtain ⟨a, rfl, ea⟩ := rv_ref r1
    split at e
    · rename_i xs eh
      split at e
      · rename_i i
        obtain rfl := rv_int r2
        split at e
        · rename_i j ej
          cases e
          obtain ⟨vs, l, at_⟩ := w.lst eh ea
          obtain ⟨k, w'⟩ := w.setL ea at_.free (RVs.set r3 j l)
          exact set_list pins s σ H _ _ _ ov iv u Q I ro ri rv ⟨a, vs, i, j, rfl, rfl, at_.free, by rw [← l.length]; exact ej, q _ k w'⟩
        · cases e
      · cases e
    · rename_i kvs eh
      split at e
      · rename_i hz
        simp only [Bool.and_eq_true, decide_eq_true_eq] at hz
        cases e
        obtain ⟨uo, dh, at_⟩ := w.dct eh ea
        cases ro
        obtain ⟨nt, _⟩ := not_tup_of dh at_.free
        refine dSetItem hK hP hw (by omega) I dh at_.free hz.1 r2 ri r3 rv hz.2 fun s' u' I' dh' => ⟨_, I', q _ (Keep.upd' nt) (w.set ea nt.1 (.dct dh' upd_same))⟩
      · cases e
    · cases e
  · cases e
theorem PostS.f {α : Type} {F : Nm → Hp → α → V → Prop} {E : Ends} {π : Nm} {H : Hp} {σ : L2.St} {ρ : St} {h : AH} {r : R α} (b : Beg x π ρ h σ H) (p : PostS x W E π H (RS.of ρ r fun _ h => .nx ρ h)) : PostF x F W π H r σ (fun _ H1 => E.nx σ H1) := by
  cases r with
  | ok d h' => exact fun π' H' v k w _ => p π' H' σ k (b.keep k w)
  | ex c d h' => exact fun π' H' cls dd k w q => p π' H' σ cls dd k (b.keep k w) q
  | bad => exact p
variable {o i e : Expr} {mo mi m : St → AH → R D}
theorem sub_any {π : Nm} {H : Hp} {σ : L2.St} {ρ : St} {h : AH} {dv : D} {v : V} {Q : VK} {β : Type} {F' : Nm → Hp → β → V → Prop} {f : D → AH → R β} {Q' : L2.St → Hp → Prop} (b : Beg x π ρ h σ H) (rv : RV x π H dv v)
    (p : PostF x F' W π H ((mo ρ h).bind fun u h => (mi ρ h).bind fun w h => (evS.putD h u w dv).bind f) σ Q)
    (hq : ∀ (π' : Nm) (H' : Hp) (h' : AH), Beg x π' ρ h' σ H' → Keep π H π' H' → PostF x F' W π' H' (f .non h') σ Q → Q' σ H') : gSub (tE x W mo) (tE x W mi) (sD x) v σ H Q' := by
  refine tF.fst b p fun π1 H1 h1 d1 v1 b1 r1 k1 p1 => tF.fst b1 p1 fun π2 H2 h2 d2 v2 b2 r2 k2 p2 => ?_
  rcases put_ok (h := h2) (d1 := d1) (d2 := d2) (d3 := dv) with e | ⟨h', e⟩
  · rw [e] at p2; exact p2.elim
  · rw [e] at p2
    exact ⟨π2, h2, d1, d2, dv, h', b2.wd, r1.keep k2, r2, rv.keep (k1.trans k2), e, fun H' k w => hq π2 H' h' (b2.keep k w) ((k1.trans k2).trans k) (PostF.keep k p2)⟩
theorem s_setIx (hK : X.K = x.K) (hP : X.prog = x.P) (hw : X.w = x.w) (hu : X.A.units + 100 < cLine) (he : PE X e (tE x W m)) (ho : PE X o (tE x W mo)) (hi : PE X i (tE x W mi))
    (ha : ∀ v, assign (.Subscript o i pos') X.env v = (do
      let ov ← holding [v] (eval o X.env)
      let iv ← holding [v, ov] (eval i X.env)
      standAt pos'
      holding [v, ov, iv] (setItem ov iv v)
      release [v, ov, iv] []))
    (hs : swapsWithSole [.Subscript o i pos'] e pos.line X.env = pure false) (hsw : swappedStores [.Subscript o i pos'] e X.env = pure none) :
    PS X (.Assign [.Subscript o i pos'] e pos) (tS x W fun ρ h => RS.of ρ ((m ρ h).bind fun z h => (mo ρ h).bind fun u h => (mi ρ h).bind fun w h => evS.putD h u w z) fun _ h => .nx ρ h) := by
  refine PS.imp (ps_asg he (pg_sub ho hi (set_D hK hP hw hu) ha) hs hsw rfl) fun E σ H ⟨π, ρ, h, b, p⟩ => ?_
  have p' := PostS.f (F := RV x) b p
  refine tF.fst b p' fun π1 H1 h1 dv v b1 rv k1 p1 => ?_
  have e1 : ∀ (u w : D) (h : AH), evS.putD h u w dv = (evS.putD h u w dv).bind fun d h => .ok d h := fun u w h => by cases evS.putD h u w dv <;> rfl
  have p2 : PostF x (RV x) W π1 H1 ((mo ρ h1).bind fun u h => (mi ρ h).bind fun w h => (evS.putD h u w dv).bind fun d h => .ok d h) σ (fun _ H1 => E.nx σ H1) := by
    have : (fun (u : D) (h : AH) => (mi ρ h).bind fun w h => (evS.putD h u w dv).bind fun d h => R.ok d h) = fun u h => (mi ρ h).bind fun w h => evS.putD h u w dv := by
      funext u h
      congr 1
      funext w h
      exact (e1 u w h).symm
    rw [this]; exact p1
  exact sub_any b1 rv p2 fun π' H' h' b' k' p3 => p3.ok (v := .non) b'.wd .non
variable {o2 i2 e2 : Expr} {mo2 mi2 m2 : St → AH → R D}
theorem s_parIx {k k2 : Nat} {p1 p2 p3 p4 : Pos} (hK : X.K = x.K) (hP : X.prog = x.P) (hw : X.w = x.w) (hu : X.A.units + 100 < cLine) (hc : X.calm = true) (he : PE X e (tE x W m)) (he2 : PE X e2 (tE x W m2)) (pe : plainE e = true) (pe2 : plainE e2 = true)
    (ho : PE X o (tE x W mo)) (hi : PE X i (tE x W mi)) (ho2 : PE X o2 (tE x W mo2)) (hi2 : PE X i2 (tE x W mi2))
    (ha : ∀ v, assign (.Subscript o i p1) X.env v = (do
      let ov ← holding [v] (eval o X.env)
      let iv ← holding [v, ov] (eval i X.env)
      standAt p1
      holding [v, ov, iv] (setItem ov iv v)
      release [v, ov, iv] []))
    (ha2 : ∀ v, assign (.Subscript o2 i2 p2) X.env v = (do
      let ov ← holding [v] (eval o2 X.env)
      let iv ← holding [v, ov] (eval i2 X.env)
      standAt p2
      holding [v, ov, iv] (setItem ov iv v)
      release [v, ov, iv] []))
    (hs : swapsWithSole [.Tuple [.Subscript o i p1, .Subscript o2 i2 p2] k p3] (.Tuple [e, e2] k2 p4) pos.line X.env = pure false) (hsw : swappedStores [.Tuple [.Subscript o i p1, .Subscript o2 i2 p2] k p3] (.Tuple [e, e2] k2 p4) X.env = pure none) :
    PS X (.Assign [.Tuple [.Subscript o i p1, .Subscript o2 i2 p2] k p3] (.Tuple [e, e2] k2 p4) pos) (tS x W fun ρ h => RS.of ρ ((m ρ h).bind fun z1 h => (m2 ρ h).bind fun z2 h => (mo ρ h).bind fun x1 h => (mi ρ h).bind fun y1 h => (evS.putD h x1 y1 z1).bind fun _ h =>
        (mo2 ρ h).bind fun x2 h => (mi2 ρ h).bind fun y2 h => evS.putD h x2 y2 z2) fun _ h => .nx ρ h) := by
  have hpg := pg_tup (X := X) (pos := p3) (k := k) hc (pgs_cons (pg_sub ho hi (set_D hK hP hw hu) ha) (pgs_cons (pg_sub ho2 hi2 (set_D hK hP hw hu) ha2) pgs_nil)) rfl rfl
  refine PS.imp (ps_asg (pe_tup (pa_cons he (pa_cons he2 pa_nil (star_of pe2)) (star_of pe))) hpg hs hsw rfl) fun E σ H ⟨π, ρ, h, b, p⟩ => ?_
  have p' := PostS.f (F := RV x) b p
  refine tF.fst b p' fun π1 H1 h1 z1 v1 b1 r1 k1 p1 => tF.fst b1 p1 fun π2 H2 h2 z2 v2 b2 r2 k2 p2 => ?_
  refine ⟨by show 2 ≤ sizeLine; rw [sizeLine_eq]; decide, fun q nq => ?_⟩
  have kq : Keep π2 H2 π2 (upd H2 q (.tup [v1, v2])) := Keep.upd nq
  have b3 := b2.keep kq (b2.wd.upd nq)
  refine ⟨q, [v1, v2], rfl, (TupAt.sq (.inl upd_same)), rfl, v1, [v2], rfl, ?_⟩
  refine sub_any b3 ((r1.keep k2).keep kq) (PostF.keep kq p2) fun π4 H4 h4 b4 k4 p4 => ⟨v2, [], rfl, ?_⟩
  have e1 : ∀ (u w : D) (h : AH), evS.putD h u w z2 = (evS.putD h u w z2).bind fun d h => .ok d h := fun u w h => by cases evS.putD h u w z2 <;> rfl
  have p5 : PostF x (RV x) W π4 H4 ((mo2 ρ h4).bind fun u h => (mi2 ρ h).bind fun w h => (evS.putD h u w z2).bind fun d h => .ok d h) σ (fun _ H1 => E.nx σ H1) := by
    have : (fun (u : D) (h : AH) => (mi2 ρ h).bind fun w h => (evS.putD h u w z2).bind fun d h => R.ok d h) = fun u h => (mi2 ρ h).bind fun w h => evS.putD h u w z2 := by
      funext u h
      congr 1
      funext w h
      exact (e1 u w h).symm
    rw [this]; exact p4
  exact sub_any b4 ((r2.keep kq).keep k4) p5 fun π' H' h' b' k' p6 => ⟨rfl, p6.ok (v := .non) b'.wd .non⟩
end
end Rw
set_option Elab.async false
set_option linter.all false
set_option autoImplicit false
set_option maxRecDepth 100000
set_option maxHeartbeats 4000000
namespace Rw
open PySem PySem.Spec PyProof.Rows L2

/-! ## op=, several names at once, raise -/
section
variable {x : Gx} {X : Cx} {W : L2.WX} {pos pos' : Pos} {e : Expr} {m : St → AH → R D}
theorem ip_D (op : Operator) : PIp X op (fun v u H Q => ∃ π d1 d2 d, RV x π H d1 v ∧ RV x π H d2 u ∧ augD op d1 d2 = some d ∧ ∀ w, RV x π H d w → Q w H) := by
  intro pins s σ H v u a b Q I ra rb q
  obtain ⟨π, d1, d2, d, r1, r2, e, q⟩ := q
  unfold augD at e
  split at e
  · cases e; obtain rfl := rv_int r1; obtain rfl := rv_int r2; exact ip_add pins s σ H _ _ a b Q I ra rb ⟨_, _, rfl, rfl, q _ (.int _)⟩
  · cases e; obtain rfl := rv_int r1; obtain rfl := rv_int r2; exact ip_sub pins s σ H _ _ a b Q I ra rb ⟨_, _, rfl, rfl, q _ (.int _)⟩
  · split at e
    · rename_i hz
      cases e; obtain rfl := rv_int r1; obtain rfl := rv_int r2
      obtain ⟨t, rfl⟩ := ra
      obtain ⟨t', rfl⟩ := rb
      exact imul_int ⟨.int _, H, I.tok _, ⟨_, rfl⟩, q _ (.int _)⟩ (CMulW.ok (by unfold CMulW; omega))
    · cases e
  · cases e; obtain rfl := rv_int r1; obtain rfl := rv_int r2
    obtain ⟨t, rfl⟩ := ra
    obtain ⟨t', rfl⟩ := rb
    exact iand_int ⟨.int _, H, I.tok _, ⟨_, rfl⟩, q _ (.int _)⟩
  · cases e; obtain rfl := rv_int r1; obtain rfl := rv_int r2
    obtain ⟨t, rfl⟩ := ra
    obtain ⟨t', rfl⟩ := rb
    exact ior_int ⟨.int _, H, I.tok _, ⟨_, rfl⟩, q _ (.int _)⟩
  · split at e
    · rename_i hz
      cases e; obtain rfl := rv_str r1; obtain rfl := rv_str r2
      obtain ⟨t, rfl⟩ := ra
      obtain ⟨t', rfl⟩ := rb
      exact iadd_str (fun t' tk => ⟨.str _, H, I.tok _, ⟨_, rfl⟩, q _ (.str _)⟩) hz
    · cases e
  · cases e
theorem s_aug {i : Nat} {y : Str} {op : Operator} (hN : X.N.Nodup) (hp : Plc X i y) (he : PE X e (tE x W m)) :
    PS X (.AugAssign (.Name y pos') op e pos) (tS x W fun ρ h => RS.of ρ ((R.opt h (atS ρ i)).bind fun u h => (m ρ h).bind fun w h => R.opt h (augD op u w)) fun d h => .nx (ρ.set i (some d)) h) := by
  refine PS.imp (ps_aug hN hp.1 hp.2.1 he (ip_D (x := x) op) hp.2.2) fun E σ H ⟨π, ρ, h, b, p⟩ => ?_
  replace p : PostS x W E π H (RS.of ρ ((R.opt h (atS ρ i)).bind fun u h => (m ρ h).bind fun w h => R.opt h (augD op u w)) fun d h => .nx (ρ.set i (some d)) h) := p
  cases ea : atS ρ i with
  | none => rw [ea] at p; exact p.elim
  | some u =>
    rw [ea] at p
    replace p : PostS x W E π H (RS.of ρ ((m ρ h).bind fun w h => R.opt h (augD op u w)) fun d h => .nx (ρ.set i (some d)) h) := p
    obtain ⟨v, e1, r⟩ := b.st.at ea
    have e2 : RS.of ρ ((m ρ h).bind fun w h => R.opt h (augD op u w)) (fun d h => .nx (ρ.set i (some d)) h) = RS.of ρ (m ρ h) fun w h => RS.of ρ (R.opt h (augD op u w)) fun d h => .nx (ρ.set i (some d)) h := by cases m ρ h <;> rfl
    rw [e2] at p
    refine ⟨v, e1, tS.fst b p fun π1 H1 h1 d1 v1 b1 r1 k1 p1 => ?_⟩
    cases eg : augD op u d1 with
    | none => rw [eg] at p1; exact p1.elim
    | some d =>
      rw [eg] at p1
      exact ⟨π1, u, d1, d, r.keep k1, r1, eg, fun w rw_ => p1 π1 H1 _ Keep.refl (b1.set rw_)⟩
theorem get_D (hK : X.K = x.K) (hP : X.prog = x.P) (hw : X.w = x.w) (hu : X.A.units + 100 < cLine) : PGet X (rD x gxD) := by
  intro pins s σ H v u a b Q I ra rb q
  obtain ⟨π, h, d1, d2, d, w, r1, r2, e, q⟩ := q
  have fin : ∀ {w' : V}, RV x π H d w' → Q w' H := fun r => q π H _ Keep.refl w r
  cases d1 with
  | ref n =>
    obtain ⟨c, rfl, ec⟩ := rv_ref r1
    unfold gxD ixD at e
    dsimp only at e
    split at e
    · rename_i xs lk eh
      split at e
      · obtain rfl := rv_int r2
        obtain ⟨vs, l, at_⟩ := w.lst eh ec
        obtain ⟨w', e1, r⟩ := atI_rv l e
        cases ra
        obtain ⟨t, rfl⟩ := rb
        obtain ⟨its, rr, pl, hz⟩ := I.list (.inl at_.rd)
        obtain ⟨j, h1, h2, h3, h4, h5⟩ := atI_get e1
        obtain ⟨w2, ew, rw'⟩ := rr.get h2
        have hl := rr.length
        have hn := line63
        rename_i i
        have fin2 : EP X pins σ Q w2 s := ⟨w', H, I, rw', fin r⟩
        by_cases h0 : 0 ≤ i
        · have hj : i.toNat = j := by
            rw [seqIndex_of h0 h5] at h1
            exact Option.some.inj h1
          exact wpAny_getItem_list pl.isList h0 (by omega) (by rw [hj]; simpa using ew) fin2
        · have hj : (i + (its.toArray.size : Int)).toNat = j := by
            rw [seqIndex_neg (by omega) h4] at h1
            rw [List.size_toArray, ← hl]
            exact Option.some.inj h1
          exact wpAny_getItem_list_neg pl.isList (by omega) (by rw [List.size_toArray] <;> omega) (by omega) (by rw [hj]; simpa using ew) fin2
      · cases e
    · rename_i kvs lk eh
      split at e
      · rename_i hf
        cases ra
        obtain ⟨uo, dh, at_⟩ := w.dct eh ec
        exact dGetItem hK hP hw (by omega) I dh at_.rd hf r2 rb e fun s' v' u' I' rd ru => ⟨v', H, I', ru, fin rd⟩
      · cases e
    · cases e
  | _ => cases e
variable {o i : Expr} {mo mi : St → AH → R D} {op : Operator}
theorem s_augIx (hK : X.K = x.K) (hP : X.prog = x.P) (hw : X.w = x.w) (hu : X.A.units + 100 < cLine) (ho : PE X o (tE x W mo)) (hi : PE X i (tE x W mi)) (he : PE X e (tE x W m))
    (ha : ∀ ov iv new, augStore i ov iv new = (do holding [new, ov, iv] (setItem ov iv new); release [new, ov, iv] []; pure .next)) :
    PS X (.AugAssign (.Subscript o i pos') op e pos) (tS x W fun ρ h => RS.of ρ ((mo ρ h).bind fun x h => (mi ρ h).bind fun y h => (R.opt h (gxD h x y)).bind fun v h => (m ρ h).bind fun w h => (R.opt h (augD op v w)).bind fun z h => evS.putD h x y z) fun _ h => .nx ρ h) := by
  refine PS.imp (ps_augS ho hi (get_D hK hP hw hu) he (ip_D (x := x) op) (set_D hK hP hw hu) ha) fun E σ H ⟨π, ρ, h, b, p⟩ => ?_
  have p' := PostS.f (F := RV x) b p
  refine tF.fst b p' fun π1 H1 h1 d1 v1 b1 r1 k1 p1 => tF.fst b1 p1 fun π2 H2 h2 d2 v2 b2 r2 k2 p2 => ?_
  obtain ⟨d3, e3, p3⟩ := p2.opt
  refine ⟨π2, h2, d1, d2, d3, b2.wd, r1.keep k2, r2, e3, fun π3 H3 v3 k3 w3 r3 => ?_⟩
  have b3 : Beg x π3 ρ h2 σ H3 := b2.keep k3 w3
  refine tF.fst b3 (PostF.keep k3 p3) fun π4 H4 h4 d4 v4 b4 r4 k4 p4 => ?_
  obtain ⟨d5, e5, p5⟩ := p4.opt
  refine ⟨π4, d3, d4, d5, r3.keep k4, r4, e5, fun v5 r5 => ?_⟩
  rcases put_ok (h := h4) (d1 := d1) (d2 := d2) (d3 := d5) with e | ⟨h', e⟩
  · rw [e] at p5; exact p5.elim
  · rw [e] at p5
    exact ⟨π4, h4, d1, d2, d5, h', b4.wd, ((r1.keep k2).keep k3).keep k4, (r2.keep k3).keep k4, r5, e, fun H' k w => PostF.ok' (v := .non) p5 k w .non⟩
/-! ### several names at once -/
theorem s_par2 {i j : Nat} {y z : Str} {a b : Expr} {ms : St → AH → R (List D)} {px py pt pt2 : Pos} {kt k2 : Nat} (hc : X.calm = true) (hN : X.N.Nodup) (hi : X.N[i]? = some y) (hj : X.N[j]? = some z) (hij : i ≠ j)
    (hx : X.env.scope.names.lookup y = some .local) (hy : X.env.scope.names.lookup z = some .local) (ha : PA X [a, b] (tAs x W ms))
    (hw : swappedStores [.Tuple [.Name y px, .Name z py] kt pt] (.Tuple [a, b] k2 pt2) X.env = pure (some [y, z]))
    (hs : swapsWithSole [.Tuple [.Name y px, .Name z py] kt pt] (.Tuple [a, b] k2 pt2) pos.line X.env = pure false) :
    PS X (.Assign [.Tuple [.Name y px, .Name z py] kt pt] (.Tuple [a, b] k2 pt2) pos) (tS x W fun ρ h => RS.of ρ (ms ρ h) fun ds h => if ds.length = 2 then .nx (setS [i, j] ds ρ) h else .bad) := by
  refine PS.imp (ps_par hc hN hi hj hij hx hy ha hw hs) fun E σ H ⟨π, ρ, h, b, p⟩ => tS.fstA b p fun π1 H1 h1 ds vs b1 r1 k1 p1 => ?_
  split at p1
  · rename_i hl
    match ds, vs, r1, hl with
    | [d1, d2], _, .cons r1 (.cons r2 .nil), _ => exact ⟨_, _, rfl, p1 π1 H1 _ Keep.refl ((b1.set r1).set r2)⟩
  · exact p1.elim
theorem s_par3 {i j l : Nat} {y z u : Str} {a b c : Expr} {ms : St → AH → R (List D)} {px py pz pt pt2 : Pos} {kt k2 : Nat} (hc : X.calm = true) (hN : X.N.Nodup) (hi : X.N[i]? = some y) (hj : X.N[j]? = some z) (hl : X.N[l]? = some u) (hij : i ≠ j) (hil : i ≠ l) (hjl : j ≠ l)
    (hx : X.env.scope.names.lookup y = some .local) (hy : X.env.scope.names.lookup z = some .local) (hz : X.env.scope.names.lookup u = some .local) (ha : PA X [a, b, c] (tAs x W ms))
    (hw : swappedStores [.Tuple [.Name y px, .Name z py, .Name u pz] kt pt] (.Tuple [a, b, c] k2 pt2) X.env = pure (some [y, z, u]))
    (hs : swapsWithSole [.Tuple [.Name y px, .Name z py, .Name u pz] kt pt] (.Tuple [a, b, c] k2 pt2) pos.line X.env = pure false) :
    PS X (.Assign [.Tuple [.Name y px, .Name z py, .Name u pz] kt pt] (.Tuple [a, b, c] k2 pt2) pos) (tS x W fun ρ h => RS.of ρ (ms ρ h) fun ds h => if ds.length = 3 then .nx (setS [i, j, l] ds ρ) h else .bad) := by
  refine PS.imp (L2.ps_par3 hc hN hi hj hl hij hil hjl hx hy hz ha hw hs) fun E σ H ⟨π, ρ, h, b, p⟩ => tS.fstA b p fun π1 H1 h1 ds vs b1 r1 k1 p1 => ?_
  split at p1
  · rename_i hl
    match ds, vs, r1, hl with
    | [d1, d2, d3], _, .cons r1 (.cons r2 (.cons r3 .nil)), _ => exact ⟨_, _, _, rfl, p1 π1 H1 _ Keep.refl (((b1.set r1).set r2).set r3)⟩
  · exact p1.elim
/-- .. the plain way -/
theorem s_parT {es ts : List Expr} {is : List Nat} {ms : St → AH → R (List D)} {k k2 : Nat} {p1 p2 : Pos} (hK : X.K = x.K) (hc : X.calm = true) (hN : X.N.Nodup) (n : Names X ts is) (hlen : is.length ≤ sizeLine) (ha : PA X es (tAs x W ms))
    (hw : swappedStores [.Tuple ts k p1] (.Tuple es k2 p2) X.env = pure none) (hs : swapsWithSole [.Tuple ts k p1] (.Tuple es k2 p2) pos.line X.env = pure false) :
    PS X (.Assign [.Tuple ts k p1] (.Tuple es k2 p2) pos) (tS x W fun ρ h => RS.of ρ (ms ρ h) fun ds h => if ds.length = is.length then .nx (setS is ds ρ) h else .bad) := by
  refine PS.imp (ps_asg (pe_tup ha) (g_tup (x := x) hK hc hN n) hs hw rfl) fun E σ H ⟨π, ρ, h, b, p⟩ => tS.fstA b p fun π1 H1 h1 ds vs b1 r1 k1 p1 => ?_
  split at p1
  · rename_i hl
    refine ⟨by rw [← r1.length, hl]; exact hlen, fun q nq => ?_⟩
    have kq : Keep π1 H1 π1 (upd H1 q (.tup vs)) := Keep.upd nq
    refine ⟨π1, ρ, h1, .tup ds, setS is ds ρ, b1.keep kq (b1.wd.upd nq), .tup (.inl upd_same) (r1.keep kq), by simp [asgD, hl], fun σ' b' _ => ?_⟩
    exact p1 π1 _ σ' kq b'
  · exact p1.elim
end
end Rw
set_option Elab.async false
set_option linter.all false
set_option autoImplicit false
set_option maxRecDepth 100000
set_option maxHeartbeats 4000000
namespace Rw
open PySem PySem.Spec PyProof.Rows L2

/-! ## what is no longer told goes -/
section
variable {x : Gx} {π π' π1 π3 : Nm} {H H1 H3 : Hp} {h h' : AH}
mutual
theorem RV.flat : ∀ {d : D} {v : V}, d.flat = true → RV x π H d v → RV x π' H d v
  | .non, _, _, .non => .non
  | .bl _, _, _, .bl b => .bl b
  | .int _, _, _, .int i => .int i
  | .str _, _, _, .str z => .str z
  | .tup _, _, f, .tup t r => .tup t (RVs.flat (by simpa [D.flat] using f) r)
  | .ref _, _, f, _ => by simp [D.flat] at f
  | .fn _, _, _, .fn n => .fn n
theorem RVs.flat : ∀ {ds : List D} {vs : List V}, D.flats ds = true → RVs x π H ds vs → RVs x π' H ds vs
  | [], _, _, .nil => .nil
  | _ :: _, _, f, .cons r t => by
    simp only [D.flats, Bool.and_eq_true] at f
    exact .cons (RV.flat f.1 r) (RVs.flat f.2 t)
end
mutual
theorem RV.under : ∀ {d : D} {v : V}, RV x π H d v → d.under π.ns.length = true
  | .non, _, _ => rfl
  | .bl _, _, _ => rfl
  | .int _, _, _ => rfl
  | .str _, _, _ => rfl
  | .tup _, _, .tup _ r => by simpa [D.under] using RVs.under r
  | .ref _, _, .ref e => by simpa [D.under] using (List.getElem?_eq_some_iff.mp e).1
  | .fn _, _, _ => rfl
theorem RVs.under : ∀ {ds : List D} {vs : List V}, RVs x π H ds vs → D.unders π.ns.length ds = true
  | [], _, _ => rfl
  | _ :: _, _, .cons r t => by simp only [D.unders, Bool.and_eq_true]; exact ⟨RV.under r, RVs.under t⟩
end
mutual
/-- only the first n names count -/
theorem RV.few {n : Nat} (k : ∀ i a, i < n → π.ns[i]? = some a → π'.ns[i]? = some a) : ∀ {d : D} {v : V}, d.under n = true → RV x π H d v → RV x π' H d v
  | .non, _, _, .non => .non
  | .bl _, _, _, .bl b => .bl b
  | .int _, _, _, .int i => .int i
  | .str _, _, _, .str z => .str z
  | .tup _, _, f, .tup t r => .tup t (RVs.few k (by simpa [D.under] using f) r)
  | .ref _, _, f, .ref e => .ref (k _ _ (by simpa [D.under] using f) e)
  | .fn _, _, _, .fn n => .fn n
theorem RVs.few {n : Nat} (k : ∀ i a, i < n → π.ns[i]? = some a → π'.ns[i]? = some a) : ∀ {ds : List D} {vs : List V}, D.unders n ds = true → RVs x π H ds vs → RVs x π' H ds vs
  | [], _, _, .nil => .nil
  | _ :: _, _, f, .cons r t => by
    simp only [D.unders, Bool.and_eq_true] at f
    exact .cons (RV.few k f.1 r) (RVs.few k f.2 t)
end

theorem unders_all : ∀ {n : Nat} {ds : List D}, D.unders n ds = true → ∀ d ∈ ds, d.under n = true
  | _, [], _, _, h => by cases h
  | n, e :: ds, u, d, h => by
    simp only [D.unders, Bool.and_eq_true] at u
    rcases List.mem_cons.mp h with rfl | h
    · exact u.1
    · exact unders_all u.2 d h
theorem flats_all : ∀ {ds : List D}, D.flats ds = true → ∀ d ∈ ds, d.flat = true
  | [], _, _, h => by cases h
  | e :: ds, u, d, h => by
    simp only [D.flats, Bool.and_eq_true] at u
    rcases List.mem_cons.mp h with rfl | h
    · exact u.1
    · exact flats_all u.2 d h
theorem Paired.mapM' {α β : Type} {F G : α → β → Prop} : ∀ {l : List α} {r : List β}, Paired F l r → (∀ a ∈ l, ∀ b, F a b → G a b) → Paired G l r
  | _, _, .nil, _ => .nil
  | a :: l, b :: r, .cons p q, h => .cons (h a List.mem_cons_self b p) (Paired.mapM' q fun a ha b => h a (List.mem_cons_of_mem _ ha) b)
theorem RVs.mapV : ∀ {ds : List D} {vs : List V}, (∀ d v, d ∈ ds → RV x π H d v → RV x π' H d v) → RVs x π H ds vs → RVs x π' H ds vs
  | [], _, _, .nil => .nil
  | _ :: _, _, h, .cons r t => .cons (h _ _ List.mem_cons_self r) (RVs.mapV (fun d v hd => h d v (List.mem_cons_of_mem _ hd)) t)
/-- an object's things, moved over -/
theorem RO.move {o : AO} {a : Addr} (r : RO x π H o a) (hv : ∀ d v, (match o with | .lst xs _ => d ∈ xs | .dct kvs _ => d ∈ kvs.map (·.1) ∨ d ∈ kvs.map (·.2)) → RV x π H d v → RV x π' H d v) : RO x π' H o a := by
  cases r with
  | lst r q =>
    exact .lst (RVs.mapV hv r) q
  | dct r q =>
    refine .dct ?_ q
    rename_i kvs lk u
    replace hv : ∀ d v, (d ∈ kvs.map (·.1) ∨ d ∈ kvs.map (·.2)) → RV x π H d v → RV x π' H d v := hv
    cases r with
    | flat dk nd => exact .flat (Paired.mapM' dk fun p hp q z => ⟨z.1, hv _ _ (.inr (List.mem_map.mpr ⟨p, hp, rfl⟩)) z.2⟩) nd
    | tups dt nd ne => exact .tups (Paired.mapM' dt fun p hp q ⟨z1, z2, v, z3, z4⟩ => ⟨z1, hv _ _ (.inl (List.mem_map.mpr ⟨p, hp, rfl⟩)) z2, v, z3, hv _ _ (.inr (List.mem_map.mpr ⟨p, hp, rfl⟩)) z4⟩) nd ne
theorem RO.flat' {o : AO} {a : Addr} (f : o.flat = true) (r : RO x π H o a) : RO x π' H o a := by
  refine r.move fun d v hd rv => ?_
  cases o with
  | lst xs lk => exact rv.flat (flats_all f d hd)
  | dct kvs lk =>
    simp only [AO.flat, Bool.and_eq_true] at f
    rcases hd with hd | hd
    · exact rv.flat (flats_all f.1 d hd)
    · exact rv.flat (flats_all f.2 d hd)
/-- things that an object of the old part has are told by the old names -/
theorem RO.refs {o : AO} {a : Addr} (r : RO x π H o a) : ∀ d, (match o with | .lst xs _ => d ∈ xs | .dct kvs _ => d ∈ kvs.map (·.1) ∨ d ∈ kvs.map (·.2)) → d.under π.ns.length = true := by
  intro d hd
  cases r with
  | lst r q =>
    rename_i xs lk vs
    replace hd : d ∈ xs := hd
    exact unders_all r.under d hd
  | dct r q =>
    rename_i kvs lk u
    replace hd : d ∈ kvs.map (·.1) ∨ d ∈ kvs.map (·.2) := hd
    cases r with
    | flat dk nd =>
      clear q nd
      induction dk with
      | nil => rcases hd with hd | hd <;> cases hd
      | cons p q ih =>
        rcases hd with hd | hd
        · rcases List.mem_cons.mp hd with rfl | hd
          · rename_i a0 b0 _ _
            have := p.1
            obtain ⟨k, vv⟩ := a0
            cases k <;> simp [keyOf] at this <;> rfl
          · exact ih (.inl hd)
        · rcases List.mem_cons.mp hd with rfl | hd
          · exact p.2.under
          · exact ih (.inr hd)
    | tups dt nd ne =>
      clear q nd ne
      induction dt with
      | nil => rcases hd with hd | hd <;> cases hd
      | cons p q ih =>
        obtain ⟨z1, z2, v, z3, z4⟩ := p
        rcases hd with hd | hd
        · rcases List.mem_cons.mp hd with rfl | hd
          · exact z2.under
          · exact ih (.inl hd)
        · rcases List.mem_cons.mp hd with rfl | hd
          · exact z4.under
          · exact ih (.inr hd)
theorem olds_get : ∀ {h h' : AH}, olds h h' = true → h.length ≤ h'.length ∧ ∀ (i : Nat) (o o' : AO), h[i]? = some o → h'[i]? = some o' → o'.flat = true ∨ o = o'
  | [], h', _ => ⟨Nat.zero_le _, fun i o o' e => by simp at e⟩
  | o :: h, [], e => by simp [olds] at e
  | o :: h, o' :: h', e => by
    simp only [olds, Bool.and_eq_true, Bool.or_eq_true, decide_eq_true_eq] at e
    obtain ⟨e1, e2⟩ := e
    obtain ⟨l, g⟩ := olds_get e2
    refine ⟨by simpa using l, fun i u u' q q' => ?_⟩
    cases i with
    | zero =>
      simp at q q'
      subst q; subst q'
      exact e1
    | succ i => exact g i u u' (by simpa using q) (by simpa using q')
/-- the old part, and some flat things that were made anew -/
theorem Wd.gc {ks : List Nat} {os : List AO} (W1 : Wd x π1 h H1) (k : Keep π1 H1 π3 H3) (W3 : Wd x π3 h' H3) (ho : olds h h' = true) (hn : ks.Nodup) (hk : ∀ r ∈ ks, h.length ≤ r) (hm : ks.mapM (fun r => h'[r]?) = some os) (hf : ∀ o ∈ os, o.flat = true) :
    ∃ π4, Keep π1 H1 π4 H3 ∧ Wd x π4 (h'.take h.length ++ os) H3 ∧ (∀ i a, i < h.length → π3.ns[i]? = some a → π4.ns[i]? = some a) ∧ ∀ r ∈ ks, ∀ a, π3.ns[r]? = some a → π4.ns[h.length + ks.idxOf r]? = some a := by
  obtain ⟨hl, hg⟩ := olds_get ho
  have l1 := W1.len
  have l3 := W3.len
  have hle : π1.ns.length ≤ π3.ns.length := by omega
  have pm := mapM_some hm
  have hos : os.length = ks.length := (Paired.len pm).symm
  have hin : ∀ r ∈ ks, r < π3.ns.length := fun r hr => by
    obtain ⟨i, hi⟩ := List.getElem?_of_mem hr
    obtain ⟨o, _, e⟩ := Paired.at pm hi
    have := (List.getElem?_eq_some_iff.mp e).1
    omega
  let as : List Addr := ks.map fun r => π3.ns.getD r 0
  have has : ∀ i r, ks[i]? = some r → as[i]? = π3.ns[r]? := fun i r e => by
    have hr := hin r (List.mem_of_getElem? e)
    show (ks.map _)[i]? = _
    rw [List.getElem?_map, e, List.getElem?_eq_getElem hr]
    simp [List.getD_eq_getElem?_getD, List.getElem?_eq_getElem hr]
  have hold : ∀ i a, π1.ns[i]? = some a → π3.ns[i]? = some a := k.pre
  have hlow : ∀ i, i < π1.ns.length → π1.ns[i]? = π3.ns[i]? := fun i hi => by
    have := hold i _ (List.getElem?_eq_getElem hi)
    rw [this, List.getElem?_eq_getElem hi]
  refine ⟨⟨π1.ns ++ as, π1.fr⟩, ⟨⟨fun n a e => ?_, k.tup, k.frz⟩, rfl⟩, ⟨?_, ?_, fun p hp => ?_, fun n o a e1 e2 => ?_⟩, fun i a hi e => ?_, fun r hr a e => ?_⟩
  · show (π1.ns ++ as)[n]? = some a
    rw [List.getElem?_append_left (List.getElem?_eq_some_iff.mp e).1]; exact e
  · show (π1.ns ++ as).length = _
    simp [as, hos, l1]; omega
  · show (π1.ns ++ as).Nodup
    rw [List.nodup_append]
    refine ⟨W1.nd, ?_, fun a ha b hb z => ?_⟩
    · show (ks.map fun r => π3.ns.getD r 0).Nodup
      have : ∀ (l : List Nat), l.Nodup → (∀ r ∈ l, r < π3.ns.length) → (l.map fun r => π3.ns.getD r 0).Nodup := by
        intro l
        induction l with
        | nil => intro _ _; exact List.nodup_nil
        | cons r l ih =>
          intro nd hi
          rw [List.map_cons, List.nodup_cons]
          rw [List.nodup_cons] at nd
          refine ⟨fun m => ?_, ih nd.2 fun q hq => hi q (List.mem_cons_of_mem _ hq)⟩
          obtain ⟨q, hq, e⟩ := List.mem_map.mp m
          have h1 := hi r List.mem_cons_self
          have h2 := hi q (List.mem_cons_of_mem _ hq)
          simp only [List.getD_eq_getElem?_getD, List.getElem?_eq_getElem h1, List.getElem?_eq_getElem h2, Option.getD_some] at e
          have := (List.getElem_inj W3.nd).mp e
          exact nd.1 (this ▸ hq)
      exact this ks hn hin
    · subst z
      obtain ⟨i, hi⟩ := List.getElem?_of_mem ha
      obtain ⟨j, hj⟩ := List.getElem?_of_mem hb
      have jl : j < ks.length := by have := (List.getElem?_eq_some_iff.mp hj).1; simpa [as] using this
      have hr := has j _ (List.getElem?_eq_getElem jl)
      rw [hj] at hr
      have := W3.idx (hold i _ hi) hr.symm
      have h1 := hk _ (List.getElem_mem jl)
      have h2 := (List.getElem?_eq_some_iff.mp hi).1
      omega
  · have := W3.fr p (by rw [k.fr]; exact hp)
    refine ⟨fun m => this.1 ?_, this.2⟩
    rcases List.mem_append.mp (show p.1 ∈ π1.ns ++ as from m) with m | m
    · obtain ⟨i, hi⟩ := List.getElem?_of_mem m
      exact List.mem_of_getElem? (hold i _ hi)
    · obtain ⟨i, hi⟩ := List.getElem?_of_mem m
      have il : i < ks.length := by have := (List.getElem?_eq_some_iff.mp hi).1; simpa [as] using this
      have hr := has i _ (List.getElem?_eq_getElem il)
      rw [hi] at hr
      exact List.mem_of_getElem? hr.symm
  · replace e2 : (π1.ns ++ as)[n]? = some a := e2
    by_cases hn : n < h.length
    · have hn1 : n < π1.ns.length := by omega
      rw [List.getElem?_append_left hn1] at e2
      rw [List.getElem?_append_left (by simp; omega), List.getElem?_take, if_pos hn] at e1
      have r3 := W3.obj n o a e1 (hold n a e2)
      rcases hg n _ o (List.getElem?_eq_getElem hn) e1 with f | f
      · exact r3.flat' f
      · have r1 := W1.obj n _ a (List.getElem?_eq_getElem hn) e2
        rw [f] at r1
        have hu := r1.refs
        refine r3.move fun d v hd rv => rv.few (n := π1.ns.length) (fun i a hi e => ?_) (hu d hd)
        show (π1.ns ++ as)[i]? = some a
        rw [List.getElem?_append_left hi, hlow i hi]; exact e
    · have hn1 : ¬ n < π1.ns.length := by omega
      rw [List.getElem?_append_right (by omega)] at e2
      have ht : (h'.take h.length).length = h.length := by simp; omega
      rw [List.getElem?_append_right (by omega), ht] at e1
      rw [l1] at e2
      obtain ⟨r, er, e3⟩ := Paired.at' pm e1
      have e4 := has _ r er
      rw [e2] at e4
      exact (W3.obj r o a e3 e4.symm).flat' (hf o (List.mem_of_getElem? e1))
  · show (π1.ns ++ as)[i]? = some a
    have hi1 : i < π1.ns.length := by omega
    rw [List.getElem?_append_left hi1, hlow i hi1]; exact e
  · show (π1.ns ++ as)[h.length + ks.idxOf r]? = some a
    rw [List.getElem?_append_right (by omega)]
    have e5 : h.length + ks.idxOf r - π1.ns.length = ks.idxOf r := by omega
    have il : ks.idxOf r < ks.length := List.idxOf_lt_length_of_mem hr
    rw [e5, has _ r (by rw [List.getElem?_eq_getElem il]; simp)]
    exact e
/-! ### behind a call -/
theorem PostF.ret {W : L2.WX} {σ : L2.St} {Q : VK} {r : R D} (W1 : Wd x π h H) (p : PostF x (RV x) W π H (R.ret h r) σ Q) : PostF x (RV x) W π H r σ Q := by
  cases r with
  | ok d h' =>
    intro π' H' v k w rv
    unfold R.ret at p
    dsimp only at p
    split at p
    · rename_i ho
      split at p
      · rename_i hf
        obtain ⟨π4, k4, w4, _, _⟩ := W1.gc (ks := []) (os := []) k w ho List.nodup_nil (fun r hr => by cases hr) rfl (fun o hr => by cases hr)
        rw [List.append_nil] at w4
        exact p π4 H' v k4 w4 (rv.flat hf)
      · split at p
        · rename_i n _
          split at p
          · rename_i o eo
            split at p
            · rename_i hc
              simp only [Bool.and_eq_true, decide_eq_true_eq] at hc
              obtain ⟨π4, k4, w4, _, q4⟩ := W1.gc (ks := [n]) (os := [o]) k w ho (by simp) (fun r hr => by rw [List.mem_singleton.mp hr]; exact hc.2) (by simp [eo]) (fun o' hr => by rw [List.mem_singleton.mp hr]; exact hc.1)
              obtain ⟨a, rfl, ea⟩ := rv_ref rv
              have := q4 n (by simp) a ea
              simp at this
              exact p π4 H' _ k4 w4 (.ref this)
            · exact p π' H' v k w rv
          · exact p π' H' v k w rv
        · exact p π' H' v k w rv
    · exact p π' H' v k w rv
  | ex c d h' =>
    intro π' H' cls dd k w rx
    unfold R.ret at p
    dsimp only at p
    split at p
    · rename_i hc
      simp only [Bool.and_eq_true] at hc
      obtain ⟨π4, k4, w4, _, _⟩ := W1.gc (ks := []) (os := []) k w hc.1 List.nodup_nil (fun r hr => by cases hr) rfl (fun o hr => by cases hr)
      rw [List.append_nil] at w4
      refine p π4 H' cls dd k4 w4 ⟨rx.1, ?_⟩
      have := rx.2
      split
      · rename_i e; rw [e] at this; exact this
      · rename_i fl e
        rw [e] at this
        obtain ⟨d1, v1, z1, z2, z3⟩ := this
        exact ⟨d1, v1, z1, z2, z3.flat hc.2⟩
    · exact p π' H' cls dd k w rx
  | bad => exact p
/-! ### behind a turn -/
theorem liveR_ok {n : Nat} : ∀ {ρ : St} {acc : List Nat}, acc.Nodup → (∀ r ∈ acc, n ≤ r) → (liveR n ρ acc).Nodup ∧ ∀ r ∈ liveR n ρ acc, n ≤ r
  | [], acc, h1, h2 => ⟨h1, h2⟩
  | some (.ref r) :: ρ, acc, h1, h2 => by
    unfold liveR
    split
    · rename_i hc
      simp only [Bool.and_eq_true, decide_eq_true_eq, Bool.not_eq_true', List.contains_eq_mem, decide_eq_false_iff_not] at hc
      refine liveR_ok ?_ fun q hq => ?_
      · rw [List.nodup_append]
        exact ⟨h1, by simp, fun a ha b hb z => hc.2 (by rw [List.mem_singleton.mp hb] at z; exact z ▸ ha)⟩
      · rcases List.mem_append.mp hq with hq | hq
        · exact h2 q hq
        · rw [List.mem_singleton.mp hq]; exact hc.1
    · exact liveR_ok h1 h2
  | none :: ρ, acc, h1, h2 => by unfold liveR; exact liveR_ok h1 h2
  | some .non :: ρ, acc, h1, h2 => by unfold liveR; exact liveR_ok h1 h2
  | some (.bl _) :: ρ, acc, h1, h2 => by unfold liveR; exact liveR_ok h1 h2
  | some (.int _) :: ρ, acc, h1, h2 => by unfold liveR; exact liveR_ok h1 h2
  | some (.str _) :: ρ, acc, h1, h2 => by unfold liveR; exact liveR_ok h1 h2
  | some (.tup _) :: ρ, acc, h1, h2 => by unfold liveR; exact liveR_ok h1 h2
  | some (.fn _) :: ρ, acc, h1, h2 => by unfold liveR; exact liveR_ok h1 h2
theorem Beg.gc {ρ : St} {σ : L2.St} (kill : List Nat) (W1 : Wd x π1 h H1) (k : Keep π1 H1 π3 H3) (b : Beg x π3 ρ h' σ H3) : ∃ π4, Keep π1 H1 π4 H3 ∧ Beg x π4 (gcS h h' kill ρ).1 (gcS h h' kill ρ).2 σ H3 := by
  have st1 : RSt x π3 H3 (wipeS ρ kill) σ := b.st.wipe' kill
  unfold gcS
  dsimp only
  split
  · rename_i ho
    split
    · rename_i os hm
      split
      · rename_i hf
        obtain ⟨nd, ge⟩ := liveR_ok (n := h.length) (ρ := wipeS ρ kill) (acc := []) List.nodup_nil (fun r hr => by cases hr)
        obtain ⟨π4, k4, w4, lo, hi⟩ := W1.gc k b.wd ho nd ge hm (fun o hr => List.all_eq_true.mp hf o hr)
        refine ⟨π4, k4, ⟨⟨by simp [renS, st1.1], fun i d e => ?_⟩, w4⟩⟩
        simp only [renS, List.getElem?_map] at e
        cases eo : (wipeS ρ kill)[i]? with
        | none => rw [eo] at e; cases e
        | some od =>
          cases od with
          | none => rw [eo] at e; cases e
          | some d0 =>
            rw [eo] at e
            have e' : renD h.length (liveR h.length (wipeS ρ kill) []) d0 = some d := by simpa using e
            obtain ⟨v, hv, rv⟩ := st1.2 i d0 eo
            refine ⟨v, hv, ?_⟩
            unfold renD at e'
            split at e'
            · cases e'
              rename_i hu
              exact rv.few (n := h.length) lo hu
            · split at e'
              · split at e'
                · cases e'
                  rename_i r _ hc
                  obtain ⟨a, rfl, ea⟩ := rv_ref rv
                  exact .ref (hi r (by simpa using hc) a ea)
                · cases e'
              · cases e'
      · exact ⟨π3, k, st1, b.wd⟩
    · exact ⟨π3, k, st1, b.wd⟩
  · exact ⟨π3, k, st1, b.wd⟩
end
end Rw
set_option Elab.async false
set_option linter.all false
set_option autoImplicit false
set_option maxRecDepth 100000
set_option maxHeartbeats 4000000
namespace Rw
open PySem PySem.Spec PyProof.Rows L2

/-! ## what is walked -/
/-- old names stand, more may be kept -/
structure KeepX (π : Nm) (H : Hp) (π' : Nm) (H' : Hp) : Prop extends Keep0 π H π' H' where
  fr : ∀ p ∈ π.fr, p ∈ π'.fr
structure ItOk (x : Gx) (J : It) (π0 : Nm) (H0 : Hp) (h0 : AH) (ds : List D) (ws : List Nat) : Prop where
  go : ∀ (i : Nat) (π : Nm) (H : Hp) (h : AH), i < ds.length → Keep π0 H0 π H → Wd x π h H → sameH h0 ws h = true → J.go i H
  stop : ∀ (π : Nm) (H : Hp) (h : AH), Keep π0 H0 π H → Wd x π h H → sameH h0 ws h = true → J.stop ds.length H
  yld : ∀ (i : Nat) (d : D) (π : Nm) (H : Hp) (h : AH) (v : V) (H' : Hp), ds[i]? = some d → Keep π0 H0 π H → Wd x π h H → sameH h0 ws h = true → J.yld i H v H' → Keep π H π H' ∧ Wd x π h H' ∧ RV x π H' d v ∧ ∀ a u, H a = some u → H' a = some u
/-- nothing to lock, or a dict is locked -/
def Locked (x : Gx) (NF : Addr → Prop) (π : Nm) (h : AH) (ws : List Nat) (H H' : Hp) : Prop :=
  (lk1 h ws = none ∧ H = H') ∨ ∃ n a kvs u od, lk1 h ws = some (n, kvs) ∧ h[n]? = some (.dct kvs false) ∧ π.ns[n]? = some a ∧ DH x π H a kvs u ∧ H a = some u ∧ H' = upd H a (.frz od u) ∧ NF a
theorem lock_none {h : AH} {ws : List Nat} (e : lk1 h ws = none) : lockH ws h = h := by unfold lockH; rw [e]
theorem lk1_dct {h : AH} {n : Nat} {kvs : List (D × D)} (e : h[n]? = some (.dct kvs false)) : lk1 h [n] = some (n, kvs) := by simp only [lk1, e]
/-- NF: what was not locked ahead -/
def PostI (x : Gx) (NF : Addr → Prop) (W : L2.WX) (π : Nm) (H : Hp) (r : R (List D × List Nat)) (σ : L2.St) (Q : It → Hp → Prop) : Prop :=
  match r with
  | .ok dw h' => ∀ (π' : Nm) (G1 H' : Hp) (J : It), KeepX π H π' G1 → Wd x π' h' G1 → Locked x NF π' h' dw.2 G1 H' → ItOk x J π' H' (lockH dw.2 h') dw.1 dw.2 → Q J H'
  | .ex c p h' => ∀ (π' : Nm) (H' : Hp) (cls : Value) (d : Option Addr), Keep π H π' H' → Wd x π' h' H' → RX x π' H' c p cls d → W cls d σ H'
  | .bad => False
def tI (x : Gx) (NF : Addr → Prop) (W : L2.WX) (m : St → AH → R (List D × List Nat)) : TI := fun σ H Q => ∃ π ρ h, Beg x π ρ h σ H ∧ PostI x NF W π H (m ρ h) σ Q
theorem PI.imp {X : Cx} {tg e : Expr} {t t' : TI} (p : PI X tg e t) (h : ∀ σ H Q, t' σ H Q → t σ H Q) : PI X tg e t' := ⟨fun pins s σ H R I q => p.run pins s σ H R I (h σ H R q)⟩
theorem PI.of {X : Cx} {tg e : Expr} {t : TI} (h : ∀ σ H Q, t σ H Q → ∃ t', PI X tg e t' ∧ t' σ H Q) : PI X tg e t := ⟨fun pins s σ H R I q => by
  obtain ⟨t', p, q'⟩ := h σ H R q
  exact p.run pins s σ H R I q'⟩
/-- never frozen where the frame began -/
def NFx (X : Cx) (d : Addr) : Prop := ∀ o u, X.H_0 d ≠ some (.frz o u)
section
variable {x : Gx} {X : Cx} {W : L2.WX} {NF : Addr → Prop} {pos p : Pos} {tg : Expr}
theorem KeepX.trans' {π π' π'' : Nm} {H H' H'' : Hp} (a : Keep π H π' H') (b : KeepX π' H' π'' H'') : KeepX π H π'' H'' := ⟨⟨fun n p h => b.pre n p (a.pre n p h), fun n p h => b.tup n p (a.tup n p h), fun n p u h => b.frz n p u (a.frz n p u h)⟩, fun p hp => b.fr p (by rw [a.fr]; exact hp)⟩
theorem Keep.toX {π π' : Nm} {H H' : Hp} (k : Keep π H π' H') : KeepX π H π' H' := ⟨k.toKeep0, fun p hp => by rw [k.fr]; exact hp⟩
theorem PostI.keep {π π' : Nm} {H H' : Hp} {σ : L2.St} {Q : It → Hp → Prop} {r : R (List D × List Nat)} (k : Keep π H π' H') (p : PostI x NF W π H r σ Q) : PostI x NF W π' H' r σ Q := by
  cases r with
  | ok d h' => exact fun π2 H2 H3 J k2 w i nf => p π2 H2 H3 J (KeepX.trans' k k2) w i nf
  | ex c d h' => exact fun π2 H2 v d k2 w q => p π2 H2 v d (k.trans k2) w q
  | bad => exact p
theorem tI.fst {α : Type} {F : Nm → Hp → α → V → Prop} {m : St → AH → R α} {f : α → AH → R (List D × List Nat)} {π : Nm} {ρ : St} {h : AH} {σ : L2.St} {H : Hp} {Q : It → Hp → Prop} {Q' : VK} (b : Beg x π ρ h σ H) (p : PostI x NF W π H ((m ρ h).bind f) σ Q)
    (hq : ∀ (π1 : Nm) (H1 : Hp) (h1 : AH) (d : α) (v : V), Beg x π1 ρ h1 σ H1 → F π1 H1 d v → Keep π H π1 H1 → PostI x NF W π1 H1 (f d h1) σ Q → Q' v H1) : tF x F W m σ H Q' := by
  refine ⟨π, ρ, h, b, ?_⟩
  cases e : m ρ h with
  | ok d h' =>
    rw [e] at p
    exact fun π1 H1 v k w q => hq π1 H1 h' d v (b.keep k w) q k (PostI.keep k p)
  | ex c d h' =>
    rw [e] at p
    exact p
  | bad => rw [e] at p; exact p
theorem range_get {lo : Int} {n i : Nat} {c : Int} {d : D} (e : (rangeD lo n c)[i]? = some d) : i < n ∧ d = .int (lo + (i : Int) * c) := by
  unfold rangeD at e
  rw [List.getElem?_map] at e
  by_cases h : i < n
  · rw [List.getElem?_range h] at e
    exact ⟨h, by simpa using e.symm⟩
  · rw [List.getElem?_eq_none (by simp; omega)] at e
    cases e
theorem range_len {lo : Int} {n : Nat} {c : Int} : (rangeD lo n c).length = n := by simp [rangeD]
theorem it_range {lo : Int} {n : Nat} {π0 : Nm} {H0 : Hp} {h0 : AH} : ItOk x (Itr lo n) π0 H0 h0 (rangeD lo n 1) [] :=
  ⟨fun i π H h hi _ _ _ => by rw [range_len] at hi; exact hi, fun π H h _ _ _ => by rw [range_len]; exact Nat.le_refl n, fun i d π H h v H' e _ w _ y => by
    obtain ⟨e1, e2⟩ := y
    obtain ⟨hi, rfl⟩ := range_get e
    subst e1; subst e2
    refine ⟨Keep.refl, w, ?_, fun _ _ e => e⟩
    rw [Int.mul_one]
    exact .int _⟩
theorem it_rangeC {lo c : Int} {n : Nat} {π0 : Nm} {H0 : Hp} {h0 : AH} : ItOk x (Itc lo c n) π0 H0 h0 (rangeD lo n c) [] :=
  ⟨fun i π H h hi _ _ _ => by rw [range_len] at hi; exact hi, fun π H h _ _ _ => by rw [range_len]; exact Nat.le_refl n, fun i d π H h v H' e _ w _ y => by
    obtain ⟨e1, e2⟩ := y
    obtain ⟨hi, rfl⟩ := range_get e
    subst e1; subst e2
    exact ⟨Keep.refl, w, .int _, fun _ _ e => e⟩⟩
theorem lock_nil {h : AH} : lockH [] h = h := lock_none rfl
theorem PostI.ok0 {π : Nm} {H : Hp} {σ : L2.St} {Q : It → Hp → Prop} {ds : List D} {h : AH} {J : It} (p : PostI x NF W π H (.ok (ds, []) h) σ Q) (w : Wd x π h H) (i : ItOk x J π H h ds []) : Q J H :=
  p π H H J Keep.refl.toX w (.inl ⟨rfl, rfl⟩) (by rw [lock_nil]; exact i)
variable {a b c : Expr} {ma mb mc : St → AH → R D}
def mRng1 (ma : St → AH → R D) : St → AH → R (List D × List Nat) := fun ρ h => (ma ρ h).bind fun x h => match x with
      | .int j => if small62 j then .ok (rangeD 0 j.toNat 1, []) h else .bad
      | _ => .bad
theorem i_rng1 (hg : Gl X "range") (hm : X.mg "range" = none) (hp : plainE a = true) (ha : PE X a (tE x W ma)) : PI X tg (.Call (.Name "range" p) [a] [] pos) (tI x NF W (mRng1 ma)) := by
  refine PI.imp (pi_range1 hg hm (pa_cons ha pa_nil (star_of hp)) (star_of hp)) fun σ H Q ⟨π, ρ, h, b0, q⟩ => ?_
  refine tI.fst b0 q fun π1 H1 h1 d v b1 r k q1 => ?_
  cases d with
  | int j =>
    obtain rfl := rv_int r
    replace q1 : PostI x NF W π1 H1 (if small62 j then .ok (rangeD 0 j.toNat 1, []) h1 else .bad) σ Q := q1
    split at q1
    · rename_i hz
      simp only [small62, Bool.and_eq_true, decide_eq_true_eq] at hz
      exact ⟨j, rfl, hz.1, hz.2, q1.ok0 b1.wd it_range⟩
    · exact q1.elim
  | _ => exact q1.elim
def mRng2 (ma mb : St → AH → R D) : St → AH → R (List D × List Nat) := fun ρ h => (ma ρ h).bind fun x h => (mb ρ h).bind fun y h => match x, y with
      | .int i, .int j => if small62 i && small62 j then .ok (rangeD i (j - i).toNat 1, []) h else .bad
      | _, _ => .bad
theorem i_rng2 (hg : Gl X "range") (hm : X.mg "range" = none) (hp : plainE a = true) (hp2 : plainE b = true) (ha : PE X a (tE x W ma)) (hb : PE X b (tE x W mb)) : PI X tg (.Call (.Name "range" p) [a, b] [] pos) (tI x NF W (mRng2 ma mb)) := by
  have e2 : starEach [b] X.env = [(false, eval b X.env)] := star_of hp2
  refine PI.imp (pi_range2 hg hm (pa_cons ha (pa_cons hb pa_nil (star_of hp2)) (star_of hp)) (by rw [star_of hp, e2]) e2) fun σ H Q ⟨π, ρ, h, b0, q⟩ => ?_
  refine tI.fst b0 q fun π1 H1 h1 d v b1 r k q1 => tI.fst b1 q1 fun π2 H2 h2 d2 v2 b2 r2 k2 q2 => ?_
  cases d with
  | int i =>
    cases d2 with
    | int j =>
      obtain rfl := rv_int r
      obtain rfl := rv_int r2
      replace q2 : PostI x NF W π2 H2 (if small62 i && small62 j then .ok (rangeD i (j - i).toNat 1, []) h2 else .bad) σ Q := q2
      split at q2
      · rename_i hz
        simp only [small62, Bool.and_eq_true, decide_eq_true_eq] at hz
        exact ⟨i, j, rfl, ⟨hz.1.1, hz.1.2, hz.2.1, hz.2.2⟩, q2.ok0 b2.wd it_range⟩
      · exact q2.elim
    | _ => exact q2.elim
  | _ => cases d2 <;> exact q2.elim
def mRng3 (ma mb mc : St → AH → R D) : St → AH → R (List D × List Nat) := fun ρ h => (ma ρ h).bind fun x h => (mb ρ h).bind fun y h => (mc ρ h).bind fun z h => match x, y, z with
      | .int i, .int j, .int (-1) => if small62 i && small62 j then .ok (rangeD i (i - j).toNat (-1), []) h else .bad
      | _, _, _ => .bad
theorem i_rng3 (hg : Gl X "range") (hm : X.mg "range" = none) (hp : plainE a = true) (hp2 : plainE b = true) (hp3 : plainE c = true) (ha : PE X a (tE x W ma)) (hb : PE X b (tE x W mb)) (hc : PE X c (tE x W mc)) : PI X tg (.Call (.Name "range" p) [a, b, c] [] pos) (tI x NF W (mRng3 ma mb mc)) := by
  refine PI.imp (pi_range3 hg hm (pa_cons ha (pa_cons hb (pa_cons hc pa_nil (star_of hp3)) (star_of hp2)) (star_of hp)) (star_of hp) (no_star (by simp [hp2, hp3]))) fun σ H Q ⟨π, ρ, h, b0, q⟩ => ?_
  refine tI.fst b0 q fun π1 H1 h1 d v b1 r k q1 => tI.fst b1 q1 fun π2 H2 h2 d2 v2 b2 r2 k2 q2 => tI.fst b2 q2 fun π3 H3 h3 d3 v3 b3 r3 k3 q3 => ?_
  split at q3
  · rename_i i j
    obtain rfl := rv_int r
    obtain rfl := rv_int r2
    obtain rfl := rv_int r3
    split at q3
    · rename_i hz
      simp only [small62, Bool.and_eq_true, decide_eq_true_eq] at hz
      exact ⟨i, j, -1, (i - j).toNat, rfl, RgC.neg hz.1.1 hz.1.2 hz.2.1 hz.2.2, q3.ok0 b3.wd it_rangeC⟩
    · exact q3.elim
  · exact q3.elim
end
end Rw
set_option Elab.async false
set_option linter.all false
set_option autoImplicit false
set_option maxRecDepth 100000
set_option maxHeartbeats 4000000
namespace Rw
open PySem PySem.Spec PyProof.Rows L2

/-! ## lists, tuples, keys -/
section
variable {x : Gx} {X : Cx} {W : L2.WX} {NF : Addr → Prop} {pos p : Pos} {tg : Expr}
variable {π0 : Nm} {H0 : Hp} {h0 : AH} {ds : List D} {a : Addr}
theorem same1 {n : Nat} {h h' : AH} (e : sameH h [n] h' = true) : h'[n]? = h[n]? := by
  simp only [sameH, List.all_cons, List.all_nil, Bool.and_true, decide_eq_true_eq] at e
  exact e
theorem it_seqL {n : Nat} {lk : Bool} (K : PySem.W.Frag) (ea : π0.ns[n]? = some a) (eh : h0[n]? = some (.lst ds lk)) : ItOk x (Itl K a) π0 H0 h0 ds [n] := by
  have look : ∀ {π : Nm} {H : Hp} {h : AH}, Keep π0 H0 π H → Wd x π h H → sameH h0 [n] h = true → ∃ vs, RVs x π H ds vs ∧ SqL K H a vs := fun k w s => by
    have e := same1 s
    rw [eh] at e
    obtain ⟨vs, l, q⟩ := w.lst e (k.pre _ _ ea)
    exact ⟨vs, l, .inl q.rd⟩
  refine ⟨fun i π H h hi k w s => ?_, fun π H h k w s => ?_, fun i d π H h v H' e k w s y => ?_⟩
  · obtain ⟨vs, l, q⟩ := look k w s
    obtain ⟨v, ev, _⟩ := l.get (List.getElem?_eq_getElem hi)
    exact ⟨vs, v, q, ev⟩
  · obtain ⟨vs, l, q⟩ := look k w s
    exact ⟨vs, q, Nat.le_of_eq l.length.symm⟩
  · obtain ⟨vs, l, q⟩ := look k w s
    obtain ⟨rfl, y⟩ := y
    obtain ⟨v', ev, r⟩ := l.get e
    have := y vs q
    rw [ev] at this
    cases this
    exact ⟨Keep.refl, w, r, fun _ _ e => e⟩
theorem it_seqT {K : PySem.W.Frag} {vs : List V} (t : TupAt K H0 a vs) (l : RVs x π0 H0 ds vs) : ItOk x (Itt K a) π0 H0 h0 ds [] := by
  refine ⟨fun i π H h hi k w s => ?_, fun π H h k w s => ?_, fun i d π H h v H' e k w s y => ?_⟩
  · obtain ⟨v, ev, _⟩ := l.get (List.getElem?_eq_getElem hi)
    exact ⟨vs, v, (t.keep k.tup).sq, ev⟩
  · exact ⟨vs, (t.keep k.tup).sq, Nat.le_of_eq l.length.symm⟩
  · obtain ⟨rfl, y⟩ := y
    obtain ⟨v', ev, r⟩ := l.get e
    have := y vs (t.keep k.tup).sq
    rw [ev] at this
    cases this
    exact ⟨Keep.refl, w, r.keep k, fun _ _ e => e⟩
theorem it_seqF {K : PySem.W.Frag} {vs : List V} (m : (a, HO.lst vs) ∈ π0.fr) (l : RVs x π0 H0 ds vs) : ItOk x (Itl K a) π0 H0 h0 ds [] := by
  have at_ : ∀ {π : Nm} {H : Hp} {h : AH}, Keep π0 H0 π H → Wd x π h H → SqL K H a vs := fun k w => .of (w.fr (a, .lst vs) (by rw [k.fr]; exact m)).2
  refine ⟨fun i π H h hi k w s => ?_, fun π H h k w s => ?_, fun i d π H h v H' e k w s y => ?_⟩
  · obtain ⟨v, ev, _⟩ := l.get (List.getElem?_eq_getElem hi)
    exact ⟨vs, v, at_ k w, ev⟩
  · exact ⟨vs, at_ k w, Nat.le_of_eq l.length.symm⟩
  · obtain ⟨rfl, y⟩ := y
    obtain ⟨v', ev, r⟩ := l.get e
    have := y vs (at_ k w)
    rw [ev] at this
    cases this
    exact ⟨Keep.refl, w, r.keep k, fun _ _ e => e⟩
theorem DK.get {kvs : List (D × D)} {ps : List (L2.Key × V)} {π : Nm} {H : Hp} (dk : DK x π H kvs ps) {i : Nat} {k v : D} (e : kvs[i]? = some (k, v)) : ∃ q u, ps[i]? = some (q, u) ∧ keyOf k = some q ∧ RV x π H v u := by
  obtain ⟨⟨q, u⟩, e1, e2⟩ := Paired.at dk e
  exact ⟨q, u, e1, e2.1, e2.2⟩
theorem rv_key {π : Nm} {H : Hp} {k : D} {q : L2.Key} (h : keyOf k = some q) : RV x π H k (kV q) := by
  unfold keyOf at h
  split at h
  · cases h; exact .int _
  · cases h; exact .str _
  · cases h
end
/-! ### the rules -/
section
variable {x : Gx} {X : Cx} {W : L2.WX} {NF : Addr → Prop} {pos p ap : Pos} {tg : Expr}
theorem tF.done {α : Type} {F : Nm → Hp → α → V → Prop} {m : St → AH → R α} {π : Nm} {ρ : St} {h h1 : AH} {σ : L2.St} {H : Hp} {d : α} {Q' : VK} (b : Beg x π ρ h σ H) (e : m ρ h = .ok d h1)
    (hq : ∀ (π1 : Nm) (H1 : Hp) (v : V), Beg x π1 ρ h1 σ H1 → Keep π H π1 H1 → F π1 H1 d v → Q' v H1) : tF x F W m σ H Q' := by
  refine ⟨π, ρ, h, b, ?_⟩
  rw [e]
  exact fun π1 H1 v k w q => hq π1 H1 v (b.keep k w) k q
theorem set_self {h : AH} {n : Nat} {o : AO} (e : h[n]? = some o) : h.set n o = h := by
  refine List.ext_getElem? fun i => ?_
  rw [List.getElem?_set]
  by_cases hi : n = i
  · subst hi
    obtain ⟨hh, rfl⟩ := List.getElem?_eq_some_iff.mp e
    simp [hh]
  · simp [hi]
/-- a thing is locked behind a reading -/
theorem pe_lockA {e : Expr} {t : TE} (he : PE X e t) : PE X e (fun σ H Q => t σ H fun v H1 => ∃ d u, v = .ref d ∧ H1 d = some u ∧ Mut (some u) ∧ ∀ od, NFx X d → Q v (upd H1 d (.frz od u))) := by
  refine ⟨fun pins s σ H Q I q => thn (he.run pins s σ H _ I q) fun u s1 ⟨v, H1, I1, r1, d, w, e1, e2, mu, q1⟩ => ?_⟩
  obtain ⟨od, I2⟩ := I1.lock e2 mu
  exact ⟨v, _, I2, r1, q1 od fun o' u' => I1.nofrz e2 mu o' u'⟩
theorem Wd.lockD {π : Nm} {H : Hp} {h : AH} {n : Nat} {a : Addr} {kvs : List (D × D)} {u : HO} {od : Obj} (w : Wd x π h H) (en : π.ns[n]? = some a) (eh : h[n]? = some (.dct kvs false)) (dh : DH x π H a kvs u) (e : H a = some u) :
    Keep π H π (L2.upd H a (.frz od u)) ∧ Wd x π (lockH [n] h) (L2.upd H a (.frz od u)) := by
  obtain ⟨nt, _⟩ := not_tup_of dh e
  have k : Keep π H π (L2.upd H a (.frz od u)) := Keep.upd' nt
  refine ⟨k, ?_⟩
  have : lockH [n] h = h.set n (.dct kvs true) := by unfold lockH; rw [lk1_dct eh]
  rw [this]
  exact w.set en nt.1 (.dct (dh.keep k) ⟨od, upd_same⟩)
theorem lockH_lst {h : AH} {n : Nat} {xs : List D} {lk : Bool} (e : h[n]? = some (.lst xs lk)) : lk1 h [n] = none := by simp only [lk1, e]
theorem lockH_lk {h : AH} {n : Nat} {kvs : List (D × D)} (e : h[n]? = some (.dct kvs true)) : lk1 h [n] = none := by simp only [lk1, e]
end
end Rw
set_option Elab.async false
set_option linter.all false
set_option autoImplicit false
set_option maxRecDepth 100000
set_option maxHeartbeats 4000000
namespace Rw
open PySem PySem.Spec PyProof.Rows L2

section
variable {x : Gx} {X : Cx} {W : L2.WX} {NF : Addr → Prop} {pos p ap : Pos} {tg : Expr} {a b : Expr} {ma : St → AH → R D} {ml mq mq2 : St → AH → R (List D)}
def mWl (ml : St → AH → R (List D)) : St → AH → R (List D × List Nat) := fun ρ h => (ml ρ h).bind fun xs h => .ok (xs, []) h
theorem KeepX.hold {π : Nm} {H : Hp} {a : Addr} {u : HO} : KeepX π H (π.hold a u) H := ⟨⟨fun _ _ e => e, fun _ _ e => e, fun _ _ _ e => e⟩, fun p hp => List.mem_cons_of_mem _ hp⟩
theorem i_l (hK : X.K = x.K) (ha : PE X a (tL x W ml)) : PI X tg a (tI x NF W (mWl ml)) := by
  refine PI.imp (pi_list ha) fun σ H Q ⟨π, ρ, h, b, q⟩ => tI.fst b q fun π1 H1 h1 ds v b1 r k q1 => ?_
  obtain ⟨c, vs, rfl, f, e, l⟩ := r
  refine ⟨c, rfl, ⟨vs, .of e⟩, ?_⟩
  exact q1 (π1.hold c (.lst vs)) H1 H1 _ KeepX.hold (b1.wd.hold f e) (.inl ⟨rfl, rfl⟩) (by show ItOk x _ _ H1 (lockH [] h1) _ _; rw [lock_nil]; exact it_seqF List.mem_cons_self l.ns)
end
end Rw
set_option Elab.async false
set_option linter.all false
set_option autoImplicit false
set_option maxRecDepth 100000
set_option maxHeartbeats 4000000
namespace Rw
open PySem PySem.Spec PyProof.Rows L2

/-! ## loops -/
/-- .. or the thing was locked and is no more -/
def Un (NF : Addr → Prop) (K : Hp → Prop) (H : Hp) : Prop := K H ∨ ∃ d od u, H d = some (.frz od u) ∧ NF d ∧ K (upd H d u)
def unE (NF : Addr → Prop) (E : Ends) : Ends := { nx := fun σ => Un NF (E.nx σ), rt := fun v => Un NF (E.rt v), bk := fun σ => Un NF (E.bk σ), ct := fun σ => Un NF (E.ct σ) }
theorem Inv.un {X : Cx} {pins : List (Addr × Obj)} {σ : L2.St} {H : Hp} {s : Shared} {K : Hp → Prop} (I : Inv X pins σ H s) (u : Un (NFx X) K H) : ∃ H', Inv X pins σ H' s ∧ K H' := by
  rcases u with k | ⟨d, od, u, e, nf, k⟩
  · exact ⟨H, I, k⟩
  · exact ⟨_, I.unlock e nf, k⟩
theorem ps_un {X : Cx} {st : Stmt} {t : TS} (h : PS X st t) : PS X st (fun E σ H => t (unE (NFx X) E) σ H) := by
  refine ⟨fun pins s σ H E I hw => thn (h.run pins s σ H _ I hw) fun f s1 q => ?_⟩
  cases f with
  | next => obtain ⟨σ', H', I2, q⟩ := q; obtain ⟨H2, I3, q3⟩ := Inv.un I2 q; exact ⟨σ', H2, I3, q3⟩
  | brk => obtain ⟨σ', H', I2, q⟩ := q; obtain ⟨H2, I3, q3⟩ := Inv.un I2 q; exact ⟨σ', H2, I3, q3⟩
  | cont => obtain ⟨σ', H', I2, q⟩ := q; obtain ⟨H2, I3, q3⟩ := Inv.un I2 q; exact ⟨σ', H2, I3, q3⟩
  | ret v => obtain ⟨y, σ', H', I2, r, q⟩ := q; obtain ⟨H2, I3, q3⟩ := Inv.un I2 q; exact ⟨y, σ', H2, I3, r, q3⟩
theorem pe_un {X : Cx} {e : Expr} {t : TE} (h : PE X e t) : PE X e (fun σ H Q => t σ H fun v => Un (NFx X) (Q v)) := by
  refine ⟨fun pins s σ H E I hw => thn (h.run pins s σ H _ I hw) fun v s1 ⟨y, H1, I1, r1, q1⟩ => ?_⟩
  obtain ⟨H2, I3, q3⟩ := Inv.un I1 q1
  exact ⟨y, H2, I3, r1, q3⟩
section
variable {x : Gx} {X : Cx} {W : L2.WX} {NF : Addr → Prop} {π π1 π2 : Nm} {H G1 H1 H2 : Hp} {h0 h2 : AH} {ws : List Nat}
/-- at the end of a walk -/
theorem Locked.fin {K : Hp → Prop} {h3 : AH} (k0 : KeepX π H π1 G1) (L : Locked x NF π1 h0 ws G1 H1) (k : Keep π1 H1 π2 H2) (w : Wd x π2 h2 H2) (eu : unlockH h0 ws h2 = some h3)
    (hq : ∀ H', Keep π H (π2.loose π.fr) H' → Wd x (π2.loose π.fr) h3 H' → (∀ a vs, H2 a = some (.tup vs) → H' a = some (.tup vs)) → (∀ b, b ∉ π2.ns → H' b = H2 b) → K H') : Un NF K H2 := by
  have hfr : ∀ p ∈ π.fr, p ∈ π2.fr := fun p hp => by rw [k.fr]; exact k0.fr p hp
  unfold unlockH at eu
  rcases L with ⟨e1, e2⟩ | ⟨n, a, kvs, u, od, e1, eh, ea, dh, eG, e2, nf⟩
  · subst e2
    rw [e1] at eu
    cases eu
    exact .inl (hq H2 ⟨⟨fun m b e => k.pre m b (k0.pre m b e), fun b vs e => k.tup b vs (k0.tup b vs e), fun b o v e => k.frz b o v (k0.frz b o v e)⟩, rfl⟩ (w.loose hfr) (fun _ _ e => e) fun _ _ => rfl)
  · subst e2
    rw [e1] at eu
    dsimp only at eu
    split at eu
    · rename_i en
      cases eu
      have ef : H2 a = some (.frz od u) := k.frz a od u upd_same
      have ea2 : π2.ns[n]? = some a := k.pre n a ea
      have nt : ∀ vs, H2 a ≠ some (.tup vs) := fun vs z => by rw [ef] at z; cases z
      obtain ⟨ntG, _⟩ := not_tup_of dh eG
      refine .inr ⟨a, od, u, ef, nf, hq _ ⟨⟨fun m b e => k.pre m b (k0.pre m b e), fun b vs e => ?_, fun b o v e => ?_⟩, rfl⟩ ?_ (fun b vs e => ?_) fun b hb => ?_⟩
      · have e1 := k0.tup b vs e
        have hb : b ≠ a := fun z => ntG.1 vs (by rw [← z]; exact e1)
        rw [upd_ne hb]
        exact k.tup b vs (by rw [upd_ne hb]; exact e1)
      · have e1 := k0.frz b o v e
        have hb : b ≠ a := fun z => ntG.2 o v (by rw [← z]; exact e1)
        rw [upd_ne hb]
        exact k.frz b o v (by rw [upd_ne hb]; exact e1)
      · have kv : KeepV π1 G1 π2 (upd H2 a u) := ⟨fun m b e => k.pre m b e, fun b vs e => by
          have hb : b ≠ a := fun z => ntG.1 vs (by rw [← z]; exact e)
          rw [upd_ne hb]
          exact k.tup b vs (by rw [upd_ne hb]; exact e)⟩
        exact (w.set (o := .dct kvs false) ea2 nt (.dct (dh.keep0 kv) upd_same)).loose hfr
      · have hb : b ≠ a := fun z => nt vs (by rw [← z]; exact e)
        rw [upd_ne hb]; exact e
      · exact upd_ne fun z => hb (by rw [z]; exact List.mem_of_getElem? ea2)
    · cases eu
end
end Rw
set_option Elab.async false
set_option linter.all false
set_option autoImplicit false
set_option maxRecDepth 100000
set_option maxHeartbeats 4000000
namespace Rw
open PySem PySem.Spec PyProof.Rows L2

/-! ## for, while -/
section
variable {x : Gx} {X : Cx} {W : L2.WX} {NF : Addr → Prop} {E : Ends} {π π1 π2 : Nm} {H G1 H1 H2 : Hp} {h0 h2 : AH} {ws : List Nat} {σ : L2.St} {ρ : St}
theorem Locked.keep (L : Locked x NF π1 h0 ws G1 H1) : Keep π1 G1 π1 H1 := by
  rcases L with ⟨_, rfl⟩ | ⟨n, a, kvs, u, od, e1, eh, ea, dh, eG, rfl, nf⟩
  · exact Keep.refl
  · exact Keep.upd' (not_tup_of dh eG).1
theorem Locked.wd (L : Locked x NF π1 h0 ws G1 H1) (w : Wd x π1 h0 G1) : Wd x π1 (lockH ws h0) H1 := by
  have L0 := L
  rcases L with ⟨e, rfl⟩ | ⟨n, a, kvs, u, od, e1, eh, ea, dh, eG, rfl, nf⟩
  · rw [lock_none e]; exact w
  · have k := L0.keep
    unfold lockH
    rw [e1]
    exact w.set ea (not_tup_of dh eG).1.1 (.dct (dh.keep k) ⟨od, upd_same⟩)
theorem RSt.keepV {π π' : Nm} {H H' : Hp} (k : KeepV π H π' H') (r : RSt x π H ρ σ) : RSt x π' H' ρ σ := ⟨r.1, fun i d e => by
  obtain ⟨v, h1, h2⟩ := r.2 i d e
  exact ⟨v, h1, h2.keep0 k⟩⟩
theorem PostS.unlock {r : RS} (k0 : KeepX π H π1 G1) (L : Locked x NF π1 h0 ws G1 H1) (p : PostS x W E π H (RS.unlock h0 ws r)) : PostS x W (unE NF E) π1 H1 r := by
  have beg : ∀ {ρ' : St} {σ2 : L2.St} {π2 : Nm} {H2 H' : Hp} {h' h3 : AH}, Beg x π2 ρ' h' σ2 H2 → Wd x (π2.loose π.fr) h3 H' → (∀ a vs, H2 a = some (.tup vs) → H' a = some (.tup vs)) → Beg x (π2.loose π.fr) ρ' h3 σ2 H' := by
    intro ρ' σ2 π2 H2 H' h' h3 b w t
    have kv : KeepV π2 H2 (π2.loose π.fr) H' := ⟨fun _ _ e => e, t⟩
    exact ⟨b.st.keepV kv, w⟩
  cases r with
  | nx ρ' h' =>
    dsimp only [RS.unlock] at p
    cases eu : unlockH h0 ws h' with
    | none => rw [eu] at p; exact p.elim
    | some h3 =>
      rw [eu] at p
      exact fun π2 H2 σ2 k b => L.fin k0 k b.wd eu fun H' kk ww tt _ => p _ H' σ2 kk (beg b ww tt)
  | bk ρ' h' =>
    dsimp only [RS.unlock] at p
    cases eu : unlockH h0 ws h' with
    | none => rw [eu] at p; exact p.elim
    | some h3 =>
      rw [eu] at p
      exact fun π2 H2 σ2 k b => L.fin k0 k b.wd eu fun H' kk ww tt _ => p _ H' σ2 kk (beg b ww tt)
  | ct ρ' h' =>
    dsimp only [RS.unlock] at p
    cases eu : unlockH h0 ws h' with
    | none => rw [eu] at p; exact p.elim
    | some h3 =>
      rw [eu] at p
      exact fun π2 H2 σ2 k b => L.fin k0 k b.wd eu fun H' kk ww tt _ => p _ H' σ2 kk (beg b ww tt)
  | rt d h' =>
    dsimp only [RS.unlock] at p
    cases eu : unlockH h0 ws h' with
    | none => rw [eu] at p; exact p.elim
    | some h3 =>
      rw [eu] at p
      exact fun π2 H2 v k w r => L.fin k0 k w eu fun H' kk ww tt _ => p _ H' v kk ww (r.keep0 (show KeepV π2 H2 (π2.loose π.fr) H' from ⟨fun _ _ e => e, tt⟩))
  | ex c q ρ' h' =>
    dsimp only [RS.unlock] at p
    cases el : lk1 h0 ws with
    | some _ => rw [el] at p; exact p.elim
    | none =>
      rw [el] at p
      rcases L with ⟨e, rfl⟩ | ⟨n, a, kvs, u, od, e1, _⟩
      · intro π2 H2 σ2 cls d k b rx
        have hfr : ∀ p ∈ π.fr, p ∈ π2.fr := fun p hp => by rw [k.fr]; exact k0.fr p hp
        refine p (π2.loose π.fr) H2 σ2 cls d ⟨⟨fun m b e => k.pre m b (k0.pre m b e), fun b vs e => k.tup b vs (k0.tup b vs e), fun b o v e => k.frz b o v (k0.frz b o v e)⟩, rfl⟩ (beg b (b.wd.loose hfr) fun _ _ e => e) ⟨rx.1, ?_⟩
        have := rx.2
        split
        · rename_i e; rw [e] at this; exact this
        · rename_i fl e
          rw [e] at this
          obtain ⟨d1, v1, z1, z2, z3⟩ := this
          exact ⟨d1, v1, z1, z2, z3.ns⟩
      · rw [e1] at el; cases el
  | bad => exact p
def forB (t : Tg) (mb : St → AH → RS) (kill : List Nat) (hL : AH) : D → St → AH → RS := fun x ρ h => match asgD h t x ρ with
  | some ρ1 => RS.gc hL kill (mb ρ1 h)
  | none => .bad
theorem for_core {t : Tg} {mb : St → AH → RS} {kill : List Nat} {hL : AH} {J : It} {ds : List D} (w1 : Wd x π1 hL H1) (it : ItOk x J π1 H1 hL ds ws) (b : Beg x π1 ρ hL σ H1)
    (P0 : PostS x W E π1 H1 (forGo (sameH hL ws) (forB t mb kill hL) ds ρ hL)) :
    ∃ Wm : Nat → Nat → L2.St → Hp → Prop, (∃ m, Wm 0 m σ H1) ∧ ∀ i m σ H, Wm i m σ H → (J.stop i H ∧ E.nx σ H) ∨ (J.go i H ∧ ∃ N : L2.St → Hp → Prop, (∀ σ' H', N σ' H' → ∃ m', m' < m ∧ Wm (i + 1) m' σ' H') ∧
      ∀ v H', J.yld i H v H' → tG x t v σ H' fun σ2 H2 => tS x W mb { E with nx := N, ct := N, bk := E.nx } σ2 H2) := by
  let Inv' : Nat → L2.St → Hp → Prop := fun i σ H => ∃ ρ h π, Beg x π ρ h σ H ∧ Keep π1 H1 π H ∧ PostS x W E π1 H1 (forGo (sameH hL ws) (forB t mb kill hL) (ds.drop i) ρ h)
  refine ⟨fun i m σ H => m = ds.length - i ∧ i ≤ ds.length ∧ Inv' i σ H, ⟨ds.length, rfl, Nat.zero_le _, ρ, hL, π1, b, Keep.refl, P0⟩, ?_⟩
  rintro i m σ H ⟨rfl, hi, ρ, h, π, b, k, P⟩
  by_cases hlt : i < ds.length
  · have ed : ds.drop i = ds[i] :: ds.drop (i + 1) := List.drop_eq_getElem_cons hlt
    rw [ed] at P
    unfold forGo at P
    split at P
    · rename_i hs
      refine .inr ⟨it.go i π H h hlt k b.wd hs, Inv' (i + 1), fun σ' H' q => ⟨ds.length - (i + 1), by omega, rfl, hlt, q⟩, fun v H' y => ?_⟩
      obtain ⟨ky, wy, ry, _⟩ := it.yld i ds[i] π H h v H' (List.getElem?_eq_getElem hlt) k b.wd hs y
      have ky1 : Keep π1 H1 π H' := k.trans ky
      cases ea : asgD h t ds[i] ρ with
      | none =>
        have eB : forB t mb kill hL ds[i] ρ h = .bad := by unfold forB; rw [ea]
        rw [eB] at P; exact P.elim
      | some ρ1 =>
        have eB : forB t mb kill hL ds[i] ρ h = RS.gc hL kill (mb ρ1 h) := by unfold forB; rw [ea]
        rw [eB] at P
        refine ⟨π, ρ, h, ds[i], ρ1, b.keep ky wy, ry, ea, fun σ2 b2 _ => ⟨π, ρ1, h, b2, ?_⟩⟩
        cases em : mb ρ1 h with
        | nx ρ2 h2 =>
          rw [em] at P
          intro π3 H3 σ3 k3 b3
          obtain ⟨π4, k4, b4⟩ := Beg.gc kill w1 (ky1.trans k3) b3
          exact ⟨_, _, π4, b4, k4, P⟩
        | ct ρ2 h2 =>
          rw [em] at P
          intro π3 H3 σ3 k3 b3
          obtain ⟨π4, k4, b4⟩ := Beg.gc kill w1 (ky1.trans k3) b3
          exact ⟨_, _, π4, b4, k4, P⟩
        | bk ρ2 h2 =>
          rw [em] at P
          exact fun π3 H3 σ3 k3 b3 => P π3 H3 σ3 (ky1.trans k3) b3
        | rt d h2 =>
          rw [em] at P
          exact fun π3 H3 v k3 w3 r3 => P π3 H3 v (ky1.trans k3) w3 r3
        | ex c q ρ2 h2 =>
          rw [em] at P
          exact fun π3 H3 σ3 cls d k3 b3 r3 => P π3 H3 σ3 cls d (ky1.trans k3) b3 r3
        | bad => rw [em] at P; exact P
    · exact P.elim
  · have e : i = ds.length := by omega
    subst e
    rw [List.drop_length] at P
    unfold forGo at P
    split at P
    · rename_i hs
      exact .inl ⟨it.stop π H h k b.wd hs, P π H σ k b⟩
    · exact P.elim
def forS (mi : St → AH → R (List D × List Nat)) (t : Tg) (mb : St → AH → RS) (kill : List Nat) : St → AH → RS := fun ρ h => match mi ρ h with
  | .ok xw h0 => RS.unlock h0 xw.2 (forGo (sameH (lockH xw.2 h0) xw.2) (forB t mb kill (lockH xw.2 h0)) xw.1 ρ (lockH xw.2 h0))
  | .ex c p h => .ex c p ρ h
  | .bad => .bad
theorem s_for {tg iter : Expr} {body : List Stmt} {pos : Pos} {mi : St → AH → R (List D × List Nat)} {t : Tg} {mb : St → AH → RS} {kill : List Nat} (hp : PassesOwn (model X.prog X.w) X.A X.env X.xe) (hc : X.calm = true) (hi : PI X tg iter (tI x (NFx X) W mi)) (hg : PG X tg (tG x t)) (hb : PSs X body (tS x W mb))
    (hs : ∀ y, foldedSetIterable iter X.env y = pure y) : PS X (.For tg iter body [] pos) (tS x W (forS mi t mb kill)) := by
  refine PS.imp (ps_un (ps_for hp hc hi hg hb hs)) fun E σ H ⟨π, ρ, h, b, p⟩ => ⟨π, ρ, h, b, ?_⟩
  unfold forS at p
  cases e : mi ρ h with
  | ok dw h0 =>
    rw [e] at p
    intro π1 G1 H1 J k0 w1 L it
    have k1 := L.keep
    have b1 : Beg x π1 ρ (lockH dw.2 h0) σ H1 := ⟨(b.st.keepV k0.toKeep0.toV).keepV k1.toKeep0.toV, L.wd w1⟩
    exact for_core b1.wd it b1 (p.unlock k0 L)
  | ex c d h0 =>
    rw [e] at p
    exact fun π1 H1 cls dd k w q => p π1 H1 σ cls dd k (b.keep k w) q
  | bad => rw [e] at p; exact p
/-! ### while -/
def whlS (fuel : Nat) (mc : St → AH → R D) (mb : St → AH → RS) (kill : List Nat) : St → AH → RS := fun ρ h => whileGo mc (fun ρ h1 => RS.gc h kill (mb ρ h1)) fuel ρ h
theorem s_while {c : Expr} {body : List Stmt} {pos : Pos} {mc : St → AH → R D} {mb : St → AH → RS} {kill : List Nat} {fuel : Nat} (hp : PassesOwn (model X.prog X.w) X.A X.env X.xe) (hc : PT X c (tT x W mc)) (hb : PSs X body (tS x W mb)) : PS X (.While c body [] pos) (tS x W (whlS fuel mc mb kill)) := by
  refine PS.imp (ps_while hp hc hb) fun E σ H ⟨π1, ρ, hL, b, p⟩ => ?_
  have w1 := b.wd
  let Inv' : Nat → L2.St → Hp → Prop := fun m σ' H' => ∃ ρ h π, Beg x π ρ h σ' H' ∧ Keep π1 H π H' ∧ PostS x W E π1 H (whileGo mc (fun ρ h1 => RS.gc hL kill (mb ρ h1)) m ρ h)
  refine ⟨Inv', ⟨fuel, ρ, hL, π1, b, Keep.refl, p⟩, ?_⟩
  rintro m σ2 H2 ⟨ρ, h, π, b, k, P⟩
  cases m with
  | zero => exact P.elim
  | succ m =>
    unfold whileGo at P
    refine ⟨π, ρ, h, b, ?_⟩
    cases e : mc ρ h with
    | ok d h1 =>
      rw [e] at P
      intro π3 H3 v k3 w3 r3
      have b3 := b.keep k3 w3
      have kk := k.trans k3
      cases d with
      | bl i =>
        obtain rfl := rv_bl r3
        refine ⟨i, rfl, ?_⟩
        cases i with
        | false => exact P π3 H3 σ2 kk b3
        | true =>
          refine ⟨Inv' m, fun σ' H' q => ⟨m, Nat.lt_succ_self m, q⟩, π3, ρ, h1, b3, ?_⟩
          replace P : PostS x W E π1 H (match RS.gc hL kill (mb ρ h1) with
            | .nx ρ1 h2 => whileGo mc (fun ρ h1 => RS.gc hL kill (mb ρ h1)) m ρ1 h2
            | .ct ρ1 h2 => whileGo mc (fun ρ h1 => RS.gc hL kill (mb ρ h1)) m ρ1 h2
            | .bk ρ1 h2 => .nx ρ1 h2
            | r => r) := P
          cases em : mb ρ h1 with
          | nx ρ2 h2 =>
            rw [em] at P
            intro π5 H5 σ5 k5 b5
            obtain ⟨π4, k4, b4⟩ := Beg.gc kill w1 (kk.trans k5) b5
            exact ⟨_, _, π4, b4, k4, P⟩
          | ct ρ2 h2 =>
            rw [em] at P
            intro π5 H5 σ5 k5 b5
            obtain ⟨π4, k4, b4⟩ := Beg.gc kill w1 (kk.trans k5) b5
            exact ⟨_, _, π4, b4, k4, P⟩
          | bk ρ2 h2 =>
            rw [em] at P
            exact fun π5 H5 σ5 k5 b5 => P π5 H5 σ5 (kk.trans k5) b5
          | rt d h2 =>
            rw [em] at P
            exact fun π5 H5 v k5 w5 r5 => P π5 H5 v (kk.trans k5) w5 r5
          | ex c q ρ2 h2 =>
            rw [em] at P
            exact fun π5 H5 σ5 cls d k5 b5 r5 => P π5 H5 σ5 cls d (kk.trans k5) b5 r5
          | bad => rw [em] at P; exact P
      | _ => exact P.elim
    | ex c d h1 =>
      rw [e] at P
      exact fun π3 H3 cls dd k3 w3 q => P π3 H3 σ2 cls dd (k.trans k3) (b.keep k3 w3) q
    | bad => rw [e] at P; exact P
end
end Rw
set_option Elab.async false
set_option linter.all false
set_option autoImplicit false
set_option maxRecDepth 100000
set_option maxHeartbeats 4000000
namespace Rw
open PySem PySem.Spec PyProof.Rows L2

/-! ## comprehensions -/
/-- nothing raises -/
def WF : L2.WX := fun _ _ _ _ => False
def tB (x : Gx) (m : St → AH → R Bool) : TT := fun σ H Q => ∃ π ρ h b h', Beg x π ρ h σ H ∧ m ρ h = .ok b h' ∧ ∀ π' H', Keep π H π' H' → Wd x π' h' H' → Q b H'
section
variable {x : Gx} {X : Cx} {W : L2.WX} {NF : Addr → Prop} {pos : Pos}
theorem b_nil : PTs X [] (tB x fun _ h => .ok true h) := ⟨fun pins s σ H Q I ⟨π, ρ, h, b, h', b0, e, q⟩ => pts_nil.run pins s σ H Q I (by cases e; exact q π H Keep.refl b0.wd)⟩
def tst (x : D) (h : AH) : R Bool := match x with | .bl true => .ok true h | .bl false => .ok false h | _ => .bad
def mIf1 (mc : St → AH → R D) : St → AH → R Bool := fun ρ h => (mc ρ h).bind tst
theorem b_one {c : Expr} {mc : St → AH → R D} (hc : PT X c (tT x WF mc)) : PTs X [c] (tB x (mIf1 mc)) := by
  refine ⟨fun pins s σ H Q I ⟨π, ρ, h, b, h', b0, e, q⟩ => (pts_one hc).run pins s σ H Q I ⟨π, ρ, h, b0, ?_⟩⟩
  unfold mIf1 at e
  cases ec : mc ρ h with
  | ok d h1 =>
    rw [ec] at e
    replace e : tst d h1 = .ok b h' := e
    intro π1 H1 v k w r
    cases d with
    | bl i =>
      obtain rfl := rv_bl r
      refine ⟨i, rfl, ?_⟩
      cases i <;> cases e <;> exact q π1 H1 k w
    | _ => cases e
  | ex c d h1 => rw [ec] at e; cases e
  | bad => rw [ec] at e; cases e
def elC (t : Tg) (own : List Nat) (ρ : St) (mi : St → AH → R Bool) (me : St → AH → R D) : D → AH → R (List D) := fun x h => match asgD h t x (wipeS ρ own) with
  | some ρ1 => (mi ρ1 h).bind fun b h => if b then (me ρ1 h).bind fun y h => .ok [y] h else .ok [] h
  | none => .bad
def compS (mI : St → AH → R (List D × List Nat)) (t : Tg) (own : List Nat) (mi : St → AH → R Bool) (me : St → AH → R D) : St → AH → R (List D) := fun ρ h => (mI ρ h).bind fun xw h0 =>
  R.unlock h0 xw.2 (R.calm (compGo (sameH (lockH xw.2 h0) xw.2) (elC t own ρ mi me) xw.1 (lockH xw.2 h0)))
def tgIn (own : List Nat) : Tg → Bool
  | .nm i => own.contains i
  | .tp is => is.all fun i => own.contains i
theorem wipe_get {σ : L2.St} {i : Nat} : ∀ {vs : List Nat}, i ∈ vs → (wipe σ vs)[i]? = if i < σ.length then some none else none
  | [], h => by cases h
  | v :: vs, h => by
    unfold wipe
    by_cases hv : v = i
    · subst hv
      rw [List.getElem?_set_self']
      by_cases hl : v < σ.length
      · have : v < (wipe σ vs).length := by rw [wipe_length]; exact hl
        rw [List.getElem?_eq_getElem this, if_pos hl]
        rfl
      · have : ¬ v < (wipe σ vs).length := by rw [wipe_length]; exact hl
        rw [List.getElem?_eq_none (by omega), if_neg hl]
        rfl
    · rw [List.getElem?_set_ne hv]
      exact wipe_get ((List.mem_cons.mp h).resolve_left fun z => hv z.symm)
theorem wipe_set {σ : L2.St} {i : Nat} {o : Option V} {vs : List Nat} (h : i ∈ vs) : wipe (σ.set i o) vs = wipe σ vs := by
  refine List.ext_getElem? fun j => ?_
  by_cases hj : j ∈ vs
  · rw [wipe_get hj, wipe_get hj, List.length_set]
  · rw [wipe_out hj, wipe_out hj]
    by_cases hij : i = j
    · exact absurd (hij ▸ h) hj
    · rw [List.getElem?_set_ne hij]
theorem wipe_setSl {vs : List Nat} : ∀ {is : List Nat} {ws : List V} {σ : L2.St}, (∀ i ∈ is, i ∈ vs) → wipe (setSl is ws σ) vs = wipe σ vs
  | [], _, _, _ => by unfold setSl; rfl
  | i :: is, [], _, _ => by unfold setSl; rfl
  | i :: is, w :: ws, σ, h => by
    unfold setSl
    rw [wipe_setSl (fun j hj => h j (List.mem_cons_of_mem _ hj)), wipe_set (h i List.mem_cons_self)]
theorem wipe_put {t : Tg} {own : List Nat} {σ σ' : L2.St} (h : tgIn own t = true) (p : Put t (wipe σ own) σ') : wipe σ' own = wipe σ own := by
  have w2 : wipe (wipe σ own) own = wipe σ own := by
    refine List.ext_getElem? fun j => ?_
    by_cases hj : j ∈ own
    · rw [wipe_get hj, wipe_get hj, wipe_length]
    · rw [wipe_out hj]
  cases t with
  | nm i =>
    obtain ⟨v, rfl⟩ := p
    rw [wipe_set (by simpa [tgIn] using h), w2]
  | tp is =>
    obtain ⟨vs, rfl⟩ := p
    rw [wipe_setSl (fun i hi => by simpa using List.all_eq_true.mp h i hi), w2]
theorem compGo_len {sm : AH → Bool} {el : D → AH → R (List D)} : ∀ {ds : List D} {h hE : AH} {zs : List D}, compGo sm el ds h = .ok zs hE → zs.length ≤ sizeLine
  | [], h, hE, zs, e => by
    unfold compGo at e
    split at e <;> cases e
    exact Nat.zero_le _
  | d :: ds, h, hE, zs, e => by
    unfold compGo at e
    split at e
    · cases e1 : el d h with
      | ok ys h1 =>
        rw [e1] at e
        replace e : ((compGo sm el ds h1).bind fun zs h2 => if ys.length + zs.length ≤ sizeLine then .ok (ys ++ zs) h2 else .bad : R (List D)) = .ok zs hE := e
        cases e2 : compGo sm el ds h1 with
        | ok zs' h2 =>
          rw [e2] at e
          replace e : (if ys.length + zs'.length ≤ sizeLine then .ok (ys ++ zs') h2 else .bad : R (List D)) = .ok zs hE := e
          split at e
          · cases e
            rw [List.length_append]; assumption
          · cases e
        | ex c q h2 => rw [e2] at e; cases e
        | bad => rw [e2] at e; cases e
      | ex c q h1 => rw [e1] at e; cases e
      | bad => rw [e1] at e; cases e
    · cases e
/-- one turn -/
theorem compGo_cons {sm : AH → Bool} {el : D → AH → R (List D)} {d : D} {ds : List D} {h hE : AH} {zs : List D} (e : compGo sm el (d :: ds) h = .ok zs hE) :
    sm h = true ∧ ∃ ys h1 zs', el d h = .ok ys h1 ∧ compGo sm el ds h1 = .ok zs' hE ∧ zs = ys ++ zs' := by
  unfold compGo at e
  split at e
  · rename_i hs
    refine ⟨hs, ?_⟩
    cases e1 : el d h with
    | ok ys h1 =>
      rw [e1] at e
      replace e : ((compGo sm el ds h1).bind fun zs h2 => if ys.length + zs.length ≤ sizeLine then .ok (ys ++ zs) h2 else .bad : R (List D)) = .ok zs hE := e
      cases e2 : compGo sm el ds h1 with
      | ok zs' h2 =>
        rw [e2] at e
        replace e : (if ys.length + zs'.length ≤ sizeLine then .ok (ys ++ zs') h2 else .bad : R (List D)) = .ok zs hE := e
        split at e
        · cases e
          exact ⟨ys, h1, zs', rfl, e2, rfl⟩
        · cases e
      | ex c q h2 => rw [e2] at e; cases e
      | bad => rw [e2] at e; cases e
    | ex c q h1 => rw [e1] at e; cases e
    | bad => rw [e1] at e; cases e
  · cases e
theorem compGo_nil {sm : AH → Bool} {el : D → AH → R (List D)} {h hE : AH} {zs : List D} (e : compGo sm el [] h = .ok zs hE) : sm h = true ∧ zs = [] ∧ h = hE := by
  unfold compGo at e
  split at e
  · cases e; exact ⟨by assumption, rfl, rfl⟩
  · cases e
theorem Wd.updFree {π : Nm} {H : Hp} {h : AH} {a : Addr} {u : HO} (w : Wd x π h H) (f : Free π a) (so : Soft (H a)) : Wd x π h (L2.upd H a u) :=
  ⟨w.len, w.nd, fun p hp => ⟨(w.fr p hp).1, by rw [upd_ne (f.2 p hp)]; exact (w.fr p hp).2⟩, fun n o b e1 e2 => (w.obj n o b e1 e2).keep (Keep.upd' so) (upd_ne fun z => f.1 (by rw [← z]; exact List.mem_of_getElem? e2))⟩
/-- what a comprehension asks, by evaluation -/
theorem lc_imp {mI : St → AH → R (List D × List Nat)} {t : Tg} {mi : St → AH → R Bool} {me : St → AH → R D} {own : List (Str × Nat)} (ht : tgIn (own.map (·.2)) t = true) : ∀ σ H Q, tL x W (compS mI t (own.map (·.2)) mi me) σ H Q →
    tLc (tI x NF W mI) (tG x t) (tB x mi) (tE x WF me) (own.map (·.2)) σ H fun v => Un NF (Q v) := by
  rintro σ H Q ⟨π, ρ, h, b, p⟩
  refine ⟨π, ρ, h, b, ?_⟩
  unfold compS at p
  generalize own.map (·.2) = ow at p ht ⊢
  cases e : mI ρ h with
  | bad => rw [e] at p; exact p.elim
  | ex c d h0 => rw [e] at p; exact p
  | ok dw h0 =>
    rw [e] at p
    replace p : PostF x (FL x) W π H (R.unlock h0 dw.2 (R.calm (compGo (sameH (lockH dw.2 h0) dw.2) (elC t ow ρ mi me) dw.1 (lockH dw.2 h0)))) σ Q := p
    cases ec : compGo (sameH (lockH dw.2 h0) dw.2) (elC t ow ρ mi me) dw.1 (lockH dw.2 h0) with
    | ex c q h1 => rw [ec] at p; exact p.elim
    | bad => rw [ec] at p; exact p.elim
    | ok all hE =>
      rw [ec] at p
      have hall := compGo_len ec
      replace p : PostF x (FL x) W π H (match unlockH h0 dw.2 hE with | some h => .ok all h | none => .bad) σ Q := p
      cases eu : unlockH h0 dw.2 hE with
      | none => rw [eu] at p; exact p.elim
      | some h3 =>
        rw [eu] at p
        intro π1 G1 H1 J k0 w1 L it Dl nD
        have k1 := L.keep
        have w1' := L.wd w1
        have st1 : RSt x π1 H1 (wipeS ρ ow) (wipe σ ow) := (((b.st.keepV k0.toKeep0.toV).keepV k1.toKeep0.toV)).wipe ow
        have kD : Keep π1 H1 π1 (upd H1 Dl (.lst [])) := Keep.upd nD
        let Inv' : Nat → Hp → Prop := fun i H => ∃ h π acc accV zs, compGo (sameH (lockH dw.2 h0) dw.2) (elC t ow ρ mi me) (dw.1.drop i) h = .ok zs hE ∧ all = acc ++ zs ∧ Wd x π h H ∧ Keep π1 H1 π H ∧ Free π Dl ∧ H Dl = some (.lst accV) ∧ RVs x π H acc accV
        refine ⟨fun i m H => m = dw.1.length - i ∧ i ≤ dw.1.length ∧ Inv' i H, ⟨dw.1.length, rfl, Nat.zero_le _, lockH dw.2 h0, π1, [], [], all, ec, rfl, w1'.upd nD, kD, w1'.notin nD, upd_same, .nil⟩, ?_⟩
        rintro i m H2 ⟨rfl, hi', h2, π2, acc, accV, zs, ez, ea, w2, k2, f2, d2, r2⟩
        by_cases hlt : i < dw.1.length
        · have ed : dw.1.drop i = dw.1[i] :: dw.1.drop (i + 1) := List.drop_eq_getElem_cons hlt
          rw [ed] at ez
          obtain ⟨hs2, ys, h4, zs', e4, e5, rfl⟩ := compGo_cons ez
          refine .inr ⟨it.go i π2 H2 h2 hlt k2 w2 hs2, Inv' (i + 1), fun H' q => ⟨dw.1.length - (i + 1), by omega, rfl, hlt, q⟩, fun v H' y => ?_⟩
          obtain ⟨ky, wy, ry, sy⟩ := it.yld i dw.1[i] π2 H2 h2 v H' (List.getElem?_eq_getElem hlt) k2 w2 hs2 y
          have dy := sy Dl _ d2
          have kk := k2.trans ky
          unfold elC at e4
          cases eg : asgD h2 t dw.1[i] (wipeS ρ ow) with
          | none => rw [eg] at e4; cases e4
          | some ρ1 =>
            rw [eg] at e4
            replace e4 : ((mi ρ1 h2).bind fun b h => if b then (me ρ1 h).bind fun y h => .ok [y] h else .ok [] h : R (List D)) = .ok ys h4 := e4
            have bh : Beg x (π2.hold Dl (.lst accV)) (wipeS ρ ow) h2 (wipe σ ow) H' := Beg.hold ⟨st1.keep kk, wy⟩ f2 dy
            refine ⟨_, _, _, _, ρ1, bh, ry.ns, eg, fun σ2 b2 put => ⟨wipe_put ht put, ?_⟩⟩
            cases em : mi ρ1 h2 with
            | ex c q h5 => rw [em] at e4; cases e4
            | bad => rw [em] at e4; cases e4
            | ok tb h5 =>
              rw [em] at e4
              replace e4 : (if tb = true then (me ρ1 h5).bind fun y h => .ok [y] h else .ok [] h5 : R (List D)) = .ok ys h4 := e4
              refine ⟨_, ρ1, h2, tb, h5, b2, em, fun π5 H5 k5 w5 => ?_⟩
              have k5' : Keep π2 H' (π5.loose π2.fr) H5 := k5.hold
              cases tb with
              | false =>
                cases e4
                show Inv' (i + 1) H5
                obtain ⟨f5, d5⟩ := w5.heldAt k5 f2
                exact ⟨h4, π5.loose π2.fr, acc, accV, zs', e5, by simpa using ea, w5.unhold k5, kk.trans k5', f5, d5, (r2.keep ky).keep k5'⟩
              | true =>
                replace e4 : ((me ρ1 h5).bind fun y h => .ok [y] h : R (List D)) = .ok ys h4 := e4
                show tE x WF me σ2 H5 fun y H4 => ∃ acc, H4 Dl = some (HO.lst acc) ∧ acc.length < sizeLine ∧ Inv' (i + 1) (upd H4 Dl (HO.lst (acc ++ [y])))
                cases en : me ρ1 h5 with
                | ex c q h6 => rw [en] at e4; cases e4
                | bad => rw [en] at e4; cases e4
                | ok yv h6 =>
                  rw [en] at e4
                  cases e4
                  refine ⟨π5, ρ1, h5, b2.keep k5 w5, ?_⟩
                  rw [en]
                  intro π6 H6 v6 k6 w6 r6
                  have k56 := k5.trans k6
                  have k6' : Keep π2 H' (π6.loose π2.fr) H6 := k56.hold
                  obtain ⟨f6, d6⟩ := w6.heldAt k56 f2
                  have so : Soft (H6 Dl) := ⟨fun vs z => (by rw [d6] at z; cases z), fun o u z => (by rw [d6] at z; cases z)⟩
                  have k7 : Keep (π6.loose π2.fr) H6 (π6.loose π2.fr) (upd H6 Dl (.lst (accV ++ [v6]))) := Keep.upd' so
                  have r7 : RVs x (π6.loose π2.fr) H6 acc accV := (r2.keep ky).keep k6'
                  have hz : acc.length + 1 ≤ sizeLine := by
                    have : all.length = acc.length + 1 + zs'.length := by rw [ea]; simp; omega
                    omega
                  refine ⟨accV, d6, by rw [← r2.length]; omega, h4, π6.loose π2.fr, acc ++ [yv], accV ++ [v6], zs', e5, by rw [ea]; simp, (w6.unhold k56).updFree f6 so, (kk.trans k6').trans k7, f6, upd_same, (r7.append (.single r6.ns)).keep k7⟩
        · have e9 : i = dw.1.length := by omega
          subst e9
          rw [List.drop_length] at ez
          obtain ⟨hs2, rfl, rfl⟩ := compGo_nil ez
          refine .inl ⟨it.stop π2 H2 h2 k2 w2 hs2, ?_⟩
          rw [List.append_nil] at ea
          subst ea
          refine L.fin k0 k2 w2 eu fun H' kk ww tt ff => p _ H' _ kk ww ⟨Dl, accV, rfl, ⟨f2.1, fun q hq => f2.2 q (by rw [k2.fr]; exact k0.fr q hq)⟩, by rw [ff Dl f2.1]; exact d2, r2.keep0 (show KeepV π2 H2 (π2.loose π.fr) H' from ⟨fun _ _ e => e, tt⟩)⟩
theorem l_comp {elt tg iter : Expr} {ifs : List Expr} {scope : Scope} {own : List (Str × Nat)} {mI : St → AH → R (List D × List Nat)} {t : Tg} {mi : St → AH → R Bool} {me : St → AH → R D} (hc : X.calm = true) (hN : X.N.Nodup) (hi : PI X tg iter (tI x (NFx X) W mI)) (ok : BlkOk X.N X.env.scope scope own) (ht : tgIn (own.map (·.2)) t = true)
    (hg : ∀ (s : Shared) (H : Hp) (C : Addr) (cl : List (Str × Addr)) (fp : List Addr), PG (X.blk s H scope (compEnvC scope cl C X.env) fp) tg (tG x t)) (hb : ∀ (s : Shared) (H : Hp) (C : Addr) (cl : List (Str × Addr)) (fp : List Addr), PTs (X.blk s H scope (compEnvC scope cl C X.env) fp) ifs (tB x mi))
    (he : ∀ (s : Shared) (H : Hp) (C : Addr) (cl : List (Str × Addr)) (fp : List Addr), PE (X.blk s H scope (compEnvC scope cl C X.env) fp) elt (tE x WF me)) (hs : ∀ x, foldedSetIterable iter X.env x = pure x) :
    PE X (.ListComp elt [⟨tg, iter, ifs, 0⟩] scope pos) (tL x W (compS mI t (own.map (·.2)) mi me)) := by
  exact PE.imp (pe_un (pe_lc hc hN hi ok hg hb he hs)) (lc_imp ht)
end
end Rw
set_option Elab.async false
set_option linter.all false
set_option autoImplicit false
set_option maxRecDepth 100000
set_option maxHeartbeats 4000000
namespace Rw
open PySem PySem.Spec PyProof.Rows L2

/-! ## sorted -/
section
variable {le : D → D → Bool}
theorem ins_mem {x d : D} : ∀ {l : List D}, d ∈ insD le x l → d = x ∨ d ∈ l
  | [], h => by simp [insD] at h; exact .inl h
  | y :: ys, h => by
    unfold insD at h
    split at h
    · rcases List.mem_cons.mp h with rfl | h
      · exact .inl rfl
      · exact .inr h
    · rcases List.mem_cons.mp h with rfl | h
      · exact .inr List.mem_cons_self
      · exact (ins_mem h).imp id (List.mem_cons_of_mem _)
theorem ins_pw (T : PySem.W.TotalLe le) {x : D} : ∀ {l : List D}, l.Pairwise (fun a b => le a b = true) → (insD le x l).Pairwise (fun a b => le a b = true)
  | [], _ => by simp [insD]
  | y :: ys, h => by
    unfold insD
    rw [List.pairwise_cons] at h
    split
    · rename_i hx
      rw [List.pairwise_cons, List.pairwise_cons]
      refine ⟨fun d hd => ?_, h⟩
      rcases List.mem_cons.mp hd with rfl | hd
      · exact hx
      · exact T.trans _ _ _ hx (h.1 d hd)
    · rename_i hx
      rw [List.pairwise_cons]
      refine ⟨fun d hd => ?_, ins_pw T h.2⟩
      rcases ins_mem hd with rfl | hd
      · exact (T.total d y).resolve_left hx
      · exact h.1 d hd
theorem ins_filter {c x : D} (T : PySem.W.TotalLe le) : ∀ {l : List D}, (insD le x l).filter (PySem.W.sameRank le c) = (x :: l).filter (PySem.W.sameRank le c)
  | [] => rfl
  | y :: ys => by
    unfold insD
    split
    · rfl
    · rename_i hx
      rw [List.filter_cons, ins_filter T, List.filter_cons, List.filter_cons, List.filter_cons]
      by_cases h1 : PySem.W.sameRank le c y = true <;> by_cases h2 : PySem.W.sameRank le c x = true
      · unfold PySem.W.sameRank at h1 h2
        simp only [Bool.and_eq_true] at h1 h2
        exact absurd (T.trans _ _ _ h2.2 h1.1) hx
      · simp [h1, h2]
      · simp [h1, h2]
      · simp [h1, h2]
theorem isort_merge (T : PySem.W.TotalLe le) (l : List D) : isortD le l = l.mergeSort le := by
  have pw : ∀ l : List D, (isortD le l).Pairwise (fun a b => le a b = true) := by
    intro l
    induction l with
    | nil => exact .nil
    | cons x l ih => exact ins_pw T ih
  have fl : ∀ (c : D) (l : List D), (isortD le l).filter (PySem.W.sameRank le c) = l.filter (PySem.W.sameRank le c) := by
    intro c l
    induction l with
    | nil => rfl
    | cons x l ih =>
      show (insD le x (isortD le l)).filter _ = _
      rw [ins_filter T, List.filter_cons, List.filter_cons, ih]
  exact PySem.W.sort_unique T (pw l) fun c => fl c l
end
theorem leD_eq : leD = PySem.W.dataLe false D.toP := rfl
theorem isort_data (l : List D) : isortD leD l = l.mergeSort (PySem.W.dataLe false D.toP) := by
  rw [leD_eq]
  exact isort_merge (PySem.W.sortLe_total _ _ _) l
end Rw
set_option Elab.async false
set_option linter.all false
set_option autoImplicit false
set_option maxRecDepth 100000
set_option maxHeartbeats 4000000
namespace Rw
open PySem PySem.Spec PyProof.Rows L2

/-! ## a dict's entries as they stand -/
theorem vals_get : ∀ {xs : List V} {us : List Value}, xs.length = us.length → (∀ (i : Nat) (v : V) (u : Value), xs[i]? = some v → us[i]? = some u → RelV v u) → Vals xs us
  | [], [], _, _ => .nil
  | x :: xs, u :: us, hl, h => .cons (h 0 x u rfl rfl) (vals_get (by simpa using hl) fun i v w a b => h (i + 1) v w (by simpa using a) (by simpa using b))
  | [], _ :: _, hl, _ => by simp at hl
  | _ :: _, [], hl, _ => by simp at hl
section
variable {x : Gx} {X : Cx} {pins : List (Addr × Obj)} {σ : L2.St} {s : Shared} {π : Nm} {H : Hp} {a : Addr} {kvs : List (D × D)} {u : HO}
theorem DT.vals : ∀ {kvs : List (D × D)} {ps : List (NestedKey × Addr × Value)}, DT x π H kvs ps → RVs x π H (kvs.map (·.1)) (ps.map fun q => V.ref q.2.1) ∧ ∃ vs, Vals vs (ps.map (·.2.2)) ∧ RVs x π H (kvs.map (·.2)) vs
  | [], [], .nil => ⟨.nil, [], .nil, .nil⟩
  | _ :: _, _ :: _, .cons ⟨_, z2, v, z3, z4⟩ t => by
    obtain ⟨h1, vs, h2, h3⟩ := DT.vals t
    exact ⟨.cons z2 h1, v :: vs, .cons z3 h2, .cons z4 h3⟩
theorem DK.vals : ∀ {kvs : List (D × D)} {ps : List (L2.Key × V)}, DK x π H kvs ps → RVs x π H (kvs.map (·.1)) (ps.map fun q => kV q.1) ∧ RVs x π H (kvs.map (·.2)) (ps.map (·.2))
  | [], [], .nil => ⟨.nil, .nil⟩
  | _ :: _, _ :: _, .cons ⟨z1, z2⟩ t => by
    obtain ⟨h1, h2⟩ := DK.vals t
    exact ⟨.cons (rv_key z1) h1, .cons z2 h2⟩
theorem raw_of (hK : X.K = x.K) (hP : X.prog = x.P) (hw : X.w = x.w) (I : Inv X pins σ H s) (r : DH x π H a kvs u) (e : Rd H a u) :
    (a == sysModules) = false ∧ ∃ es ep ks vs, s.heap.DictRaw a es ep ∧ es.size = kvs.length ∧ kvs.length ≤ sizeLine ∧ Vals ks (es.toList.map (·.key)) ∧ Vals vs (es.toList.map (·.val)) ∧ RVs x π H (kvs.map (·.1)) ks ∧ RVs x π H (kvs.map (·.2)) vs := by
  cases r with
  | @flat ps dk nd =>
    obtain ⟨z, lo, qs, kv, dd⟩ := dk_rd I.hok e
    obtain ⟨es, ep, raw, hs, hx⟩ := dd.raw
    obtain ⟨h1, h2⟩ := dk.vals
    have l1 : kvs.length = ps.length := Paired.len dk
    have l2 : ps.length = qs.length := Paired.length kv
    refine ⟨lo, es, ep, _, _, raw, by omega, by omega, vals_get (by simp; omega) fun i v w e1 e2 => ?_, vals_get (by simp; omega) fun i v w e1 e2 => ?_, h1, h2⟩
    · rw [List.getElem?_map, Option.map_eq_some_iff] at e1 e2
      obtain ⟨⟨k, v0⟩, e1, rfl⟩ := e1
      obtain ⟨en, e2, rfl⟩ := e2
      obtain ⟨hi, e3⟩ := List.getElem?_eq_some_iff.mp e2
      obtain ⟨⟨k', u'⟩, e4, e5⟩ := Paired.at kv e1
      have hi' : i < es.size := by simpa using hi
      obtain ⟨m1, m2⟩ := hx i hi' k' u' e4
      have e6 : es[i] = en := by rw [← e3]; simp
      rw [← e6]
      have e7 : k = k' := e5.1
      subst e7
      exact relV_key m1
    · rw [List.getElem?_map, Option.map_eq_some_iff] at e1 e2
      obtain ⟨⟨k, v0⟩, e1, rfl⟩ := e1
      obtain ⟨en, e2, rfl⟩ := e2
      obtain ⟨hi, e3⟩ := List.getElem?_eq_some_iff.mp e2
      obtain ⟨⟨k', u'⟩, e4, e5⟩ := Paired.at kv e1
      have hi' : i < es.size := by simpa using hi
      obtain ⟨m1, m2⟩ := hx i hi' k' u' e4
      have e6 : es[i] = en := by rw [← e3]; simp
      rw [← e6, m2]
      exact e5.2
  | @tups ps dt nd ne =>
    obtain ⟨dd, lo, z⟩ := dn_ok hK hP hw I e dt
    obtain ⟨es, ep, raw, hs, hx⟩ := dd.raw
    obtain ⟨h1, vs, h2, h3⟩ := dt.vals
    have l1 : kvs.length = ps.length := Paired.len dt
    have l3 := h2.length
    rw [List.length_map] at l3
    refine ⟨lo, es, ep, _, vs, raw, by omega, by omega, vals_get (by simp; omega) fun i v w e1 e2 => ?_, vals_get (by simp; omega) fun i v w e1 e2 => ?_, h1, h3⟩
    · rw [List.getElem?_map, Option.map_eq_some_iff] at e1 e2
      obtain ⟨q, e1, rfl⟩ := e1
      obtain ⟨en, e2, rfl⟩ := e2
      obtain ⟨hi, e3⟩ := List.getElem?_eq_some_iff.mp e2
      have hi' : i < es.size := by simpa using hi
      obtain ⟨y, e4, m1, m2, _⟩ := hx i hi'
      rw [e1] at e4
      cases e4
      have e6 : es[i] = en := by rw [← e3]; simp
      rw [← e6, m1]
      rfl
    · rw [List.getElem?_map, Option.map_eq_some_iff] at e2
      obtain ⟨en, e2, rfl⟩ := e2
      obtain ⟨hi, e3⟩ := List.getElem?_eq_some_iff.mp e2
      have hi' : i < es.size := by simpa using hi
      obtain ⟨y, e4, m1, m2, _⟩ := hx i hi'
      obtain ⟨w', ew, rw'⟩ := h2.get e1
      rw [List.getElem?_map, e4] at ew
      have ew' : y.2.2 = w' := Option.some.inj ew
      have e6 : es[i] = en := by rw [← e3]; simp
      rw [← e6, m2, ew']
      exact rw'
end
end Rw
set_option Elab.async false
set_option linter.all false
set_option autoImplicit false
set_option maxRecDepth 100000
set_option maxHeartbeats 4000000
namespace Rw
open PySem PySem.Spec PyProof.Rows L2

/-! ## walks over a locked dict, by its entries -/
def Frz (H : Hp) (d : Addr) (o : Obj) : Prop := ∃ u, H d = some (.frz o u)
def Jk (d : Addr) (o : Obj) (ks : List V) : It := ⟨fun i H => Frz H d o ∧ i < ks.length, fun i H x H' => H' = H ∧ ks[i]? = some x, fun i H => Frz H d o ∧ ks.length ≤ i⟩
def Ji (d : Addr) (o : Obj) (ks vs : List V) : It := ⟨fun i H => Frz H d o ∧ i < ks.length, fun i H x H' => ∃ T k v, ks[i]? = some k ∧ vs[i]? = some v ∧ x = .ref T ∧ H T = none ∧ H' = upd H T (.tup [k, v]), fun i H => Frz H d o ∧ ks.length ≤ i⟩
section
variable {P : Program} {w : World} {K : PySem.W.Frag} {tg : Expr} {d : Addr} {o : Obj} {es : Array DictEntry} {ep : Nat} {ks vs : List V}
theorem frz_raw {X : Cx} {pins : List (Addr × Obj)} {σ : L2.St} {H : Hp} {s : Shared} (I : Inv X pins σ H s) (f : Frz H d o) (hx : o.ExactDict) (hod : o.data = .dict es ep) : s.heap.DictRaw d es ep := by
  obtain ⟨u, e⟩ := f
  exact ⟨o, (I.hok d _ e).1, hx, hod⟩
theorem ents_get {f : DictEntry → Value} {i : Nat} (hv : Vals ks (es.toList.map f)) (hi : i < ks.length) : ∃ (h : i < es.size) (v : V), ks[i]? = some v ∧ RelV v (f es[i]) := by
  have hl : ks.length = es.size := by simpa using hv.length
  obtain ⟨u, e, r⟩ := hv.get (List.getElem?_eq_getElem hi)
  have h : i < es.size := by omega
  refine ⟨h, ks[i], List.getElem?_eq_getElem hi, ?_⟩
  rw [List.getElem?_map] at e
  have : es.toList[i]? = some es[i] := by simp [h]
  rw [this] at e
  cases e
  exact r
theorem turn_k (it : Addr) (hx : o.ExactDict) (hod : o.data = .dict es ep) (hv : Vals ks (es.toList.map (·.key))) : Turn P w K tg (Jk d o ks) [it] it (fun i h => h.IsKeyIter it d i es.size ep) where
  mem := by simp
  obj := fun i h st b hb => by
    have e : b = it := by simpa using hb
    subst e
    obtain ⟨oi, e, c, dd⟩ := st
    exact ⟨oi, e, fun v z => by rw [dd] at z; cases z⟩
  keep := fun i h h' st k => st.at fun oi e => k it (by simp) oi e
  item := by
    intro X hP hw hK hc i pins s σ H E I hf st hg
    subst hP hw hK
    obtain ⟨hd, hi⟩ := hg
    obtain ⟨f0, f1, f2, f3, f4, f5⟩ := hf it (by simp)
    obtain ⟨hi', v, ev, rv⟩ := ents_get hv hi
    refine PySem.wpAny_pyNext_keys_item_raw st (frz_raw I hd hx hod) hi' fun h' st' sb => ?_
    have I1 : Inv X pins σ H { s with heap := h' } := I.turned (t' := s.toks) (fun b ob hb e => (sb.2 b hb).trans e) f0 f1 f3 f4 f5
    obtain ⟨oi, e, c, dd⟩ := id st'
    exact ⟨_, rfl, go_of (s := { s with heap := h' }) e c dd (by decide) ⟨v, H, I1, rv, ⟨rfl, ev⟩, st', fun b hb => (hf b hb).1⟩⟩
  done := by
    intro X hP hw hK hc i pins s σ H E I hf st hg
    subst hP hw hK
    obtain ⟨hd, hi⟩ := hg
    obtain ⟨f0, f1, f2, f3, f4, f5⟩ := hf it (by simp)
    have hl : ks.length = es.size := by simpa using hv.length
    exact PySem.wpAny_pyNext_keys_end_raw (I.ok.hd hc) st (frz_raw I hd hx hod) (by omega) fun h' eb => ⟨rfl, I.turned (t' := s.toks) (fun b ob hb e => eb b ob hb e) f0 f1 f3 f4 f5⟩
  self := fun A i s Q E st h => wpAny_pyIter_keyiter st h
theorem turn_v (it : Addr) (hx : o.ExactDict) (hod : o.data = .dict es ep) (hv : Vals ks (es.toList.map (·.val))) : Turn P w K tg (Jk d o ks) [it] it (fun i h => h.IsValIter it d i es.size ep) where
  mem := by simp
  obj := fun i h st b hb => by
    have e : b = it := by simpa using hb
    subst e
    obtain ⟨oi, e, c, dd⟩ := st
    exact ⟨oi, e, fun v z => by rw [dd] at z; cases z⟩
  keep := fun i h h' st k => st.at fun oi e => k it (by simp) oi e
  item := by
    intro X hP hw hK hc i pins s σ H E I hf st hg
    subst hP hw hK
    obtain ⟨hd, hi⟩ := hg
    obtain ⟨f0, f1, f2, f3, f4, f5⟩ := hf it (by simp)
    obtain ⟨hi', v, ev, rv⟩ := ents_get hv hi
    refine PySem.wpAny_pyNext_values_item_raw st (frz_raw I hd hx hod) hi' fun h' st' sb => ?_
    have I1 : Inv X pins σ H { s with heap := h' } := I.turned (t' := s.toks) (fun b ob hb e => (sb.2 b hb).trans e) f0 f1 f3 f4 f5
    obtain ⟨oi, e, c, dd⟩ := id st'
    exact ⟨_, rfl, go_of (s := { s with heap := h' }) e c dd (by decide) ⟨v, H, I1, rv, ⟨rfl, ev⟩, st', fun b hb => (hf b hb).1⟩⟩
  done := by
    intro X hP hw hK hc i pins s σ H E I hf st hg
    subst hP hw hK
    obtain ⟨hd, hi⟩ := hg
    obtain ⟨f0, f1, f2, f3, f4, f5⟩ := hf it (by simp)
    have hl : ks.length = es.size := by simpa using hv.length
    exact PySem.wpAny_pyNext_values_end_raw (I.ok.hd hc) st (frz_raw I hd hx hod) (by omega) fun h' eb => ⟨rfl, I.turned (t' := s.toks) (fun b ob hb e => eb b ob hb e) f0 f1 f3 f4 f5⟩
  self := fun A i s Q E st h => wpAny_pyIter_valiter st h
theorem turn_i {elts : List Expr} {kk : Nat} {tpos : Pos} (it : Addr) (hx : o.ExactDict) (hod : o.data = .dict es ep) (hv : Vals ks (es.toList.map (·.key))) (hv2 : Vals vs (es.toList.map (·.val))) :
    Turn P w K (.Tuple elts kk tpos) (Ji d o ks vs) [it] it (fun i h => ∃ ok ov, IsItemIter h it d i es.size ep ok ov) where
  mem := by simp
  obj := fun i h st b hb => by
    have e : b = it := by simpa using hb
    subst e
    obtain ⟨ok, ov, e⟩ := st
    exact ⟨_, e, fun v z => nomatch z⟩
  keep := fun i h h' st k => let ⟨ok, ov, e⟩ := st; ⟨ok, ov, k it (by simp) _ e⟩
  item := by
    intro X hP hw hK hc i pins s σ H E I hf st hg
    subst hP hw hK
    obtain ⟨hd, hi⟩ := hg
    have hl := hv.length
    have hl2 := hv2.length
    rw [List.length_map] at hl hl2
    obtain ⟨hi', v, ev, rv⟩ := ents_get hv hi
    obtain ⟨_, v2, ev2, rv2⟩ := ents_get (i := i) hv2 (by omega)
    obtain ⟨ok, ov, he⟩ := st
    have hlt : it < s.heap.objs.size := Heap.lt_size he
    refine PySem.wpAny_pyNext_items_item_raw he (frz_raw I hd hx hod) hi' fun h' ho hT hz hk => ?_
    refine ⟨_, rfl, wpAny_letOwnedTupleGo_items (s := { s with heap := h' }) ho fun h'' he' sb => ?_⟩
    have hT2 : h''.get? s.heap.objs.size = some { cls := .type "tuple", data := .seq #[es[i].key, es[i].val] } := (sb.2 _ (Nat.ne_of_gt hlt)).trans hT
    have new : ObjOk X.prog X.w (upd H s.heap.objs.size (.tup [v, v2])) h'' s.heap.objs.size (.tup [v, v2]) :=
      ⟨by show 2 ≤ sizeLine; decide, [es[i].key, es[i].val], .cons rv (.cons rv2 .nil), ⟨_, hT2, rfl, _, rfl⟩⟩
    have I1 : Inv X pins σ (upd H s.heap.objs.size (.tup [v, v2])) { s with heap := h'' } :=
      I.turnedNew (t' := s.toks) (ch := [it]) (fun b ob hb e => (sb.2 b (by simpa using hb)).trans (hk b ob (by simpa using hb) e)) hf (Nat.le_refl _) new
    refine ⟨.ref s.heap.objs.size, _, I1, rfl, ⟨_, v, v2, ev, ev2, rfl, I.hok.fresh (Nat.le_refl _), rfl⟩, ⟨_, _, he'⟩, fun b hb => ?_⟩
    have e : b = it := by simpa using hb
    rw [e, upd_ne (Nat.ne_of_lt hlt)]
    exact (hf it (by simp)).1
  done := by
    intro X hP hw hK hc i pins s σ H E I hf st hg
    subst hP hw hK
    obtain ⟨hd, hi⟩ := hg
    obtain ⟨f0, f1, f2, f3, f4, f5⟩ := hf it (by simp)
    have hl : ks.length = es.size := by simpa using hv.length
    obtain ⟨ok, ov, he⟩ := st
    exact PySem.wpAny_pyNext_items_end_raw (I.ok.hd hc) he (frz_raw I hd hx hod) (by omega) fun h' eb => ⟨rfl, I.turned (t' := s.toks) (fun b ob hb e => eb b ob hb e) f0 f1 f3 f4 f5⟩
  self := fun A i s Q E st h => let ⟨_, _, e⟩ := st; PySem.W.kcp_self e h
end
/-! ### rules -/
section
variable {x : Gx} {X : Cx} {tg e : Expr} {t : TE} {ap cpos : Pos}
/-- what a walk over the dict at d gives -/
def DGo (x : Gx) (Rk : Obj → List V → List V → Hp → Prop) (v : V) (H1 : Hp) : Prop := ∃ π d kvs u od, v = .ref d ∧ DH x π H1 d kvs u ∧ H1 d = some (.frz od u) ∧ ∀ ks vs, RVs x π H1 (kvs.map (·.1)) ks → RVs x π H1 (kvs.map (·.2)) vs → Rk od ks vs H1
theorem frz_ex {pins : List (Addr × Obj)} {σ : L2.St} {s : Shared} {H : Hp} {d : Addr} {o : Obj} {u : HO} {es : Array DictEntry} {ep : Nat} (I : Inv X pins σ H s) (e : H d = some (.frz o u)) (r : s.heap.DictRaw d es ep) : o.ExactDict ∧ o.data = .dict es ep := by
  obtain ⟨o', ho, h1, h2⟩ := r
  have := (I.hok d _ e).1
  rw [ho] at this
  cases this
  exact ⟨h1, h2⟩
theorem pi_keysR (hK : X.K = x.K) (hP : X.prog = x.P) (hw : X.w = x.w) (he : PE X e t) : PI X tg e (fun σ H R => t σ H fun v H1 => ∃ d, v = .ref d ∧ DGo x (fun od ks vs H1 => R (Jk d od ks) H1) v H1) := by
  refine ⟨fun pins s σ H R I h => thn (he.run pins s σ H _ I h) fun u s1 ⟨v, H1, I1, rv, d, ev, π, d', kvs, uo, od, ev', dh, ef, q⟩ => ?_⟩
  subst ev
  cases ev'
  obtain rfl : u = Value.ref d := rv
  obtain ⟨lo, es, ep, ks, vs, raw, h1, h2, h3, h4, h5, h6⟩ := raw_of hK hP hw I1 dh (.inr ⟨od, ef⟩)
  obtain ⟨hx, hod⟩ := frz_ex I1 ef raw
  exact PySem.wpAny_pyIter_dict_raw lo raw (pi_one (tk := s1.toks) I1 _ (turn_k _ hx hod h3) ⟨_, Heap.get?_push_size _ rfl, rfl, rfl⟩ (q ks vs h5 h6))
theorem pi_valsR (hK : X.K = x.K) (hP : X.prog = x.P) (hw : X.w = x.w) (he : PE X e t) (hbase : attributeBase e "values" X.env (eval e X.env) = eval e X.env) (hline : (ap.endLine == cpos.line) = true) :
    PI X tg (.Call (.Attribute e "values" ap) [] [] cpos) (fun σ H R => t σ H fun v H1 => ∃ d, v = .ref d ∧ DGo x (fun od ks vs H1 => R (Jk d od vs) H1) v H1) := by
  refine ⟨fun pins s σ H R I h => ?_⟩
  refine wpAny_Call_method (T := "dict") (id := "dict.values") hbase rfl hline F.plainAttrs_dict F.slot_dict_values F.type_dict_values (thn (he.run pins s σ H _ I h) fun u s1 ⟨v, H1, I1, rv, d, ev, π, d', kvs, uo, od, ev', dh, ef, q⟩ => ?_)
  subst ev
  cases ev'
  obtain rfl : u = Value.ref d := rv
  obtain ⟨lo, es, ep, ks, vs, raw, h1, h2, h3, h4, h5, h6⟩ := raw_of hK hP hw I1 dh (.inr ⟨od, ef⟩)
  obtain ⟨hx, hod⟩ := frz_ex I1 ef raw
  refine ⟨raw.typeIs, fun a ea => ?_, ?_⟩
  · cases ea
    obtain ⟨o', ho, h1, h2⟩ := raw
    exact ⟨o', ho, h1.2.1⟩
  have I2 : Inv X pins σ H1 { s1 with heap := s1.heap.push { cls := .type "dict_values", data := .fields #[.ref d] } } := I1.kept (t' := s1.toks) fun b ob q => Heap.get?_push_of_some _ q
  have raw2 : (s1.heap.push { cls := .type "dict_values", data := .fields #[.ref d] }).DictRaw d es ep := raw.at fun o e => Heap.get?_push_of_some _ e
  have fin : wpAny (model X.prog X.w) X.A (pyIter (.ref s1.heap.objs.size)) (PIE X pins σ tg R) X.xe { s1 with heap := s1.heap.push { cls := .type "dict_values", data := .fields #[.ref d] } } := by
    exact PySem.wpAny_pyIter_values_raw (d := d) ⟨_, Heap.get?_push_size _ rfl, rfl, rfl⟩ raw2 (pi_one (tk := s1.toks) I2 _ (turn_v _ hx hod h4) ⟨_, Heap.get?_push_size _ rfl, rfl, rfl⟩ (q ks vs h5 h6))
  show wpAny _ _ (callWith cpos (.builtin "dict.values") [.ref d] [] []) _ X.xe s1
  exact method_meetsIn F.slot_dict_values F.entry_dict_values rfl (PySem.evalArgs_none ⟨rfl, raw.typeIs, F.args_dict_values_1 _, _, PySem.meets_dict_values_raw d lo, ⟨es, ep, raw⟩, fin⟩)
theorem pi_itemsR {elts : List Expr} {kk : Nat} {tpos : Pos} (hK : X.K = x.K) (hP : X.prog = x.P) (hw : X.w = x.w) (he : PE X e t) (hbase : attributeBase e "items" X.env (eval e X.env) = eval e X.env) (hline : (ap.endLine == cpos.line) = true) :
    PI X (.Tuple elts kk tpos) (.Call (.Attribute e "items" ap) [] [] cpos) (fun σ H R => t σ H fun v H1 => ∃ d, v = .ref d ∧ DGo x (fun od ks vs H1 => R (Ji d od ks vs) H1) v H1) := by
  refine ⟨fun pins s σ H R I h => ?_⟩
  refine wpAny_Call_method (T := "dict") (id := "dict.items") hbase rfl hline F.plainAttrs_dict F.slot_dict_items F.type_dict_items (thn (he.run pins s σ H _ I h) fun u s1 ⟨v, H1, I1, rv, d, ev, π, d', kvs, uo, od, ev', dh, ef, q⟩ => ?_)
  subst ev
  cases ev'
  obtain rfl : u = Value.ref d := rv
  obtain ⟨lo, es, ep, ks, vs, raw, h1, h2, h3, h4, h5, h6⟩ := raw_of hK hP hw I1 dh (.inr ⟨od, ef⟩)
  obtain ⟨hx, hod⟩ := frz_ex I1 ef raw
  refine ⟨raw.typeIs, fun a ea => ?_, ?_⟩
  · cases ea
    obtain ⟨o', ho, h1, h2⟩ := raw
    exact ⟨o', ho, h1.2.1⟩
  have I2 : Inv X pins σ H1 { s1 with heap := s1.heap.push { cls := .type "dict_items", data := .fields #[.ref d] } } := I1.kept (t' := s1.toks) fun b ob q => Heap.get?_push_of_some _ q
  have raw2 : (s1.heap.push { cls := .type "dict_items", data := .fields #[.ref d] }).DictRaw d es ep := raw.at fun o e => Heap.get?_push_of_some _ e
  have fin : wpAny (model X.prog X.w) X.A (pyIter (.ref s1.heap.objs.size)) (PIE X pins σ (.Tuple elts kk tpos) R) X.xe { s1 with heap := s1.heap.push { cls := .type "dict_items", data := .fields #[.ref d] } } := by
    exact PySem.wpAny_pyIter_items_raw (d := d) ⟨_, Heap.get?_push_size _ rfl, rfl, rfl⟩ raw2 (pi_one (tk := s1.toks) I2 _ (turn_i _ hx hod h3 h4) ⟨.none, .none, Heap.get?_push_size _ rfl⟩ (q ks vs h5 h6))
  show wpAny _ _ (callWith cpos (.builtin "dict.items") [.ref d] [] []) _ X.xe s1
  exact method_meetsIn F.slot_dict_items F.entry_dict_items rfl (PySem.evalArgs_none ⟨rfl, raw.typeIs, F.args_dict_items_1 _, _, PySem.meets_dict_items_raw d lo, ⟨es, ep, raw⟩, fin⟩)
/-! ### what they yield -/
variable {W : L2.WX} {π0 : Nm} {H0 : Hp} {h0 : AH} {ds ds2 : List D} {d : Addr} {o : Obj} {ks vs : List V} {ws : List Nat}
theorem Frz.keep {π π' : Nm} {H H' : Hp} (k : Keep π H π' H') (f : Frz H d o) : Frz H' d o := let ⟨u, e⟩ := f; ⟨u, k.frz _ _ _ e⟩
theorem it_k (f : Frz H0 d o) (r : RVs x π0 H0 ds ks) : ItOk x (Jk d o ks) π0 H0 h0 ds ws := by
  refine ⟨fun i π H h hi k w s => ⟨f.keep k, by rw [← r.length]; exact hi⟩, fun π H h k w s => ⟨f.keep k, Nat.le_of_eq r.length.symm⟩, fun i d' π H h v H' e k w s y => ?_⟩
  obtain ⟨rfl, e1⟩ := y
  obtain ⟨v', e2, r'⟩ := r.get e
  rw [e1] at e2
  cases e2
  exact ⟨Keep.refl, w, r'.keep k, fun _ _ e => e⟩
theorem pair_get : ∀ {as bs : List D} {i : Nat} {d' : D}, (as.zip bs)[i]?.map (fun p => D.tup [p.1, p.2]) = some d' → ∃ a b, as[i]? = some a ∧ bs[i]? = some b ∧ d' = .tup [a, b] := by
  intro as bs i d' e
  rw [Option.map_eq_some_iff] at e
  obtain ⟨⟨a, b⟩, e, rfl⟩ := e
  rw [List.getElem?_zip_eq_some] at e
  exact ⟨a, b, e.1, e.2, rfl⟩
theorem it_i {kvs : List (D × D)} (f : Frz H0 d o) (r : RVs x π0 H0 (kvs.map (·.1)) ks) (r2 : RVs x π0 H0 (kvs.map (·.2)) vs) : ItOk x (Ji d o ks vs) π0 H0 h0 (kvs.map fun kv => .tup [kv.1, kv.2]) ws := by
  have hl : kvs.length = ks.length := by have := r.length; simpa using this
  refine ⟨fun i π H h hi k w s => ⟨f.keep k, by rw [← hl]; simpa using hi⟩, fun π H h k w s => ⟨f.keep k, by simp [hl]⟩, fun i d' π H h v H' e k w s y => ?_⟩
  obtain ⟨T, k1, v1, e1, e2, rfl, nT, rfl⟩ := y
  rw [List.getElem?_map, Option.map_eq_some_iff] at e
  obtain ⟨⟨kd, vd⟩, e3, rfl⟩ := e
  obtain ⟨k2, e4, ra⟩ := r.get (show (kvs.map (·.1))[i]? = some kd by rw [List.getElem?_map, e3]; rfl)
  obtain ⟨v2, e5, rb⟩ := r2.get (show (kvs.map (·.2))[i]? = some vd by rw [List.getElem?_map, e3]; rfl)
  rw [e1] at e4
  rw [e2] at e5
  cases e4
  cases e5
  have kp : Keep π H π (upd H T (.tup [k1, v1])) := Keep.upd nT
  exact ⟨kp, w.upd nT, .tup (.inl upd_same) (.cons ((ra.keep k).keep kp) (.cons ((rb.keep k).keep kp) .nil)), fun b z e => by rw [upd_ne (ne_of_none e nT)]; exact e⟩
end
end Rw
set_option Elab.async false
set_option linter.all false
set_option autoImplicit false
set_option maxRecDepth 100000
set_option maxHeartbeats 4000000
namespace Rw
open PySem PySem.Spec PyProof.Rows L2

/-! ## walks over what an expression tells -/
section
variable {x : Gx} {X : Cx} {W : L2.WX} {tg a : Expr} {ma : St → AH → R D} {ap pos : Pos}
/-- by a dict -/
theorem dict_walk {Q : It → Hp → Prop} {Jf : Addr → Obj → List V → List V → It} {out : List D} {π : Nm} {ρ : St} {h h1 : AH} {σ : L2.St} {H : Hp} {n : Nat} {kvs : List (D × D)} {lk : Bool}
    (ha : PE X a (tE x W ma)) (b : Beg x π ρ h σ H) (e : ma ρ h = .ok (.ref n) h1) (eo : h1[n]? = some (.dct kvs lk)) (p : PostI x (NFx X) W π H (.ok (out, [n]) h1) σ Q)
    (hJ : ∀ {π0 : Nm} {H0 : Hp} {h0 : AH} {d : Addr} {o : Obj} {ks vs : List V} {ws : List Nat}, Frz H0 d o → RVs x π0 H0 (kvs.map (·.1)) ks → RVs x π0 H0 (kvs.map (·.2)) vs → ItOk x (Jf d o ks vs) π0 H0 h0 out ws) :
    ∃ t : TE, PE X a t ∧ t σ H fun v H1 => ∃ d, v = .ref d ∧ DGo x (fun od ks vs H1 => Q (Jf d od ks vs) H1) v H1 := by
  cases lk with
  | true =>
    refine ⟨_, ha, tF.done b e fun π1 H1 v b1 k1 r1 => ?_⟩
    obtain ⟨c, rfl, ec⟩ := rv_ref r1
    obtain ⟨u, dh, od, q⟩ := b1.wd.dct eo ec
    refine ⟨c, rfl, π1, c, kvs, u, od, rfl, dh, q, fun ks vs r2 r3 => ?_⟩
    exact (p.keep k1) π1 H1 H1 _ Keep.refl.toX b1.wd (.inl ⟨lockH_lk eo, rfl⟩) (hJ ⟨u, q⟩ r2 r3)
  | false =>
    refine ⟨_, pe_lockA ha, tF.done b e fun π1 H1 v b1 k1 r1 => ?_⟩
    obtain ⟨c, rfl, ec⟩ := rv_ref r1
    obtain ⟨u, dh, q⟩ := b1.wd.dct eo ec
    have mu : Mut (some u) := by have := (not_tup_of dh q).2; rw [q] at this; exact this
    refine ⟨c, u, rfl, q, mu, fun od nf => ?_⟩
    obtain ⟨k2, w2⟩ := b1.wd.lockD (od := od) ec eo dh q
    refine ⟨c, rfl, π1, c, kvs, u, od, rfl, dh.keep k2, upd_same, fun ks vs r2 r3 => ?_⟩
    exact (p.keep k1) π1 H1 _ _ Keep.refl.toX b1.wd (.inr ⟨n, c, kvs, u, od, lk1_dct eo, eo, ec, dh, q, rfl, nf⟩) (hJ ⟨u, upd_same⟩ r2 r3)
def mWe (ma : St → AH → R D) : St → AH → R (List D × List Nat) := fun ρ h => (ma ρ h).bind fun d h => (R.opt h (seqD .k h d)).bind fun xs h => .ok (xs, refsOf d) h
theorem i_q (hK : X.K = x.K) (hP : X.prog = x.P) (hw : X.w = x.w) (ha : PE X a (tE x W ma)) : PI X tg a (tI x (NFx X) W (mWe ma)) := by
  refine PI.of fun σ H Q ⟨π, ρ, h, b, p⟩ => ?_
  unfold mWe at p
  cases e : ma ρ h with
  | ex c d h1 =>
    rw [e] at p
    exact ⟨_, pi_list ha, π, ρ, h, b, by rw [e]; exact p⟩
  | bad => rw [e] at p; exact p.elim
  | ok d h1 =>
    rw [e] at p
    replace p : PostI x (NFx X) W π H ((R.opt h1 (seqD .k h1 d)).bind fun xs h => .ok (xs, refsOf d) h) σ Q := p
    cases d with
    | tup xs =>
      replace p : PostI x (NFx X) W π H (.ok (xs, []) h1) σ Q := p
      refine ⟨_, pi_tup ha, tF.done b e fun π1 H1 v b1 k1 r1 => ?_⟩
      obtain ⟨c, vs, rfl, t, l⟩ := rv_tup r1
      refine ⟨c, rfl, ⟨vs, by rw [hK]; exact t.sq⟩, ?_⟩
      rw [hK]
      exact (p.keep k1).ok0 b1.wd (it_seqT t l)
    | ref n =>
      cases eo : h1[n]? with
      | none =>
        have : seqD .k h1 (.ref n) = none := by simp only [seqD, eo]
        rw [this] at p
        exact p.elim
      | some o =>
        cases o with
        | lst xs lk =>
          have e2 : seqD .k h1 (.ref n) = some xs := by simp [seqD, eo]
          rw [e2] at p
          replace p : PostI x (NFx X) W π H (.ok (xs, [n]) h1) σ Q := p
          refine ⟨_, pi_list ha, tF.done b e fun π1 H1 v b1 k1 r1 => ?_⟩
          obtain ⟨c, rfl, ec⟩ := rv_ref r1
          obtain ⟨vs, l, q⟩ := b1.wd.lst eo ec
          refine ⟨c, rfl, ⟨vs, .inl q.rd⟩, ?_⟩
          exact (p.keep k1) π1 H1 H1 _ Keep.refl.toX b1.wd (.inl ⟨lockH_lst eo, rfl⟩) (by rw [lock_none (lockH_lst eo)]; exact it_seqL X.K ec eo)
        | dct kvs lk =>
          have e2 : seqD .k h1 (.ref n) = some (kvs.map (·.1)) := by simp [seqD, eo]
          rw [e2] at p
          obtain ⟨t, pt, q⟩ := dict_walk (Jf := fun d o ks vs => Jk d o ks) ha b e eo p fun f r _ => it_k f r
          exact ⟨_, pi_keysR hK hP hw pt, q⟩
    | _ => exact p.elim
def mItems (ma : St → AH → R D) : St → AH → R (List D × List Nat) := fun ρ h => (ma ρ h).bind fun d h => (R.opt h (dctN h d)).bind fun n h => match h[n]? with
        | some (.dct kvs _) => .ok (kvs.map fun kv => .tup [kv.1, kv.2], [n]) h
        | _ => .bad
def mVals (ma : St → AH → R D) : St → AH → R (List D × List Nat) := fun ρ h => (ma ρ h).bind fun d h => (R.opt h (dctN h d)).bind fun n h => match h[n]? with
        | some (.dct kvs _) => .ok (kvs.map (·.2), [n]) h
        | _ => .bad
theorem dctN_of {h : AH} {d : D} {n : Nat} (e : dctN h d = some n) : d = .ref n ∧ ∃ kvs lk, h[n]? = some (.dct kvs lk) := by
  unfold dctN at e
  split at e
  · split at e
    · rename_i eh
      cases e
      exact ⟨rfl, _, _, eh⟩
    · cases e
  · cases e
theorem i_items {elts : List Expr} {kk : Nat} {tpos : Pos} (hK : X.K = x.K) (hP : X.prog = x.P) (hw : X.w = x.w) (hb : (match a with | .Call _ _ _ _ => false | _ => true) = true) (hl : (ap.endLine == pos.line) = true) (ha : PE X a (tE x W ma)) :
    PI X (.Tuple elts kk tpos) (.Call (.Attribute a "items" ap) [] [] pos) (tI x (NFx X) W (mItems ma)) := by
  refine PI.of fun σ H Q ⟨π, ρ, h, b, p⟩ => ?_
  unfold mItems at p
  cases e : ma ρ h with
  | ex c d h1 =>
    rw [e] at p
    exact ⟨_, pi_itemsR hK hP hw ha (base_of hb) hl, π, ρ, h, b, by rw [e]; exact p⟩
  | bad => rw [e] at p; exact p.elim
  | ok d h1 =>
    rw [e] at p
    replace p : PostI x (NFx X) W π H ((R.opt h1 (dctN h1 d)).bind fun n h => match h[n]? with
        | some (.dct kvs _) => .ok (kvs.map fun kv => .tup [kv.1, kv.2], [n]) h
        | _ => .bad) σ Q := p
    cases en : dctN h1 d with
    | none => rw [en] at p; exact p.elim
    | some n =>
      rw [en] at p
      obtain ⟨rfl, kvs, lk, eo⟩ := dctN_of en
      replace p : PostI x (NFx X) W π H (match h1[n]? with
        | some (.dct kvs _) => .ok (kvs.map fun kv => .tup [kv.1, kv.2], [n]) h1
        | _ => .bad) σ Q := p
      simp only [eo] at p
      obtain ⟨t, pt, q⟩ := dict_walk (Jf := fun d o ks vs => Ji d o ks vs) ha b e eo p fun f r r2 => it_i f r r2
      exact ⟨_, pi_itemsR hK hP hw pt (base_of hb) hl, q⟩
theorem i_vals (hK : X.K = x.K) (hP : X.prog = x.P) (hw : X.w = x.w) (hb : (match a with | .Call _ _ _ _ => false | _ => true) = true) (hl : (ap.endLine == pos.line) = true) (ha : PE X a (tE x W ma)) :
    PI X tg (.Call (.Attribute a "values" ap) [] [] pos) (tI x (NFx X) W (mVals ma)) := by
  refine PI.of fun σ H Q ⟨π, ρ, h, b, p⟩ => ?_
  unfold mVals at p
  cases e : ma ρ h with
  | ex c d h1 =>
    rw [e] at p
    exact ⟨_, pi_valsR hK hP hw ha (base_of hb) hl, π, ρ, h, b, by rw [e]; exact p⟩
  | bad => rw [e] at p; exact p.elim
  | ok d h1 =>
    rw [e] at p
    replace p : PostI x (NFx X) W π H ((R.opt h1 (dctN h1 d)).bind fun n h => match h[n]? with
        | some (.dct kvs _) => .ok (kvs.map (·.2), [n]) h
        | _ => .bad) σ Q := p
    cases en : dctN h1 d with
    | none => rw [en] at p; exact p.elim
    | some n =>
      rw [en] at p
      obtain ⟨rfl, kvs, lk, eo⟩ := dctN_of en
      replace p : PostI x (NFx X) W π H (match h1[n]? with
        | some (.dct kvs _) => .ok (kvs.map (·.2), [n]) h1
        | _ => .bad) σ Q := p
      simp only [eo] at p
      obtain ⟨t, pt, q⟩ := dict_walk (Jf := fun d o ks vs => Jk d o vs) ha b e eo p fun f _ r2 => it_k f r2
      exact ⟨_, pi_valsR hK hP hw pt (base_of hb) hl, q⟩
end
end Rw
set_option Elab.async false
set_option linter.all false
set_option autoImplicit false
set_option maxRecDepth 100000
set_option maxHeartbeats 4000000
namespace Rw
open PySem PySem.Spec PyProof.Rows L2

/-! ## lists, tuples, a dict's keys: read as a row -/
def FKd (x : Gx) (π : Nm) (H : Hp) (ds : List D) (v : V) : Prop := ∃ a kvs u, v = .ref a ∧ DH x π H a kvs u ∧ Rd H a u ∧ ds = kvs.map (·.1)
def FK (x : Gx) (π : Nm) (H : Hp) (ds : List D) (v : V) : Prop := FQ x π H ds v ∨ FKd x π H ds v
abbrev tK (x : Gx) (W : L2.WX) (m : St → AH → R (List D)) : TE := tF x (FK x) W m
section
variable {x : Gx} {X : Cx} {W : L2.WX} {a : Expr} {ma : St → AH → R D} {ml : St → AH → R (List D)} {pos p : Pos}
theorem seq_k {π : Nm} {H : Hp} {h : AH} {d : D} {ds : List D} {v : V} (w : Wd x π h H) (r : RV x π H d v) (e : seqD .k h d = some ds) : FK x π H ds v := by
  unfold seqD at e
  split at e
  · simp only [reduceCtorEq, if_false, Option.some.injEq] at e
    subst e
    obtain ⟨a, vs, rfl, t, l⟩ := rv_tup r
    exact .inl ⟨a, vs, rfl, .inr t, l⟩
  · obtain ⟨a, rfl, ea⟩ := rv_ref r
    split at e
    · rename_i xs lk eh
      simp only [reduceCtorEq, false_and, if_false, Option.some.injEq] at e
      subst e
      obtain ⟨vs, l, q⟩ := w.lst eh ea
      exact .inl ⟨a, vs, rfl, .inl (.inl q.rd), l⟩
    · rename_i kvs lk eh
      simp only [if_true, Option.some.injEq] at e
      subst e
      obtain ⟨u, dh, q⟩ := w.dct eh ea
      exact .inr ⟨a, kvs, u, rfl, dh, q.rd, rfl⟩
    · cases e
  · cases e
theorem k_e (h : PE X a (tE x W ma)) : PE X a (tK x W fun ρ h => (ma ρ h).bind fun d h => R.opt h (seqD .k h d)) := by
  refine PE.imp h fun σ H Q ⟨π, ρ, h, b, p⟩ => tF.fst b p fun π1 H1 h1 d1 v1 b1 r1 k1 p1 => ?_
  obtain ⟨ds, e, p2⟩ := p1.opt1
  exact p2.ok b1.wd (seq_k b1.wd r1 e)
theorem k_l (h : PE X a (tL x W ml)) : PE X a (tK x W ml) :=
  PE.imp h fun σ H Q ⟨π, ρ, h, b, p⟩ => ⟨π, ρ, h, b, PostF.of p fun π H d v f => .inl f.q⟩
/-- all the items, one after another -/
theorem coll (hK : X.K = x.K) (hP : X.prog = x.P) (hw : X.w = x.w) {A : Around} (hh : A.handled = none) {pins : List (Addr × Obj)} {σ : L2.St} {π : Nm} {H : Hp} {s : Shared} {ds : List D} {v : V} {u : Value} (I : Inv X pins σ H s) (f : FK x π H ds v) (rv : RelV v u) :
    ∃ vs, RVs x π H ds vs ∧ vs.length ≤ sizeLine ∧ ∀ (Q : List Value → Shared → Prop) (E : Value → Shared → Prop), (∀ (h' : Heap) (tk : Nat) (acc : List Value), (∀ b o, s.heap.get? b = some o → h'.get? b = some o) → Vals vs acc → Q acc { s with heap := h', toks := tk }) → wpAny (model X.prog X.w) A (collect u) Q E s := by
  rcases f with ⟨c, vs, rfl, sq, r⟩ | ⟨c, kvs, uo, rfl, dh, rd, rfl⟩
  · obtain rfl : u = Value.ref c := rv
    rcases sq with sq | sq
    · obtain ⟨its, rv, ⟨o, n, ho, hc, hd, hs⟩, hz⟩ := I.list (by rw [hK]; exact sq)
      refine ⟨vs, r, hz, fun Q E q => wpAny_collect_seq c (.inl rfl) ho hc hs (fun h' hk => q h' s.toks its hk rv) ?_⟩
      have := rv.length
      simp; omega
    · obtain ⟨its, rv, ⟨o, ho, hc, n, hs⟩, hz⟩ := I.tuple (by rw [hK]; exact sq.sq)
      refine ⟨vs, r, hz, fun Q E q => wpAny_collect_seq c (.inr rfl) ho hc hs (fun h' hk => q h' s.toks its hk rv) ?_⟩
      have := rv.length
      simp; omega
  · obtain rfl : u = Value.ref c := rv
    obtain ⟨lo, es, ep, ks, vs, raw, h1, h2, h3, h4, h5, h6⟩ := raw_of hK hP hw I dh rd
    have hl : ks.length = es.size := by simpa using h3.length
    refine ⟨ks, h5, by omega, fun Q E q => ?_⟩
    have src : PySem.W.KdlSrc X.prog X.w "dict" c c es.size (fun i v => ∃ hi : i < es.size, v = es[i].key) (fun h => h.DictRaw c es ep) :=
      { type := fun s hm => hm.typeIs
        there := fun h hm => let ⟨o, ho, _⟩ := hm; ⟨Heap.lt_size ho, Heap.lt_size ho⟩
        keep := fun h h' hm hk => hm.at fun o e => hk c (.inl rfl) o e
        notList := by decide
        notTuple := by decide
        hint := fun A E s Q hm hq => PySem.W.kdl_hint_dict hm.typeIs hq
        iter := fun A s hh hm => ⟨_, _, (fun _ _ hq => PySem.wpAny_pyIter_dict_raw lo hm hq), PySem.Walks.rawKeys hh _ c (let ⟨o, ho, _⟩ := hm; Nat.ne_of_lt (Heap.lt_size ho)) es ep, ⟨⟨_, Heap.get?_push_size _ rfl, rfl, rfl⟩, hm.at fun o e => Heap.get?_push_of_some _ e⟩⟩ }
    refine PySem.W.kdu_collect src hh raw (by omega) fun h' tk acc hk hacc => q h' tk _ hk ?_
    refine vals_get (by have := hacc.1; simp; omega) fun i v w e1 e2 => ?_
    obtain ⟨hi, e3⟩ := hacc.2 i w (by rw [← Array.getElem?_toList]; exact e2)
    rw [e3]
    obtain ⟨_, v', e4, r'⟩ := ents_get h3 (show i < ks.length by omega)
    rw [e1] at e4
    cases e4
    exact r'
/-! ### sorted -/
theorem each_of {π : Nm} {H : Hp} : ∀ {ds : List D} {vs : List V} {us : List Value}, RVs x π H ds vs → Vals vs us → PySem.W.EachIs (fun u d => ∃ v, RelV v u ∧ RV x π H d v) us ds
  | [], _, _, r, q => by cases r; cases q; exact .nil
  | d :: ds, _, _, r, q => by
    cases r with
    | cons r1 r2 =>
      cases q with
      | cons q1 q2 => exact .cons ⟨_, q1, r1⟩ (each_of r2 q2)
theorem each_to {π : Nm} {H : Hp} : ∀ {ds : List D} {us : List Value}, PySem.W.EachIs (fun u d => ∃ v, RelV v u ∧ RV x π H d v) us ds → ∃ vs, RVs x π H ds vs ∧ Vals vs us
  | [], _, r => by cases r; exact ⟨[], .nil, .nil⟩
  | d :: ds, _, r => by
    cases r with
    | cons r1 r2 =>
      obtain ⟨v, a, b⟩ := r1
      obtain ⟨vs, c, e⟩ := each_to r2
      exact ⟨v :: vs, .cons b c, .cons a e⟩
theorem toPs_map : ∀ ds : List D, D.toPs ds = ds.map D.toP
  | [] => rfl
  | d :: ds => by simp only [D.toPs, List.map_cons, toPs_map ds]
theorem datas_all : ∀ {ds : List D}, D.datas ds = true → ∀ d ∈ ds, d.data = true
  | [], _, _, h => by cases h
  | e :: ds, u, d, h => by
    simp only [D.datas, Bool.and_eq_true] at u
    rcases List.mem_cons.mp h with rfl | h
    · exact u.1
    · exact datas_all u.2 d h
theorem sortable_of {ds : List D} (h : sortableD ds = true) : D.datas ds = true ∧ PySem.W.AllAlike (ds.map D.toP) ∧ PySem.W.Sortable (ds.map D.toP) ∧ (∀ d ∈ ds, d.toP.depth ≤ 50) ∧ ds.length ≤ sizeLine := by
  unfold sortableD at h
  simp only [Bool.and_eq_true, List.all_eq_true, decide_eq_true_eq, Bool.or_eq_true] at h
  obtain ⟨⟨⟨⟨h1, h2⟩, h3⟩, h4⟩, h5⟩ := h
  refine ⟨h1, fun d hd d' hd' => ?_, ?_, h3, h5⟩
  · obtain ⟨e, he, rfl⟩ := List.mem_map.mp hd
    obtain ⟨e', he', rfl⟩ := List.mem_map.mp hd'
    exact h2 e he e' he'
  · rcases h4 with h4 | h4
    · refine .inl fun d hd => ?_
      obtain ⟨e, he, rfl⟩ := List.mem_map.mp hd
      have := h4 e he
      split at this
      · exact ⟨_, _, rfl⟩
      · cases this
    · refine .inr fun d hd => ?_
      obtain ⟨e, he, rfl⟩ := List.mem_map.mp hd
      have := h4 e he
      have hdat := datas_all h1 e he
      cases e <;> simp [D.toP, D.data] at this hdat ⊢
theorem each_reads {pins : List (Addr × Obj)} {σ : L2.St} {π : Nm} {H : Hp} {s : Shared} (I : Inv X pins σ H s) (hK : X.K = x.K) : ∀ {ds : List D} {vs : List V} {us : List Value}, D.datas ds = true → RVs x π H ds vs → Vals vs us → PySem.W.EachIs (fun u d => ∃ as, Reads s.heap u (D.toP d) as) us ds
  | [], _, _, _, r, q => by cases r; cases q; exact .nil
  | d :: ds, _, _, hd, r, q => by
    simp only [D.datas, Bool.and_eq_true] at hd
    cases r with
    | cons r1 r2 =>
      cases q with
      | cons q1 q2 => exact .cons (Dp.reads I _ _ _ (by rw [hK]; exact data_dp d _ hd.1 r1) q1) (each_reads I hK hd.2 r2 q2)
theorem isort_len (l : List D) : (isortD leD l).length = l.length := by
  rw [isort_data, List.length_mergeSort]
def mSort (m : St → AH → R (List D)) : St → AH → R (List D) := fun ρ h => (m ρ h).bind fun xs h => R.opt h (sortD xs)
theorem l_sorted {m : St → AH → R (List D)} (hK : X.K = x.K) (hP : X.prog = x.P) (hw : X.w = x.w) (hc : X.calm = true) (hu : X.A.units + 100 < cLine) (hg : Gl X "sorted") (hm : X.mg "sorted" = none) (hp : plainE a = true) (ha : PE X a (tK x W m)) :
    PE X (.Call (.Name "sorted" p) [a] [] pos) (tL x W (mSort m)) := by
  refine ⟨fun pins s σ H Q I hw' => ?_⟩
  obtain ⟨π, ρ, h, b, q⟩ := hw'
  have hcall : CallR X (.builtin "sorted") (fun vs H1 Q1 => ∃ π1 ds v xs, vs = [v] ∧ FK x π1 H1 ds v ∧ sortD ds = some xs ∧ ∀ us p, RVs x π1 H1 xs us → H1 p = none → Q1 (.ref p) (upd H1 p (.lst us))) := by
    intro pins s σ H vs us Q I r h
    obtain ⟨π1, ds, v, xs, rfl, fk, es, q⟩ := h
    obtain ⟨u, rfl, rv⟩ := vals1 r
    unfold sortD at es
    split at es
    · rename_i hs
      cases es
      obtain ⟨h1, h2, h3, h4, h5⟩ := sortable_of hs
      have hh : X.A.in1.handled = none := I.ok.hd hc
      obtain ⟨vs, rs, hz, hcol⟩ := coll hK hP hw hh I fk rv
      refine Calls.call_function_entry PyProof.Rows.kind_sorted PyProof.Rows.plain_sorted PyProof.Rows.entry_sorted (PyProof.Rows.args_sorted1 _) ?_
      unfold Builtin.«sorted»
      refine wpAny_bind (m := checkCount "sorted" 1 1 _) (wpAny_pure ?_)
      refine wpAny_bind (hcol _ _ fun h' tk acc hk hv => ?_)
      have I1 : Inv X pins σ H { s with heap := h', toks := tk } := I.kept hk
      have hl := hv.length
      refine wpAny_bind (wpAny_newList ?_ (by omega))
      have hoL : (h'.push (seqObj "list" acc.toArray 0)).get? h'.objs.size = some (seqObj "list" acc.toArray 0) := Heap.get?_push_size _ rfl
      show wpAny _ _ _ _ _ { s with heap := h'.push (seqObj "list" acc.toArray 0), toks := tk }
      have er0 := each_reads I1 hK h1 rs hv
      have er : PySem.W.EachIs (fun u d => ∃ as, Reads (h'.push (seqObj "list" acc.toArray 0)) u (D.toP d) as ∧ h'.objs.size ∉ as) acc ds := by
        refine er0.mono fun u d ⟨as, ra⟩ => ⟨as, PyProof.Rows.Reads.keeps (fun _ _ e => Heap.get?_push_of_some _ e) ra, fun hm => ?_⟩
        obtain ⟨o, e⟩ := PyProof.On.reads_mem_get ra _ hm
        exact absurd (Heap.lt_size e) (Nat.lt_irrefl _)
      refine wpAny_bind (wpAny_holding (PySem.W.list_sort_data (enc := D.toP) (s := { s with heap := h'.push (seqObj "list" acc.toArray 0), toks := tk }) hoL (each_of rs hv) er h2 h3 h5 (fun d hd => ?_) fun out ho eo => ?_))
      · have := h4 d hd
        show X.A.units + 1 + 1 + _ < _
        omega
      · rw [← isort_data] at eo
        obtain ⟨us, r1, r2⟩ := each_to eo
        obtain ⟨e', he'⟩ := PyProof.Rows.sortedHeap_at (vs := acc) (out := out.toArray) hoL
        have hlen : us.length ≤ sizeLine := by
          have := r2.length
          rw [this, ho]; exact h5
        refine wpAny_pure ⟨_, rfl, .ref h'.objs.size, upd H h'.objs.size (.lst us), I1.laid (t' := tk) (fun b u e => ?_) (Nat.le_refl _)
          (show ObjOk X.prog X.w _ _ _ (.lst us) from ⟨hlen, out, e', r2, he'⟩), rfl, q us _ r1 (I1.hok.fresh (Nat.le_refl _))⟩
        have hb : b < h'.objs.size := Heap.lt_size e
        rw [PyProof.Rows.sortedHeap_old (Nat.ne_of_lt hb) (by rw [size_push']; exact Nat.lt_succ_of_lt hb)]
        exact Heap.get?_push_of_some _ e
    · cases es
  refine (PE.imp (pe_callB hcall hg hm (by decide +kernel) (pa_cons ha pa_nil (star_of hp)) (by decide) (by decide) (star_of hp) rfl) fun σ H Q (h : tL x W (mSort m) σ H Q) => ?_).run pins s σ H Q I ⟨π, ρ, h, b, q⟩
  obtain ⟨π, ρ, h, b, q⟩ := h
  refine tF.fst b q fun π1 H1 h1 ds v b1 r k q1 => ?_
  obtain ⟨xs, e, q2⟩ := q1.opt1
  refine ⟨π1, ds, v, xs, rfl, r, e, fun us p rs np => ?_⟩
  exact q2.ok' (Keep.upd np) (b1.wd.upd np) ⟨p, us, rfl, b1.wd.notin np, upd_same, rs.keep (Keep.upd np)⟩
end
end Rw
set_option Elab.async false
set_option linter.all false
set_option autoImplicit false
set_option maxRecDepth 100000
set_option maxHeartbeats 4000000
namespace Rw
open PySem PySem.Spec PyProof.Rows L2

section
variable {x : Gx} {X : Cx} {W : L2.WX} {a b : Expr} {ma mb : St → AH → R D} {ml m : St → AH → R (List D)} {pos p : Pos}
/-! ### len -/
def rLenK (x : Gx) : List V → Hp → VK → Prop := fun vs H Q => ∃ π ds v, vs = [v] ∧ FK x π H ds v ∧ Q (.int ds.length) H
theorem cq_len (hK : X.K = x.K) (hP : X.prog = x.P) (hw : X.w = x.w) : CallR X (.builtin "len") (rLenK x) := by
  intro pins s σ H vs us Q I r h
  obtain ⟨π, ds, v, rfl, fk, q⟩ := h
  rcases fk with ⟨c, ws, rfl, sq, rs⟩ | ⟨c, kvs, u, rfl, dh, rd, rfl⟩
  · exact call_len_seq pins s σ H _ us Q I r ⟨c, ws, rfl, by rw [hK]; exact sq.imp id TupAt.sq, by rw [← rs.length]; exact q⟩
  · rw [Vals.ref1 r]
    have hn := line63
    cases dh with
    | @flat ps dk nd =>
      have hl : kvs.length = ps.length := Paired.len dk
      refine d_len I rd fun t s' I' => ⟨.int (kvs.map (·.1)).length, H, I', ⟨t, by simp [hl]⟩, q⟩
    | @tups ps dt nd ne =>
      obtain ⟨dd, lo, z⟩ := dn_ok hK hP hw I rd dt
      have hl : kvs.length = ps.length := Paired.len dt
      refine call_len_dictH lo dd (by omega) ⟨.int (kvs.map (·.1)).length, H, I.tok _, ⟨s.toks + 1, by simp [hl]⟩, q⟩
theorem r_lenK (hK : X.K = x.K) (hP : X.prog = x.P) (hw : X.w = x.w) (hg : Gl X "len") (hm : X.mg "len" = none) (hp : plainE a = true) (ha : PE X a (tK x W m)) :
    PE X (.Call (.Name "len" p) [a] [] pos) (tE x W fun ρ h => (m ρ h).bind fun u h => R.opt h (bqD .len u)) :=
  r_call1 (f := fun _ => bqD .len) (fun t => pe_callB (cq_len hK hP hw) hg hm (by decide +kernel) t (by decide) (by decide) (star_of hp) rfl) hp ha fun π H h d v d' Q W' r e fin => by
    cases e
    exact ⟨π, d, v, rfl, r, fin _ _ _ Keep.refl W' (.int _)⟩
/-! ### cmpL -/
def mCmpL (op : CmpOp) (ma : St → AH → R D) (ml : St → AH → R (List D)) : St → AH → R D := fun ρ h => (ma ρ h).bind fun x h => (ml ρ h).bind fun ys h => (R.opt h (cmpD (h ++ [.lst ys false]) op x (.ref h.length))).bind fun b h => .ok (.bl b) h
theorem cmpL_of {op : CmpOp} {σ : L2.St} {H : Hp} {Q : VK} (q : tE x W (mCmpL op ma ml) σ H Q) : tOp (rB x fun h => cmpD h op) (tE x W ma) (tL x W ml) σ H Q := by
  obtain ⟨π, ρ, h, b, p⟩ := q
  refine tF.fst b p fun π1 H1 h1 d1 v1 b1 r1 k1 p1 => tF.fst b1 p1 fun π2 H2 h2 ds v2 b2 r2 k2 p2 => ?_
  obtain ⟨k, e, p3⟩ := p2.opt
  obtain ⟨c, vs, rfl, na, ea, l⟩ := r2
  obtain ⟨w3, k3⟩ := b2.wd.named (o := .lst ds false) na (.lst (l.keep Keep.push) ea)
  exact ⟨π2.push c, _, d1, .ref h2.length, k, w3, (r1.keep k2).keep k3, .ref b2.wd.pushed, e, p3.ok b2.wd (.bl k)⟩
theorem r_cmpL {op : CmpOp} (hK : X.K = x.K) (hP : X.prog = x.P) (hw : X.w = x.w) (hu : X.A.units + 100 < cLine) (ha : PE X a (tE x W ma)) (hb : PE X b (tL x W ml)) (hm : behindInMarks op b = false) : PE X (.Compare a [op] [b] pos) (tE x W (mCmpL op ma ml)) :=
  PE.imp (pe_cmpR (op_cmpD hK hP hw hu op) ha hb hm) fun σ H Q q => cmpL_of q
theorem t_cmpL {op : CmpOp} (hK : X.K = x.K) (hP : X.prog = x.P) (hw : X.w = x.w) (hu : X.A.units + 100 < cLine) (ha : PE X a (tE x W ma)) (hb : PE X b (tL x W ml)) (hm : behindInMarks op b = false) : PT X (.Compare a [op] [b] pos) (tT x W (mCmpL op ma ml)) :=
  PT.imp (pt_cmpR (op_cmpD hK hP hw hu op) ha hb hm) fun σ H Q q => cmpL_of q
/-! ### a list by a choice -/
def mIteL (mc : St → AH → R D) (ma mb : St → AH → R (List D)) : St → AH → R (List D) := fun ρ h => (mc ρ h).bind fun u h => match u with | .bl true => ma ρ h | .bl false => mb ρ h | _ => .bad
theorem l_ite {c : Expr} {mc : St → AH → R D} {ma mb : St → AH → R (List D)} (hc : PT X c (tT x W mc)) (ha : PE X a (tL x W ma)) (hb : PE X b (tL x W mb)) : PE X (.IfExp c a b pos) (tL x W (mIteL mc ma mb)) := by
  refine PE.imp (pe_ifExp hc ha hb) fun σ H Q ⟨π, ρ, h, b, p⟩ => tF.fst b p fun π1 H1 h1 d1 v1 b1 r1 k1 p1 => ?_
  cases d1 with
  | bl i =>
    obtain rfl := rv_bl r1
    refine ⟨i, rfl, ?_⟩
    cases i with
    | true => exact ⟨π1, ρ, h1, b1, p1⟩
    | false => exact ⟨π1, ρ, h1, b1, p1⟩
  | _ => exact p1.elim
/-! ### isinstance -/
def tyN : ITy → String
  | .int => "int"
  | .str => "str"
  | .bool => "bool"
  | .tuple => "tuple"
  | .list => "list"
  | .dict => "dict"
theorem kit_D (hK : X.K = x.K) (hP : X.prog = x.P) (hw : X.w = x.w) {pins : List (Addr × Obj)} {σ : L2.St} {π : Nm} {H : Hp} {h : AH} {s : Shared} {d : D} {v : V} {u : Value} {t : ITy} {b : Bool} (I : Inv X pins σ H s) (w : Wd x π h H) (r : RV x π H d v) (rv : RelV v u) (e : isiD h d t = some b) :
    ∃ (T : String) (P : Heap → Prop), PySem.W.KitX X.K u (.type T) P ∧ P s.heap ∧ u ≠ .builtin "__main__.__loader__#opaque" ∧ PySem.W.kitOne X.K (.type T) (.type (tyN t)) = some b := by
  cases d with
  | non =>
    obtain rfl := rv_non r
    obtain rfl : u = Value.none := rv
    refine ⟨"NoneType", _, PySem.W.kitx_none, trivial, (fun z => nomatch z), ?_⟩
    cases t <;> cases e <;> rfl
  | bl i =>
    obtain rfl := rv_bl r
    obtain rfl : u = Value.bool i := rv
    refine ⟨"bool", _, PySem.W.kitx_bool, trivial, (fun z => nomatch z), ?_⟩
    cases t <;> cases e <;> rfl
  | int i =>
    obtain rfl := rv_int r
    obtain ⟨tk, rfl⟩ := rv
    refine ⟨"int", _, PySem.W.kitx_int, trivial, (fun z => nomatch z), ?_⟩
    cases t <;> cases e <;> rfl
  | str z =>
    obtain rfl := rv_str r
    obtain ⟨tk, rfl⟩ := rv
    refine ⟨"str", _, PySem.W.kitx_str, trivial, (fun z => nomatch z), ?_⟩
    cases t <;> cases e <;> rfl
  | fn n => cases e
  | tup xs =>
    obtain ⟨c, vs, rfl, ta, l⟩ := rv_tup r
    obtain rfl : u = Value.ref c := rv
    obtain ⟨its, _, ⟨o, ho, hc, _⟩, _⟩ := I.tuple (by rw [hK]; exact ta.sq)
    refine ⟨"tuple", _, PySem.W.kitx_tuple, ⟨o, ho, hc⟩, (fun z => nomatch z), ?_⟩
    cases t <;> cases e <;> rfl
  | ref n =>
    obtain ⟨c, rfl, ec⟩ := rv_ref r
    obtain rfl : u = Value.ref c := rv
    unfold isiD at e
    cases eo : h[n]? with
    | none => simp [eo] at e
    | some o =>
      cases o with
      | lst xs lk =>
        simp only [eo] at e
        obtain ⟨vs, l, q⟩ := w.lst eo ec
        obtain ⟨its, _, ⟨o, _, ho, hc, _⟩, _⟩ := I.list (.inl q.rd)
        refine ⟨"list", _, PySem.W.kitx_list, ⟨o, ho, hc⟩, (fun z => nomatch z), ?_⟩
        cases t <;> cases e <;> rfl
      | dct kvs lk =>
        simp only [eo] at e
        obtain ⟨uo, dh, q⟩ := w.dct eo ec
        obtain ⟨o, ho, hc⟩ := dType I dh q.rd
        refine ⟨"dict", _, PySem.W.kitx_dict, ⟨o, ho, hc⟩, (fun z => nomatch z), ?_⟩
        cases t <;> cases e <;> rfl
def rIsD (x : Gx) : List V → Hp → VK → Prop := fun vs H Q => ∃ π h d v t b, vs = [v, .ty (tyN t)] ∧ Wd x π h H ∧ RV x π H d v ∧ isiD h d t = some b ∧ Q (.bl b) H
theorem cq_isi (hK : X.K = x.K) (hP : X.prog = x.P) (hw : X.w = x.w) : CallR X (.builtin "isinstance") (rIsD x) := by
  intro pins s σ H vs us Q I r h
  obtain ⟨π, h, d, v, t, b, rfl, w, rd, e, q⟩ := h
  obtain ⟨u1, u2, rfl, r1, r2⟩ := vals2 r
  obtain rfl : u2 = Value.type (tyN t) := r2
  obtain ⟨T, P, Z, p, hx, ek⟩ := kit_D hK hP hw I w rd r1 e
  exact PySem.W.kia_one Z I.kIn p ek hx fun tk => ⟨.bl b, H, I.tok tk, rfl, q⟩
theorem r_isi {t : ITy} {nm : Str} {p2 : Pos} (hK : X.K = x.K) (hP : X.prog = x.P) (hw : X.w = x.w) (hg : Gl X "isinstance") (hm : X.mg "isinstance" = none) (hg2 : Gl X nm) (hm2 : X.mg nm = none) (hv : bootBuiltins nm = some (.type (tyN t))) (hn : nm ≠ "__name__") (hdb : (nm == ("__debug__" : Str)) = false) (hp : plainE a = true) (ha : PE X a (tE x W ma)) :
    PE X (.Call (.Name "isinstance" p) [a, .Name nm p2] [] pos) (tE x W fun ρ h => (ma ρ h).bind fun u h => (R.opt h (isiD h u t)).bind fun b h => .ok (.bl b) h) := by
  have hb : PE X (.Name nm p2) (tC (.ty (tyN t))) := pe_bltn hg2 hm2 hv rfl hn hdb
  refine PE.imp (pe_callB (cq_isi hK hP hw) hg hm (by decide +kernel) (pa_cons ha (pa_cons hb pa_nil rfl) (star_of hp)) (by decide) (by decide) (star_of hp) rfl) fun σ H Q ⟨π, ρ, h, b, q⟩ => tF.fst b q fun π1 H1 h1 d v b1 r k q1 => ?_
  obtain ⟨tb, e, q2⟩ := q1.opt
  exact ⟨π1, h1, d, v, t, tb, rfl, b1.wd, r, e, q2.ok b1.wd (.bl tb)⟩
/-! ### list(x) -/
theorem cq_list (hK : X.K = x.K) (hP : X.prog = x.P) (hw : X.w = x.w) (hc : X.calm = true) : CallR X (.type "list") (fun vs H Q => ∃ π ds v, vs = [v] ∧ FK x π H ds v ∧ ∀ us p, RVs x π H ds us → H p = none → Q (.ref p) (upd H p (.lst us))) := by
  intro pins s σ H vs us Q I r h
  obtain ⟨π, ds, v, rfl, fk, q⟩ := h
  rcases fk with ⟨c, ws, rfl, sq, rs⟩ | ⟨c, kvs, u, rfl, dh, rd, rfl⟩
  · exact call_list_of pins s σ H _ us Q I r ⟨c, ws, rfl, by rw [hK]; exact sq.imp id TupAt.sq, fun p np => q ws p rs np⟩
  · rw [Vals.ref1 r]
    obtain ⟨lo, es, ep, ks, vs, raw, h1, h2, h3, h4, h5, h6⟩ := raw_of hK hP hw I dh rd
    have hl : ks.length = es.size := by simpa using h3.length
    have src : PySem.W.KdlSrc X.prog X.w "dict" c c es.size (fun i v => ∃ hi : i < es.size, v = es[i].key) (fun h => h.DictRaw c es ep) :=
      { type := fun s hm => hm.typeIs
        there := fun h hm => let ⟨o, ho, _⟩ := hm; ⟨Heap.lt_size ho, Heap.lt_size ho⟩
        keep := fun h h' hm hk => hm.at fun o e => hk c (.inl rfl) o e
        notList := by decide
        notTuple := by decide
        hint := fun A E s Q hm hq => PySem.W.kdl_hint_dict hm.typeIs hq
        iter := fun A s hh hm => ⟨_, _, (fun _ _ hq => PySem.wpAny_pyIter_dict_raw lo hm hq), PySem.Walks.rawKeys hh _ c (let ⟨o, ho, _⟩ := hm; Nat.ne_of_lt (Heap.lt_size ho)) es ep, ⟨⟨_, Heap.get?_push_size _ rfl, rfl, rfl⟩, hm.at fun o e => Heap.get?_push_of_some _ e⟩⟩ }
    refine PySem.W.kdl_call src (I.ok.hd hc) raw (by omega) fun h' tk acc c' hk he hacc => ?_
    have hv : Vals ks acc.toList := vals_get (by have := hacc.1; simp; omega) fun i v w e1 e2 => by
      obtain ⟨hi, e3⟩ := hacc.2 i w (by rw [← Array.getElem?_toList]; exact e2)
      rw [e3]
      obtain ⟨_, v', e4, r'⟩ := ents_get h3 (show i < ks.length by omega)
      rw [e1] at e4
      cases e4
      exact r'
    exact ⟨.ref _, _, I.laid (t' := tk) hk (Nat.le_refl _) (show ObjOk X.prog X.w _ _ _ (.lst ks) from ⟨by omega, acc.toList, c', hv, by rw [Array.toArray_toList]; exact he⟩), rfl, q ks _ h5 (I.hok.fresh (Nat.le_refl _))⟩
theorem l_listK (hK : X.K = x.K) (hP : X.prog = x.P) (hw : X.w = x.w) (hc : X.calm = true) (hg : Gl X "list") (hm : X.mg "list" = none) (hp : plainE a = true) (ha : PE X a (tK x W m)) :
    PE X (.Call (.Name "list" p) [a] [] pos) (tL x W m) := by
  refine PE.imp (pe_callTy (cq_list hK hP hw hc) hg hm (by decide +kernel) (pa_cons ha pa_nil (star_of hp)) (by decide) (by decide) (star_of hp) rfl) fun σ H0 Q ⟨π, ρ, h, b, q⟩ => ⟨π, ρ, h, b, ?_⟩
  cases e : m ρ h with
  | ok ds h1 =>
    rw [e] at q
    intro π1 H1 v k w f
    exact ⟨π1, ds, v, rfl, f, fun us r rs nr => q π1 _ _ (k.trans (Keep.upd nr)) (w.upd nr) ⟨r, us, rfl, w.notin nr, upd_same, rs.keep (Keep.upd nr)⟩⟩
  | ex c d h1 => rw [e] at q; exact q
  | bad => rw [e] at q; exact q.elim
end
end Rw
set_option Elab.async false
set_option linter.all false
set_option autoImplicit false
set_option maxRecDepth 100000
set_option maxHeartbeats 4000000
namespace Rw
open PySem PySem.Spec PyProof.Rows L2

/-! ## min, max of a row -/
section
variable {x : Gx} {X : Cx} {W : L2.WX} {a : Expr} {m : St → AH → R (List D)} {pos p : Pos}
theorem cmpable_of {ds : List D} (h : cmpable ds = true) : D.datas ds = true ∧ (∀ a ∈ ds, ∀ b ∈ ds, PySem.W.alike a.toP b.toP = true) ∧ ∀ a ∈ ds, a.toP ≠ .none ∧ a.toP.depth ≤ 50 := by
  unfold cmpable at h
  simp only [Bool.and_eq_true, List.all_eq_true, decide_eq_true_eq] at h
  obtain ⟨⟨h1, h2⟩, h3⟩ := h
  exact ⟨h1, h2, fun a ha => ⟨fun e => (h3 a ha).1 (toP_none (datas_all h1 a ha) e), (h3 a ha).2⟩⟩
theorem rvs_vals_get {π : Nm} {H : Hp} {ds : List D} {vs : List V} {us : List Value} (r : RVs x π H ds vs) (q : Vals vs us) {i : Nat} {u : Value} (e : us[i]? = some u) : ∃ v, vs[i]? = some v ∧ RelV v u ∧ RV x π H (ds.getD i .non) v ∧ ds.getD i .non ∈ ds := by
  have hi : i < us.length := (List.getElem?_eq_some_iff.mp e).1
  have hd : i < ds.length := by rw [r.length, q.length]; exact hi
  obtain ⟨v, ev, rv⟩ := r.get (List.getElem?_eq_getElem hd)
  obtain ⟨u', eu, ru⟩ := q.get ev
  rw [e] at eu
  cases eu
  refine ⟨v, ev, ru, ?_, ?_⟩
  · rw [List.getD_eq_getElem?_getD, List.getElem?_eq_getElem hd]; exact rv
  · rw [List.getD_eq_getElem?_getD, List.getElem?_eq_getElem hd]; exact List.getElem_mem hd
theorem cmp_in {pins : List (Addr × Obj)} {σ : L2.St} {π : Nm} {H : Hp} {s : Shared} {ds : List D} {vs : List V} {us : List Value} (hK : X.K = x.K) {A : Around} (hu : A.units + 60 < cLine) (I : Inv X pins σ H s) (r : RVs x π H ds vs) (q : Vals vs us) (hc : cmpable ds = true) :
    PySem.CmpIn X.prog X.w A .Lt s.heap (fun i v => us.toArray[i]? = some v) (fun i j => ltB (ds.getD i .non) (ds.getD j .non)) ∧ PySem.CmpIn X.prog X.w A .Gt s.heap (fun i v => us.toArray[i]? = some v) (fun i j => ltB (ds.getD j .non) (ds.getD i .non)) := by
  obtain ⟨h1, h2, h3⟩ := cmpable_of hc
  have get : ∀ {i : Nat} {u : Value}, us.toArray[i]? = some u → ∃ as, Reads s.heap u (ds.getD i .non).toP as ∧ ds.getD i .non ∈ ds := fun {i u} e => by
    obtain ⟨v, _, ru, rd, md⟩ := rvs_vals_get r q (show us[i]? = some u by simpa using e)
    obtain ⟨as, ra⟩ := Dp.reads I _ _ _ (by rw [hK]; exact data_dp _ v (datas_all h1 _ md) rd) ru
    exact ⟨as, ra, md⟩
  refine ⟨fun i j vi vj s' Q E hk hi hj hq => ?_, fun i j vi vj s' Q E hk hi hj hq => ?_⟩
  · obtain ⟨as1, r1, m1⟩ := get hi
    obtain ⟨as2, r2, m2⟩ := get hj
    have d1 := (h3 _ m1).2
    exact PySem.W.rcLt_alike _ _ A s' vi vj _ _ (PyProof.Rows.Reads.keeps hk r1) (PyProof.Rows.Reads.keeps hk r2) (h2 _ m1 _ m2) (h3 _ m1).1 (by omega) X.prog X.w E Q hq
  · obtain ⟨as1, r1, m1⟩ := get hi
    obtain ⟨as2, r2, m2⟩ := get hj
    have d1 := (h3 _ m1).2
    exact PySem.W.rcGt_alike _ _ A s' vi vj _ _ (PyProof.Rows.Reads.keeps hk r1) (PyProof.Rows.Reads.keeps hk r2) (h2 _ m1 _ m2) (h3 _ m1).1 (by omega) X.prog X.w E Q hq
def rMinD (x : Gx) (f : List D → D → D) : List V → Hp → VK → Prop := fun vs H Q => ∃ π ds d0 v, vs = [v] ∧ FQ x π H (d0 :: ds) v ∧ cmpable (d0 :: ds) = true ∧ ∀ w, RV x π H (f ds d0) w → Q w H
theorem cq_min (hK : X.K = x.K) (hc : X.calm = true) (hu : X.A.units + 100 < cLine) : CallR X (.builtin "min") (rMinD x leastD) := by
  intro pins s σ H vs us Q I r h
  obtain ⟨π, ds, d0, v, rfl, ⟨c, ws, rfl, sq, rs⟩, hcm, q⟩ := h
  rw [Vals.ref1 r]
  have fin : ∀ {its : List Value} {s2 s' : Shared} {v : Value} {o : Obj}, Vals ws its → s2 = { s with heap := s.heap.push o } → its.toArray[argBest (fun i j => ltB ((d0 :: ds).getD i .non) ((d0 :: ds).getD j .non)) (its.toArray.size - 1)]? = some v → Moved [s.heap.objs.size] (fun a b => b = a) s2 s' → EP X pins σ Q v s' := by
    intro its s2 s' v o rv e hP m
    obtain ⟨h', tk, rfl, hk'⟩ := PySem.W.moved_old e rfl m
    have I' : Inv X pins σ H { s with heap := h', toks := tk } := I.kept hk'
    have hl : its.toArray.size - 1 = ds.length := by have h1 := rs.length; have h2 := rv.length; simp at h1 ⊢; omega
    rw [hl, List.getElem?_toArray] at hP
    obtain ⟨v', _, ru, rd, _⟩ := rvs_vals_get rs rv hP
    have e2 := (PySem.W.argBest_fold ltB D.non d0 ds ds.length (Nat.le_refl _)).2
    rw [List.take_length] at e2
    rw [e2] at rd
    exact ⟨v', H, I', ru, q v' rd⟩
  rcases sq with sq | sq
  · obtain ⟨its, rv, hl, _⟩ := I.list (by rw [hK]; exact sq)
    have hz : its.length = ds.length + 1 := by have h1 := rs.length; have h2 := rv.length; simp at h1; omega
    refine PySem.call_min_walkH (PySem.W.iter_listW (A := X.A.in1) (I.ok.hd hc) hl.isList fun s₂ e W st hfp hw hk => ?_)
    exact ⟨_, _, _, _, _, _, _, s.heap, _, rfl, W, st, hfp, by simp; omega, hw, hk, (cmp_in hK (A := X.A.in1) (by show X.A.units + 1 + 60 < _; omega) I rs rv hcm).1, fun v s' hP m => fin rv e hP m⟩
  · obtain ⟨its, rv, hl, _⟩ := I.tuple (by rw [hK]; exact sq.sq)
    have hz : its.length = ds.length + 1 := by have h1 := rs.length; have h2 := rv.length; simp at h1; omega
    refine PySem.call_min_walkH (PySem.W.iter_tupleW (A := X.A.in1) (I.ok.hd hc) hl fun s₂ e W st hfp hw hk => ?_)
    exact ⟨_, _, _, _, _, _, _, s.heap, _, rfl, W, st, hfp, by simp; omega, hw, hk, (cmp_in hK (A := X.A.in1) (by show X.A.units + 1 + 60 < _; omega) I rs rv hcm).1, fun v s' hP m => fin rv e hP m⟩
theorem cq_max (hK : X.K = x.K) (hc : X.calm = true) (hu : X.A.units + 100 < cLine) : CallR X (.builtin "max") (rMinD x mostD) := by
  intro pins s σ H vs us Q I r h
  obtain ⟨π, ds, d0, v, rfl, ⟨c, ws, rfl, sq, rs⟩, hcm, q⟩ := h
  rw [Vals.ref1 r]
  have fin : ∀ {its : List Value} {s2 s' : Shared} {v : Value} {o : Obj}, Vals ws its → s2 = { s with heap := s.heap.push o } → its.toArray[argBest (fun i j => ltB ((d0 :: ds).getD j .non) ((d0 :: ds).getD i .non)) (its.toArray.size - 1)]? = some v → Moved [s.heap.objs.size] (fun a b => b = a) s2 s' → EP X pins σ Q v s' := by
    intro its s2 s' v o rv e hP m
    obtain ⟨h', tk, rfl, hk'⟩ := PySem.W.moved_old e rfl m
    have I' : Inv X pins σ H { s with heap := h', toks := tk } := I.kept hk'
    have hl : its.toArray.size - 1 = ds.length := by have h1 := rs.length; have h2 := rv.length; simp at h1 ⊢; omega
    rw [hl, List.getElem?_toArray] at hP
    obtain ⟨v', _, ru, rd, _⟩ := rvs_vals_get rs rv hP
    have e2 := (PySem.W.argBest_fold (fun a b => ltB b a) D.non d0 ds ds.length (Nat.le_refl _)).2
    rw [List.take_length] at e2
    rw [e2] at rd
    exact ⟨v', H, I', ru, q v' rd⟩
  rcases sq with sq | sq
  · obtain ⟨its, rv, hl, _⟩ := I.list (by rw [hK]; exact sq)
    have hz : its.length = ds.length + 1 := by have h1 := rs.length; have h2 := rv.length; simp at h1; omega
    refine PySem.call_max_walkH (PySem.W.iter_listW (A := X.A.in1) (I.ok.hd hc) hl.isList fun s₂ e W st hfp hw hk => ?_)
    exact ⟨_, _, _, _, _, _, _, s.heap, _, rfl, W, st, hfp, by simp; omega, hw, hk, (cmp_in hK (A := X.A.in1) (by show X.A.units + 1 + 60 < _; omega) I rs rv hcm).2, fun v s' hP m => fin rv e hP m⟩
  · obtain ⟨its, rv, hl, _⟩ := I.tuple (by rw [hK]; exact sq.sq)
    have hz : its.length = ds.length + 1 := by have h1 := rs.length; have h2 := rv.length; simp at h1; omega
    refine PySem.call_max_walkH (PySem.W.iter_tupleW (A := X.A.in1) (I.ok.hd hc) hl fun s₂ e W st hfp hw hk => ?_)
    exact ⟨_, _, _, _, _, _, _, s.heap, _, rfl, W, st, hfp, by simp; omega, hw, hk, (cmp_in hK (A := X.A.in1) (by show X.A.units + 1 + 60 < _; omega) I rs rv hcm).2, fun v s' hP m => fin rv e hP m⟩
theorem r_minQ (hK : X.K = x.K) (hc : X.calm = true) (hu : X.A.units + 100 < cLine) (hg : Gl X "min") (hm : X.mg "min" = none) (hp : plainE a = true) (ha : PE X a (tQ x W m)) :
    PE X (.Call (.Name "min" p) [a] [] pos) (tE x W fun ρ h => (m ρ h).bind fun u h => R.opt h (bqD .min u)) :=
  r_call1 (f := fun _ => bqD .min) (fun t => pe_callB (cq_min hK hc hu) hg hm (by decide +kernel) t (by decide) (by decide) (star_of hp) rfl) hp ha fun π H h d v d' Q W' r e fin => by
    cases d with
    | nil => cases e
    | cons d0 ds =>
      replace e : (if cmpable (d0 :: ds) then some (leastD ds d0) else none) = some d' := e
      split at e
      · rename_i hc
        cases e
        exact ⟨π, ds, d0, v, rfl, r, hc, fun w rw_ => fin _ _ _ Keep.refl W' rw_⟩
      · cases e
theorem r_maxQ (hK : X.K = x.K) (hc : X.calm = true) (hu : X.A.units + 100 < cLine) (hg : Gl X "max") (hm : X.mg "max" = none) (hp : plainE a = true) (ha : PE X a (tQ x W m)) :
    PE X (.Call (.Name "max" p) [a] [] pos) (tE x W fun ρ h => (m ρ h).bind fun u h => R.opt h (bqD .max u)) :=
  r_call1 (f := fun _ => bqD .max) (fun t => pe_callB (cq_max hK hc hu) hg hm (by decide +kernel) t (by decide) (by decide) (star_of hp) rfl) hp ha fun π H h d v d' Q W' r e fin => by
    cases d with
    | nil => cases e
    | cons d0 ds =>
      replace e : (if cmpable (d0 :: ds) then some (mostD ds d0) else none) = some d' := e
      split at e
      · rename_i hc
        cases e
        exact ⟨π, ds, d0, v, rfl, r, hc, fun w rw_ => fin _ _ _ Keep.refl W' rw_⟩
      · cases e
end
end Rw
set_option Elab.async false
set_option linter.all false
set_option autoImplicit false
set_option maxRecDepth 100000
set_option maxHeartbeats 4000000
namespace Rw
open PySem PySem.Spec PyProof.Rows L2

/-! ## list(range(..)) -/
section
variable {x : Gx} {X : Cx} {W : L2.WX} {a b : Expr} {ma mb : St → AH → R D} {pos pos2 p p2 : Pos}
def mRange (mi : St → AH → R (List D × List Nat)) : St → AH → R (List D) := fun ρ h => (mi ρ h).bind fun xw h => if xw.1.length ≤ sizeLine then .ok xw.1 h else .bad
theorem range_list {pins : List (Addr × Obj)} {σ : L2.St} {H : Hp} {s : Shared} {lo hi : Int} {t u v : Tok} {tk : Nat} {E : Value → Shared → Prop} {Q : VK} (hc : X.calm = true) (I : Inv X pins σ H s) (h1 : -(2 ^ 62) ≤ lo) (h2 : lo < 2 ^ 62) (h3 : -(2 ^ 62) ≤ hi) (h4 : hi < 2 ^ 62) (hz : (hi - lo).toNat ≤ sizeLine)
    (q : ∀ q vs, H q = none → (∀ π, RVs x π (upd H q (.lst vs)) (rangeD lo (hi - lo).toNat 1) vs) → Q (.ref q) (upd H q (.lst vs))) :
    wpAny (model X.prog X.w) X.A (call (.type "list") [.ref s.heap.objs.size]) (EP X pins σ Q) E { s with heap := s.heap.push { cls := .type "range", data := .fields #[.int lo t, .int hi u, .int 1 v] }, toks := tk } := by
  have I1 : Inv X pins σ H { s with heap := s.heap.push { cls := .type "range", data := .fields #[.int lo t, .int hi u, .int 1 v] }, toks := tk } := I.kept fun b o e => Heap.get?_push_of_some _ e
  have e2 : Builtin.Range.rangeSize lo hi 1 = (((hi - lo).toNat : Nat) : Int) := by rw [rangeSize_one]; split <;> omega
  let vs : List V := (List.range (hi - lo).toNat).map fun (i : Nat) => .int (lo + (i : Int) * 1)
  refine call_list_range (I.ok.hd hc) (IsRange.new ..) (small_one h1 h2 h3 h4) e2 (by rw [sizeLine_eq] at hz; omega) fun h' tk' acc c' hk he hi' => ?_
  have hv : Vals vs acc.toList := vals_get (by have := hi'.1; simp [vs]; omega) fun i v u e1 e3 => by
    obtain ⟨t', e4⟩ := hi'.2 i u (by rw [← Array.getElem?_toList]; exact e3)
    simp only [vs, List.getElem?_map, Option.map_eq_some_iff] at e1
    obtain ⟨j, e5, rfl⟩ := e1
    have hj : i < (hi - lo).toNat := by
      have := (List.getElem?_eq_some_iff.mp e5).1
      simpa using this
    rw [List.getElem?_range hj] at e5
    cases e5
    exact ⟨t', e4⟩
  have hn := I1.hok.fresh (Nat.le_refl _)
  refine ⟨.ref _, _, I1.laid (t' := tk') hk (Nat.le_refl _) (show ObjOk X.prog X.w _ _ _ (.lst vs) from ⟨(by simp only [vs, List.length_map, List.length_range]; exact hz), acc.toList, c', hv, by rw [Array.toArray_toList]; exact he⟩), rfl, q _ vs hn fun π => ?_⟩
  exact RVs.map (x := x) (π := π) (fun (i : Nat) => .int _) _
def mRngS1 (ma : St → AH → R D) : St → AH → R (List D) := mRange (mRng1 ma)
theorem l_rng1 (hc : X.calm = true) (hg : Gl X "list") (hm : X.mg "list" = none) (hg2 : Gl X "range") (hm2 : X.mg "range" = none) (hp : plainE a = true) (ha : PE X a (tE x W ma)) :
    PE X (.Call (.Name "list" p) [.Call (.Name "range" p2) [a] [] pos2] [] pos) (tL x W (mRange (mRng1 ma))) := by
  refine ⟨fun pins s σ H Q I q => ?_⟩
  obtain ⟨π, ρ, h, b, q⟩ := q
  refine Call_ (ld_blt I hg hm boot_list ?_)
  refine PyProof.Rows.callWith_type1 (PyProof.Rows.args_cons ?_ rfl) rfl rfl
  refine Call_ (ld_blt I hg2 hm2 boot_range ?_)
  unfold mRange at q
  have e0 : ((mRng1 ma ρ h).bind fun xw h => if xw.1.length ≤ sizeLine then .ok xw.1 h else .bad : R (List D)) = (ma ρ h).bind fun x h => (match x with
      | .int j => if small62 j then .ok (rangeD 0 j.toNat 1, []) h else .bad
      | _ => .bad : R (List D × List Nat)).bind fun xw h => if xw.1.length ≤ sizeLine then .ok xw.1 h else .bad := by unfold mRng1; cases ma ρ h <;> rfl
  rw [e0] at q
  refine PyProof.Rows.callWith_type1 (thn ((pa_cons ha pa_nil (star_of hp)).run pos2 pins s σ H (fun vs H1 => ∃ j, vs = [V.int j] ∧ (-(2 ^ 62) ≤ j ∧ j < 2 ^ 62) ∧ j.toNat ≤ sizeLine ∧ ∀ q vs, H1 q = none → (∀ π, RVs x π (upd H1 q (.lst vs)) (rangeD 0 j.toNat 1) vs) → Q (.ref q) (upd H1 q (.lst vs))) I (tF.fst b q fun π1 H1 h1 d v b1 r k q1 => ?_)) fun us s1 ⟨vs, H1, I1, r1, j, ev, hb, hz, q1⟩ => ?_) (star_of hp) rfl
  · cases d with
    | int j =>
      obtain rfl := rv_int r
      replace q1 : PostF x (FL x) W π1 H1 ((if small62 j then .ok (rangeD 0 j.toNat 1, []) h1 else .bad : R (List D × List Nat)).bind fun xw h => if xw.1.length ≤ sizeLine then .ok xw.1 h else .bad) σ Q := q1
      split at q1
      · rename_i hs
        simp only [small62, Bool.and_eq_true, decide_eq_true_eq] at hs
        replace q1 : PostF x (FL x) W π1 H1 (if (rangeD 0 j.toNat 1).length ≤ sizeLine then .ok (rangeD 0 j.toNat 1) h1 else .bad) σ Q := q1
        split at q1
        · rename_i hz
          rw [range_len] at hz
          exact ⟨j, rfl, hs, hz, fun q vs nq rs => q1.ok' (Keep.upd nq) (b1.wd.upd nq) ⟨q, vs, rfl, b1.wd.notin nq, upd_same, rs π1⟩⟩
        · exact q1.elim
      · exact q1.elim
    | _ => exact q1.elim
  · subst ev
    obtain ⟨u, rfl, t, rfl⟩ := vals1 r1
    exact call_range_1 (PyProof.Rows.args_nil (range_list hc I1 (by omega) (by omega) hb.1 hb.2 (by simpa using hz) (by simpa using q1)))
end
end Rw
set_option Elab.async false
set_option linter.all false
set_option autoImplicit false
set_option maxRecDepth 100000
set_option maxHeartbeats 4000000
namespace Rw
open PySem PySem.Spec PyProof.Rows L2

/-! ## dicts made anew -/
/-- a dict made anew, that is not named -/
def FD (x : Gx) (π : Nm) (H : Hp) (kvs : List (D × D)) (v : V) : Prop := ∃ a u, v = .ref a ∧ Free π a ∧ H a = some u ∧ DH x π H a kvs u
abbrev tD (x : Gx) (W : L2.WX) (m : St → AH → R (List (D × D))) : TE := tF x (FD x) W m
section
variable {x : Gx} {X : Cx} {W : L2.WX} {pos : Pos} {pins : List (Addr × Obj)} {σ : L2.St} {s : Shared} {A : Around} {E : Value → Shared → Prop}
/-- one pair is stored -/
theorem dStore (hK : X.K = x.K) (hP : X.prog = x.P) (hw : X.w = x.w) (hu : A.units + 9 < cLine) {π : Nm} {H : Hp} {a : Addr} {kvs : List (D × D)} {u : HO} {k d : D} {v vd : V} {uv ud : Value} {Q : Unit → Shared → Prop} (I : Inv X pins σ H s) (r : DH x π H a kvs u) (e : H a = some u) (f : fits kvs k = true) (rk : RV x π H k v) (ru : RelV v uv) (rd : RV x π H d vd) (rud : RelV vd ud) (hl : kvs.length < sizeLine)
    (hq : ∀ s' u', Inv X pins σ (upd H a u') s' → DH x π (upd H a u') a (dput kvs k d) u' → Q () s') : wpAny (model X.prog X.w) A (dictSet a uv ud) Q E s := by
  obtain ⟨nt, mu⟩ := not_tup_of r e
  have kp : ∀ {u' : HO}, Keep π H π (upd H a u') := Keep.upd' nt
  rcases fits_or f with ⟨q, hk⟩ | ⟨q, hk⟩
  · obtain ⟨ps, vs, dk, nd, rel, dd, hm, z⟩ := viewK hP hw I r (.inl e) f hk
    obtain rfl := kV_of hk rk
    have hlen : ps.length = kvs.length := (Paired.len dk).symm
    refine wpAny_dictSet_pairs (hsz := by rw [← rel.length]; exact z) (kV_is ru) dd fun h' dd' hs => hq _ (.dK (putK ps q vd)) ?_ (.flat ((dput_flat hk rd dk nd).keep kp) (putK_nodup nd))
    have he : ∃ q, h'.get? a = some q := let ⟨q, _, _, hq, _⟩ := dd'; ⟨q, hq⟩
    exact d_write I mu hs he (dk_new (by have := length_putK ps q vd; omega) hm (rel.put q rud) dd')
  · obtain ⟨ps, dt, nd, dd, hm, z⟩ := viewT hK hP hw I r (.inl e) f hk
    obtain ⟨b, rfl⟩ := isRef hk rk
    cases ru
    have hlen : ps.length = kvs.length := (Paired.len dt).symm
    refine wpAny_dictSet_heap (k := q) (hsz := z) (by show A.units + 8 < cLine; omega) (key_is hK I hk rk) dd fun h' dd' hs => hq _ (DN x a (storedH ps q b ud)) ?_ (.tups ((dput_tup hk rk rud rd dt nd).keep kp) (storedH_nodup nd) dput_ne)
    obtain ⟨o, es, ep, ho, h2, h3, h4, _, h5⟩ := dd'
    refine d_write I mu hs ⟨o, ho⟩ ⟨⟨o, es, ep, ho, h2, h3, by rw [← hP, ← hw]; exact h4, h5, hm, ?_⟩, ⟨o, ho⟩, fun h1 h2' ⟨o, es, ep, e1, e2, e3, e4, e5⟩ st => ⟨o, es, ep, st o e1, e2, e3, e4, e5⟩⟩
    have := storedH_len (ps := ps) (k := q) (b := b) (u := ud)
    omega
theorem upd_upd {H : Hp} {a : Addr} {u u' : HO} : L2.upd (L2.upd H a u) a u' = L2.upd H a u' := by
  funext b
  by_cases hb : b = a
  · rw [hb, upd_same, upd_same]
  · rw [upd_ne hb, upd_ne hb, upd_ne hb]
theorem keysOk_fits {xs : List D} {acc : List (D × D)} {k : D} (ho : keysOk xs = true) (hk : k ∈ xs) (ha : ∀ kv ∈ acc, kv.1 ∈ xs) : fits acc k = true := by
  have := List.all_eq_true.mp ho k hk
  obtain ⟨t, nk, e, all⟩ := fits_key this
  unfold fits
  rw [e]
  refine List.all_eq_true.mpr fun kv hkv => ?_
  obtain ⟨m, hm⟩ := all (kv.1, .non) (List.mem_map.mpr ⟨kv.1, ha kv hkv, rfl⟩)
  rw [show kv.1.key = some (t, m) from hm]
  simp
theorem dput_mem : ∀ {acc : List (D × D)} {k d : D} {kv : D × D}, kv ∈ dput acc k d → kv.1 = k ∨ ∃ q ∈ acc, q.1 = kv.1
  | [], k, d, kv, h => by
    simp only [dput, List.mem_singleton] at h
    subst h; exact .inl rfl
  | (k', v') :: r, k, d, kv, h => by
    unfold dput at h
    split at h
    · rcases List.mem_cons.mp h with rfl | h
      · exact .inr ⟨(k', v'), List.mem_cons_self, rfl⟩
      · exact .inr ⟨kv, List.mem_cons_of_mem _ h, rfl⟩
    · rcases List.mem_cons.mp h with rfl | h
      · exact .inr ⟨_, List.mem_cons_self, rfl⟩
      · rcases dput_mem h with h | ⟨q, hq, e⟩
        · exact .inl h
        · exact .inr ⟨q, List.mem_cons_of_mem _ hq, e⟩
theorem dput_length : ∀ {acc : List (D × D)} {k d : D}, (dput acc k d).length ≤ acc.length + 1
  | [], k, d => by simp [dput]
  | (k', v') :: r, k, d => by
    unfold dput
    split
    · simp
    · have := dput_length (acc := r) (k := k) (d := d)
      simp only [List.length_cons]; omega
abbrev RPs (x : Gx) (π : Nm) (H : Hp) : List (D × D) → List (V × V) → Prop := Paired fun p q => RV x π H p.1 q.1 ∧ RV x π H p.2 q.2
theorem RPs.keep {π π' : Nm} {H H' : Hp} {ps : List (D × D)} {qs : List (V × V)} (k : Keep π H π' H') (r : RPs x π H ps qs) : RPs x π' H' ps qs := Paired.mapP r fun _ _ z => ⟨z.1.keep k, z.2.keep k⟩
theorem storeAll (hK : X.K = x.K) (hP : X.prog = x.P) (hw : X.w = x.w) (hu : A.units + 9 < cLine) {π : Nm} {a : Addr} {xs : List D} (ho : keysOk xs = true) {Q : PUnit → Shared → Prop} : ∀ (rest : List (D × D)) (vv : List (V × V)) (ws : List (Value × Value)) (acc : List (D × D)) (u : HO) (H : Hp) (s : Shared), Inv X pins σ H s → H a = some u → DH x π H a acc u → RPs x π H rest vv → VV vv ws →
    (∀ kv ∈ rest, kv.1 ∈ xs) → (∀ kv ∈ acc, kv.1 ∈ xs) → acc.length + rest.length ≤ sizeLine → (∀ s' u', Inv X pins σ (upd H a u') s' → DH x π (upd H a u') a (rest.foldl (fun acc kv => dput acc kv.1 kv.2) acc) u' → Q PUnit.unit s') →
    wpAny (model X.prog X.w) A (forIn ws PUnit.unit fun (x : Value × Value) (_ : PUnit) => (do dictSet a x.1 x.2; pure (ForInStep.yield PUnit.unit) : Sem (ForInStep PUnit))) Q E s
  | [], _, _, acc, u, H, s, I, e, dh, r, v, h1, h2, hz, q => by
    cases r
    cases v
    rw [List.forIn_nil]
    have eu : upd H a u = H := by
      funext b
      by_cases hb : b = a
      · rw [hb, upd_same, e]
      · rw [upd_ne hb]
    exact wpAny_pure (q s u (by rw [eu]; exact I) (by rw [eu]; exact dh))
  | (k, d) :: rest, _, _, acc, u, H, s, I, e, dh, r, v, h1, h2, hz, q => by
    cases r with
    | cons r1 r2 =>
      cases v with
      | cons v1 v2 =>
        rename_i p1 vv' w1 ws'
        obtain ⟨w1a, w1b⟩ := w1
        rw [List.forIn_cons]
        obtain ⟨nt, _⟩ := not_tup_of dh e
        have hk : k ∈ xs := h1 (k, d) List.mem_cons_self
        simp only [List.length_cons] at hz
        refine wpAny_bind (wpAny_bind (dStore hK hP hw hu I dh e (keysOk_fits ho hk h2) r1.1 v1.1 r1.2 v1.2 (by omega) fun s' u' I' dh' => wpAny_pure ?_))
        have kp : Keep π H π (upd H a u') := Keep.upd' nt
        refine storeAll hK hP hw hu ho rest vv' ws' (dput acc k d) u' (upd H a u') s' I' upd_same dh' (RPs.keep kp r2) v2 (fun kv hkv => h1 kv (List.mem_cons_of_mem _ hkv)) (fun kv hkv => ?_) ?_ fun s'' u'' I'' dh'' => q s'' u'' (by rw [← upd_upd (u := u')]; exact I'') (by rw [← upd_upd (u := u')]; exact dh'')
        · rcases dput_mem hkv with hkv | ⟨q', hq, e'⟩
          · rw [hkv]; exact hk
          · rw [← e']; exact h2 q' hq
        · have := dput_length (acc := acc) (k := k) (d := d)
          omega
/-! ### the display -/
structure PPx (X : Cx) (pos : Pos) (keys : List (Option Expr)) (values : List Expr) (t : L2.St → Hp → (List (V × V) → Hp → Prop) → Prop) : Prop where
  run : ∀ (pins : List (Addr × Obj)) (s : Shared) (σ : L2.St) (H : Hp) (Q : List (V × V) → Hp → Prop), Inv X pins σ H s → t σ H Q →
    wpAny (model X.prog X.w) X.A (evalPairs (pairTrees keys values X.env pos)) (fun vs s' => ∃ ps H', Inv X pins σ H' s' ∧ VV ps vs ∧ Q ps H') X.xe s
def PostP (x : Gx) (W : L2.WX) (π : Nm) (H : Hp) (r : R (List (D × D))) (σ : L2.St) (Q : List (V × V) → Hp → Prop) : Prop :=
  match r with
  | .ok d h' => ∀ (π' : Nm) (H' : Hp) (vs : List (V × V)), Keep π H π' H' → Wd x π' h' H' → RPs x π' H' d vs → Q vs H'
  | .ex c p h' => ∀ (π' : Nm) (H' : Hp) (cls : Value) (d : Option Addr), Keep π H π' H' → Wd x π' h' H' → RX x π' H' c p cls d → W cls d σ H'
  | .bad => False
def tPs (x : Gx) (W : L2.WX) (m : St → AH → R (List (D × D))) : L2.St → Hp → (List (V × V) → Hp → Prop) → Prop := fun σ H Q => ∃ π ρ h, Beg x π ρ h σ H ∧ PostP x W π H (m ρ h) σ Q
theorem pp_nil : PPx X pos [] [] (tPs x W fun _ h => .ok [] h) := ⟨fun pins s σ H Q I ⟨π, ρ, h, b, p⟩ => pairTrees_nil_walk ⟨[], H, I, .nil, p π H [] Keep.refl b.wd .nil⟩⟩
def mPair (mk mv : St → AH → R D) (mr : St → AH → R (List (D × D))) : St → AH → R (List (D × D)) := fun ρ h => (mk ρ h).bind fun x h => (mv ρ h).bind fun y h => (mr ρ h).bind fun r h => .ok ((x, y) :: r) h
theorem PostP.keep {π π' : Nm} {H H' : Hp} {σ : L2.St} {Q : List (V × V) → Hp → Prop} {r : R (List (D × D))} (k : Keep π H π' H') (p : PostP x W π H r σ Q) : PostP x W π' H' r σ Q := by
  cases r with
  | ok d h' => exact fun π2 H2 v k2 w q => p π2 H2 v (k.trans k2) w q
  | ex c d h' => exact fun π2 H2 v d k2 w q => p π2 H2 v d (k.trans k2) w q
  | bad => exact p
theorem PostP.fst {α : Type} {F : Nm → Hp → α → V → Prop} {π : Nm} {H : Hp} {σ : L2.St} {r : R α} {f : α → AH → R (List (D × D))} {Q : List (V × V) → Hp → Prop} {Q' : VK} (p : PostP x W π H (r.bind f) σ Q)
    (hq : ∀ (π1 : Nm) (H1 : Hp) (h1 : AH) (d : α) (v : V), Keep π H π1 H1 → Wd x π1 h1 H1 → F π1 H1 d v → PostP x W π1 H1 (f d h1) σ Q → Q' v H1) : PostF x F W π H r σ Q' := by
  cases r with
  | ok d h' => exact fun π1 H1 v k w q => hq π1 H1 h' d v k w q (PostP.keep k p)
  | ex c d h' => exact p
  | bad => exact p
theorem pp_cons {k v : Expr} {ks : List (Option Expr)} {vs : List Expr} {mk mv : St → AH → R D} {mr : St → AH → R (List (D × D))} (hk : PE X k (tE x W mk)) (hv : PE X v (tE x W mv)) (hr : PPx X pos ks vs (tPs x W mr)) :
    PPx X pos (some k :: ks) (v :: vs) (tPs x W (mPair mk mv mr)) := by
  refine ⟨fun pins s σ H Q I ⟨π, ρ, h, b, p⟩ => ?_⟩
  refine pairTrees_cons_walk (thn (hk.run pins s σ H (fun v1 H1 => ∃ π1 h1 d1, Beg x π1 ρ h1 σ H1 ∧ RV x π1 H1 d1 v1 ∧ PostP x W π1 H1 ((mv ρ h1).bind fun y h => (mr ρ h).bind fun r h => .ok ((d1, y) :: r) h) σ Q) I ⟨π, ρ, h, b, PostP.fst p fun π1 H1 h1 d1 v1 k1 w1 r1 p1 => ⟨π1, h1, d1, b.keep k1 w1, r1, p1⟩⟩) fun u s1 ⟨y1, H1, I1, rx, π1, h1, d1, b1, r1, p1⟩ => ?_)
  refine thn (hv.run pins s1 σ H1 (fun v2 H2 => ∃ π2 h2 d2, Beg x π2 ρ h2 σ H2 ∧ RV x π2 H2 d1 y1 ∧ RV x π2 H2 d2 v2 ∧ PostP x W π2 H2 ((mr ρ h2).bind fun r h => .ok ((d1, d2) :: r) h) σ Q) I1 ⟨π1, ρ, h1, b1, PostP.fst p1 fun π2 H2 h2 d2 v2 k2 w2 r2 p2 => ⟨π2, h2, d2, b1.keep k2 w2, r1.keep k2, r2, p2⟩⟩) fun u2 s2 ⟨y2, H2, I2, ry, π2, h2, d2, b2, r1', r2, p2⟩ => ?_
  refine thn (hr.run pins s2 σ H2 (fun ps H3 => Q ((y1, y2) :: ps) H3) I2 ⟨π2, ρ, h2, b2, ?_⟩) fun ws s3 ⟨ps, H3, I3, rel, q3⟩ => ⟨(y1, y2) :: ps, H3, I3, .cons ⟨rx, ry⟩ rel, q3⟩
  cases e : mr ρ h2 with
  | ok kvs h3 =>
    rw [e] at p2
    exact fun π3 H3 vs k3 w3 r3 => p2 π3 H3 _ k3 w3 (.cons ⟨r1'.keep k3, r2.keep k3⟩ r3)
  | ex c d h3 => rw [e] at p2; exact p2
  | bad => rw [e] at p2; exact p2
def mDisp (mp : St → AH → R (List (D × D))) : St → AH → R (List (D × D)) := fun ρ h => (mp ρ h).bind fun kvs h => if keysOk (kvs.map (·.1)) && decide (kvs.length ≤ 15) then .ok (kvs.foldl (fun acc kv => dput acc kv.1 kv.2) []) h else .bad
theorem d_empty : PE X (.Dict [] [] pos) (tD x W fun _ h => .ok [] h) :=
  PE.imp pe_dnewK fun σ H Q ⟨π, ρ, h, b, p⟩ q nq => p.ok' (Keep.upd nq) (b.wd.upd nq) ⟨q, .dK [], rfl, b.wd.notin nq, upd_same, .flat .nil List.nodup_nil⟩
theorem d_disp {keys : List (Option Expr)} {values : List Expr} {mp : St → AH → R (List (D × D))} (hK : X.K = x.K) (hP : X.prog = x.P) (hw : X.w = x.w) (hu : X.A.units + 100 < cLine) (hall : keys.all (·.isSome) = true) (hl : keys.length = values.length) (h0 : keys ≠ []) (h15 : keys.length ≤ 15) (hp : PPx X pos keys values (tPs x W mp)) :
    PE X (.Dict keys values pos) (tD x W (mDisp mp)) := by
  refine ⟨fun pins s σ H Q I ⟨π, ρ, h, b, p⟩ => ?_⟩
  have hn := pairTrees_length keys values X.env pos hall hl
  have hne : pairTrees keys values X.env pos ≠ [] := fun e => h0 (List.length_eq_zero_iff.mp (by rw [e] at hn; exact hn.symm))
  rw [arm_eval_Dict, zip_pairTrees keys values X.env pos hall hl, dictDisplay_pairs (pairTrees keys values X.env pos) hne (by omega)]
  refine wpAny_bind (wpAny_standAt (wpAny_bind ?_))
  unfold subDict
  refine wpAny_bind (wpAny_alloc ?_)
  refine wpAny_bind (wpAny_holding ?_)
  rw [if_pos (by omega)]
  have nH := I.hok.fresh (Nat.le_refl s.heap.objs.size)
  have I1 := I.laid (a := s.heap.objs.size) (o := .dK []) (h' := s.heap.push { cls := .type "dict", data := .dict #[] }) (t' := s.toks) (fun _ _ q => Heap.get?_push_of_some _ q) (Nat.le_refl _) (dk_empty s.heap I.big)
  have k1 : Keep π H π (upd H s.heap.objs.size (.dK [])) := Keep.upd nH
  have fr := b.wd.notin nH
  have b1 : Beg x (π.hold s.heap.objs.size (.dK [])) ρ h σ (upd H s.heap.objs.size (.dK [])) := (b.keep k1 (b.wd.upd nH)).hold fr upd_same
  unfold mDisp at p
  refine wpAny_bind (wpAny_mono (hp.run pins _ σ _ (fun vs H2 => ∃ π2 h2 kvs, Keep π H π2 H2 ∧ Wd x π2 h2 H2 ∧ Free π2 s.heap.objs.size ∧ H2 s.heap.objs.size = some (.dK []) ∧ RPs x π2 H2 kvs vs ∧ PostF x (FD x) W π2 H2 (if keysOk (kvs.map (·.1)) && decide (kvs.length ≤ 15) then .ok (kvs.foldl (fun acc kv => dput acc kv.1 kv.2) []) h2 else .bad) σ Q) I1 ⟨_, ρ, h, b1, ?_⟩) (fun ws s2 ⟨ps, H2, I2, rel, π2, h2, kvs, k2, w2, f2, d2, rp, p2⟩ => ?_) fun _ _ e => e)
  · cases e : mp ρ h with
    | ok kvs h2 =>
      rw [e] at p
      intro π2 H2 vs k2 w2 r2
      obtain ⟨f2, d2⟩ := w2.heldAt k2 fr
      have kk : Keep π H (π2.loose π.fr) H2 := k1.trans k2.hold
      exact ⟨π2.loose π.fr, h2, kvs, kk, w2.unhold k2, f2, d2, Paired.mapP r2 fun _ _ z => ⟨z.1.ns, z.2.ns⟩, PostF.keep kk p⟩
    | ex c q h2 =>
      rw [e] at p
      intro π2 H2 cls dd k2 w2 q2
      refine p _ H2 cls dd (k1.trans k2.hold) (w2.unhold k2) ⟨q2.1, ?_⟩
      have := q2.2
      split
      · rename_i e; rw [e] at this; exact this
      · rename_i fl e
        rw [e] at this
        obtain ⟨d1, v1, z1, z2, z3⟩ := this
        exact ⟨d1, v1, z1, z2, z3.ns⟩
    | bad => rw [e] at p; exact p.elim
  · split at p2
    · rename_i hz
      simp only [Bool.and_eq_true, decide_eq_true_eq] at hz
      refine wpAny_holding ?_
      have hz2 : ([] : List (D × D)).length + kvs.length ≤ sizeLine := by rw [sizeLine_eq]; simp; omega
      refine wpAny_bind (storeAll hK hP hw (A := X.A) (by omega) hz.1 kvs ps ws [] (.dK []) H2 s2 I2 d2 (.flat .nil List.nodup_nil) rp rel (fun kv hkv => List.mem_map.mpr ⟨kv, hkv, rfl⟩) (fun kv hkv => by cases hkv) hz2 fun s3 u' I3 dh' => ?_)
      have so : Soft (H2 s.heap.objs.size) := ⟨fun vs z => (by rw [d2] at z; cases z), fun ob u z => (by rw [d2] at z; cases z)⟩
      have k3 : Keep π2 H2 π2 (upd H2 s.heap.objs.size u') := Keep.upd' so
      exact wpAny_pure (wpAny_pure (wpAny_pure ⟨.ref s.heap.objs.size, _, I3, rfl, p2 π2 _ _ k3 (w2.updFree f2 so) ⟨_, u', rfl, f2, upd_same, dh'⟩⟩))
    · exact p2.elim
/-- a new dict is named -/
theorem imp_newd {m : St → AH → R (List (D × D))} : ∀ σ H Q, tE x W (fun ρ h => (m ρ h).bind fun kvs h => .ok (.ref h.length) (h ++ [.dct kvs false])) σ H Q → tD x W m σ H Q := by
  refine fun σ H Q ⟨π, ρ, h, b, p⟩ => tF.fst b p fun π1 H1 h1 kvs v b1 r1 k1 p1 => ?_
  obtain ⟨a, u, rfl, na, e, dh⟩ := r1
  obtain ⟨w2, k2⟩ := b1.wd.named (o := .dct kvs false) na (.dct (dh.keep Keep.push) e)
  exact p1.ok' k2 w2 (.ref (b1.wd.pushed))
theorem r_newd {e : Expr} {m : St → AH → R (List (D × D))} (h : PE X e (tD x W m)) : PE X e (tE x W fun ρ h => (m ρ h).bind fun kvs h => .ok (.ref h.length) (h ++ [.dct kvs false])) := PE.imp h imp_newd
/-- its keys -/
theorem k_d {e : Expr} {m : St → AH → R (List (D × D))} (h : PE X e (tD x W m)) : PE X e (tK x W fun ρ h => (m ρ h).bind fun kvs h => .ok (kvs.map (·.1)) h) := by
  refine PE.imp h fun σ H Q ⟨π, ρ, h, b, p⟩ => tF.fst b p fun π1 H1 h1 kvs v b1 r1 k1 p1 => ?_
  obtain ⟨a, u, rfl, na, e, dh⟩ := r1
  exact p1.ok b1.wd (.inr ⟨a, kvs, u, rfl, dh, .inl e, rfl⟩)
end
end Rw
set_option Elab.async false
set_option linter.all false
set_option autoImplicit false
set_option maxRecDepth 100000
set_option maxHeartbeats 4000000
namespace Rw
open PySem PySem.Spec PyProof.Rows L2

/-! ## dict comprehensions, flat keys -/
def dfold (ps : List D) : List (D × D) := ps.foldl (fun acc p => dput acc (pairFst p) (pairSnd p)) []
def dfin (ps : List D) (h : AH) : R (List (D × D)) := if (ps.map pairFst).all flatK then .ok (dfold ps) h else .bad
def mkv (mk mv : St → AH → R D) : St → AH → R D := fun ρ h => (mk ρ h).bind fun y h => (mv ρ h).bind fun z h => .ok (D.tup [y, z]) h
def dcompS (mI : St → AH → R (List D × List Nat)) (t : Tg) (own : List Nat) (mi : St → AH → R Bool) (mk mv : St → AH → R D) : St → AH → R (List (D × D)) := fun ρ h => (mI ρ h).bind fun xw h0 =>
  (R.unlock h0 xw.2 (R.calm (compGo (sameH (lockH xw.2 h0) xw.2) (elC t own ρ mi (mkv mk mv)) xw.1 (lockH xw.2 h0)))).bind dfin
theorem dfold_len (ps : List D) : (dfold ps).length ≤ ps.length := by
  have : ∀ (ps : List D) (acc : List (D × D)), (ps.foldl (fun acc p => dput acc (pairFst p) (pairSnd p)) acc).length ≤ acc.length + ps.length := by
    intro ps
    induction ps with
    | nil => intro acc; simp
    | cons p ps ih =>
      intro acc
      rw [List.foldl_cons, List.length_cons]
      have := ih (dput acc (pairFst p) (pairSnd p))
      have := dput_length (acc := acc) (k := pairFst p) (d := pairSnd p)
      omega
  have := this ps []
  simpa [dfold] using this
section
variable {x : Gx} {X : Cx} {W : L2.WX} {pos : Pos}
theorem dc_imp {NF : Addr → Prop} {mI : St → AH → R (List D × List Nat)} {t : Tg} {mi : St → AH → R Bool} {mk mv : St → AH → R D} {own : List (Str × Nat)} (ht : tgIn (own.map (·.2)) t = true) : ∀ σ H Q, tD x W (dcompS mI t (own.map (·.2)) mi mk mv) σ H Q →
    tDc (tI x NF W mI) (tG x t) (tB x mi) (tE x WF mk) (tE x WF mv) (own.map (·.2)) σ H fun v => Un NF (Q v) := by
  refine fun σ H Q ⟨π, ρ, h, b, p⟩ => ⟨π, ρ, h, b, ?_⟩
  unfold dcompS at p
  generalize own.map (·.2) = ow at p ht ⊢
  cases e : mI ρ h with
  | bad => rw [e] at p; exact p.elim
  | ex c d h0 => rw [e] at p; exact p
  | ok dw h0 =>
    rw [e] at p
    replace p : PostF x (FD x) W π H ((R.unlock h0 dw.2 (R.calm (compGo (sameH (lockH dw.2 h0) dw.2) (elC t ow ρ mi (mkv mk mv)) dw.1 (lockH dw.2 h0)))).bind dfin) σ Q := p
    cases ec : compGo (sameH (lockH dw.2 h0) dw.2) (elC t ow ρ mi (mkv mk mv)) dw.1 (lockH dw.2 h0) with
    | ex c q h1 => rw [ec] at p; exact p.elim
    | bad => rw [ec] at p; exact p.elim
    | ok all hE =>
      rw [ec] at p
      have hall := compGo_len ec
      replace p : PostF x (FD x) W π H ((match unlockH h0 dw.2 hE with | some h => .ok all h | none => .bad : R (List D)).bind dfin) σ Q := p
      cases eu : unlockH h0 dw.2 hE with
      | none => rw [eu] at p; exact p.elim
      | some h3 =>
        rw [eu] at p
        replace p : PostF x (FD x) W π H (dfin all h3) σ Q := p
        unfold dfin at p
        split at p
        case isFalse => exact p.elim
        rename_i hflat
        intro π1 G1 H1 J k0 w1 L it Dl nD
        have k1 := L.keep
        have w1' := L.wd w1
        have st1 : RSt x π1 H1 (wipeS ρ ow) (wipe σ ow) := (((b.st.keepV k0.toKeep0.toV).keepV k1.toKeep0.toV)).wipe ow
        have kD : Keep π1 H1 π1 (upd H1 Dl (.dK [])) := Keep.upd nD
        let Inv' : Nat → Hp → Prop := fun i H => ∃ h π acc qs zs, compGo (sameH (lockH dw.2 h0) dw.2) (elC t ow ρ mi (mkv mk mv)) (dw.1.drop i) h = .ok zs hE ∧ all = acc ++ zs ∧ Wd x π h H ∧ Keep π1 H1 π H ∧ Free π Dl ∧ H Dl = some (.dK qs) ∧ DK x π H (dfold acc) qs ∧ (qs.map (·.1)).Nodup
        refine ⟨fun i m H => m = dw.1.length - i ∧ i ≤ dw.1.length ∧ Inv' i H, ⟨dw.1.length, rfl, Nat.zero_le _, lockH dw.2 h0, π1, [], [], all, ec, rfl, w1'.upd nD, kD, w1'.notin nD, upd_same, .nil, List.nodup_nil⟩, ?_⟩
        rintro i m H2 ⟨rfl, hi', h2, π2, acc, qs, zs, ez, ea, w2, k2, f2, d2, r2, nd⟩
        by_cases hlt : i < dw.1.length
        · have ed : dw.1.drop i = dw.1[i] :: dw.1.drop (i + 1) := List.drop_eq_getElem_cons hlt
          rw [ed] at ez
          obtain ⟨hs2, ys, h4, zs', e4, e5, rfl⟩ := compGo_cons ez
          refine .inr ⟨it.go i π2 H2 h2 hlt k2 w2 hs2, Inv' (i + 1), fun H' q => ⟨dw.1.length - (i + 1), by omega, rfl, hlt, q⟩, fun v H' y => ?_⟩
          obtain ⟨ky, wy, ry, sy⟩ := it.yld i dw.1[i] π2 H2 h2 v H' (List.getElem?_eq_getElem hlt) k2 w2 hs2 y
          have dy := sy Dl _ d2
          have kk := k2.trans ky
          unfold elC at e4
          cases eg : asgD h2 t dw.1[i] (wipeS ρ ow) with
          | none => rw [eg] at e4; cases e4
          | some ρ1 =>
            rw [eg] at e4
            replace e4 : ((mi ρ1 h2).bind fun b h => if b then (mkv mk mv ρ1 h).bind fun y h => .ok [y] h else .ok [] h : R (List D)) = .ok ys h4 := e4
            have bh : Beg x (π2.hold Dl (.dK qs)) (wipeS ρ ow) h2 (wipe σ ow) H' := Beg.hold ⟨st1.keep kk, wy⟩ f2 dy
            refine ⟨_, _, _, _, ρ1, bh, ry.ns, eg, fun σ2 b2 put => ⟨wipe_put ht put, ?_⟩⟩
            cases em : mi ρ1 h2 with
            | ex c q h5 => rw [em] at e4; cases e4
            | bad => rw [em] at e4; cases e4
            | ok tb h5 =>
              rw [em] at e4
              replace e4 : (if tb = true then (mkv mk mv ρ1 h5).bind fun y h => .ok [y] h else .ok [] h5 : R (List D)) = .ok ys h4 := e4
              refine ⟨_, ρ1, h2, tb, h5, b2, em, fun π5 H5 k5 w5 => ?_⟩
              have k5' : Keep π2 H' (π5.loose π2.fr) H5 := k5.hold
              cases tb with
              | false =>
                cases e4
                show Inv' (i + 1) H5
                obtain ⟨f5, d5⟩ := w5.heldAt k5 f2
                exact ⟨h4, π5.loose π2.fr, acc, qs, zs', e5, by simpa using ea, w5.unhold k5, kk.trans k5', f5, d5, (r2.keep ky).keep k5', nd⟩
              | true =>
                replace e4 : ((mkv mk mv ρ1 h5).bind fun y h => .ok [y] h : R (List D)) = .ok ys h4 := e4
                show tE x WF mk σ2 H5 fun yV H6 => tE x WF mv σ2 H6 fun zV H7 => ∃ kvs k, yV = kV k ∧ H7 Dl = some (HO.dK kvs) ∧ kvs.length < sizeLine ∧ Inv' (i + 1) (upd H7 Dl (HO.dK (putK kvs k zV)))
                unfold mkv at e4
                cases en : mk ρ1 h5 with
                | ex c q h6 => rw [en] at e4; cases e4
                | bad => rw [en] at e4; cases e4
                | ok yk h6 =>
                  rw [en] at e4
                  replace e4 : (((mv ρ1 h6).bind fun z h => .ok (D.tup [yk, z]) h : R D).bind fun y h => .ok [y] h : R (List D)) = .ok ys h4 := e4
                  cases en2 : mv ρ1 h6 with
                  | ex c q h7 => rw [en2] at e4; cases e4
                  | bad => rw [en2] at e4; cases e4
                  | ok yv h7 =>
                    rw [en2] at e4
                    cases e4
                    refine ⟨π5, ρ1, h5, b2.keep k5 w5, ?_⟩
                    rw [en]
                    intro π6 H6 v6 k6 w6 r6
                    refine ⟨π6, ρ1, h6, (b2.keep k5 w5).keep k6 w6, ?_⟩
                    rw [en2]
                    intro π7 H7 v7 k7 w7 r7
                    have k57 := (k5.trans k6).trans k7
                    have k7' : Keep π2 H' (π7.loose π2.fr) H7 := k57.hold
                    obtain ⟨f7, d7⟩ := w7.heldAt k57 f2
                    have so : Soft (H7 Dl) := ⟨fun vs z => (by rw [d7] at z; cases z), fun o u z => (by rw [d7] at z; cases z)⟩
                    have hfl : flatK yk = true := by
                      have := List.all_eq_true.mp hflat yk (by rw [ea]; simp [pairFst])
                      exact this
                    obtain ⟨kq, hkq⟩ : ∃ kq, keyOf yk = some kq := by cases yk <;> first | exact ⟨_, rfl⟩ | cases hfl
                    have ev := kV_of hkq r6
                    subst ev
                    have r8 : DK x (π7.loose π2.fr) H7 (dfold acc) qs := (r2.keep ky).keep k7'
                    have k8 : Keep (π7.loose π2.fr) H7 (π7.loose π2.fr) (upd H7 Dl (.dK (putK qs kq v7))) := Keep.upd' so
                    have hlq : qs.length = (dfold acc).length := (Paired.len r8).symm
                    have hla := dfold_len acc
                    have hz : acc.length + 1 ≤ sizeLine := by
                      have : all.length = acc.length + 1 + zs'.length := by rw [ea]; simp; omega
                      omega
                    have ef : dfold (acc ++ [.tup [yk, yv]]) = dput (dfold acc) yk yv := by unfold dfold; rw [List.foldl_append]; rfl
                    exact ⟨qs, kq, rfl, d7, by omega, h4, π7.loose π2.fr, acc ++ [.tup [yk, yv]], _, zs', e5, by rw [ea]; simp, (w7.unhold k57).updFree f7 so, (kk.trans k7').trans k8, f7, upd_same, by rw [ef]; exact (dput_flat hkq (show RV x (π7.loose π2.fr) H7 yv v7 from r7.ns) r8 nd).keep k8, putK_nodup nd⟩
        · have e9 : i = dw.1.length := by omega
          subst e9
          rw [List.drop_length] at ez
          obtain ⟨hs2, rfl, rfl⟩ := compGo_nil ez
          refine .inl ⟨it.stop π2 H2 h2 k2 w2 hs2, ?_⟩
          rw [List.append_nil] at ea
          subst ea
          refine L.fin k0 k2 w2 eu fun H' kk ww tt ff => p _ H' _ kk ww ⟨Dl, .dK qs, rfl, ⟨f2.1, fun q hq => f2.2 q (by rw [k2.fr]; exact k0.fr q hq)⟩, by rw [ff Dl f2.1]; exact d2, .flat (r2.keep0 (show KeepV π2 H2 (π2.loose π.fr) H' from ⟨fun _ _ e => e, tt⟩)) nd⟩
theorem d_comp {kx vx tg iter : Expr} {ifs : List Expr} {scope : Scope} {own : List (Str × Nat)} {mI : St → AH → R (List D × List Nat)} {t : Tg} {mi : St → AH → R Bool} {mk mv : St → AH → R D} (hc : X.calm = true) (hN : X.N.Nodup) (hi : PI X tg iter (tI x (NFx X) W mI)) (ok : BlkOk X.N X.env.scope scope own) (ht : tgIn (own.map (·.2)) t = true)
    (hg : ∀ (s : Shared) (H : Hp) (C : Addr) (cl : List (Str × Addr)) (fp : List Addr), PG (X.blk s H scope (compEnvC scope cl C X.env) fp) tg (tG x t)) (hb : ∀ (s : Shared) (H : Hp) (C : Addr) (cl : List (Str × Addr)) (fp : List Addr), PTs (X.blk s H scope (compEnvC scope cl C X.env) fp) ifs (tB x mi))
    (hk : ∀ (s : Shared) (H : Hp) (C : Addr) (cl : List (Str × Addr)) (fp : List Addr), PE (X.blk s H scope (compEnvC scope cl C X.env) fp) kx (tE x WF mk))
    (he : ∀ (s : Shared) (H : Hp) (C : Addr) (cl : List (Str × Addr)) (fp : List Addr), PE (X.blk s H scope (compEnvC scope cl C X.env) fp) vx (tE x WF mv)) (hs : ∀ x, foldedSetIterable iter X.env x = pure x) :
    PE X (.DictComp kx vx [⟨tg, iter, ifs, 0⟩] scope pos) (tD x W (dcompS mI t (own.map (·.2)) mi mk mv)) := by
  exact PE.imp (pe_un (pe_dc hc hN hi ok hg hb hk he hs)) (dc_imp ht)
end
end Rw
set_option Elab.async false
set_option linter.all false
set_option autoImplicit false
set_option maxRecDepth 100000
set_option maxHeartbeats 4000000
namespace Rw
open PySem PySem.Spec PyProof.Rows L2

/-! ## sets of ints -/
section
variable {P : Program} {w : World} {A : Around} {E : Value → Shared → Prop} {s : Shared}
theorem call_set_lstI {l : Addr} {items : Array Value} (ns : List Int) {Q : Value → Shared → Prop} (hh : A.handled = none) (hl : s.heap.IsList l items) (hit : IntsAre items.toList ns) (hb : ns.length + 1 < scanBound)
    (h : ∀ (h' : Heap) (tk c : Nat), SetR w h' s.heap.objs.size (fun j => decide (j ∈ ns)) c → c ≤ ns.length → (∀ b o, s.heap.get? b = some o → h'.get? b = some o) → Q (.ref s.heap.objs.size) { s with heap := h', toks := tk }) :
    wpAny (model P w) A (call (.type "set") [.ref l]) Q E s := by
  have hisz : items.size = ns.length := by
    have q := IntsAre.length hit
    rw [Array.length_toList] at q
    exact q
  obtain ⟨c, tl, hmro⟩ := F.called_set.mro
  have hmade := F.called_set.made
  have hsub := F.called_set.sub
  refine wpAny_call (codeAny_of_tree ?_)
  show wpAny _ _ (callAny (.type "set") _) _ _ _
  refine wpAny_pure ⟨Code.quiet_builtin _ (by decide +kernel), codeAny_builtin F.entry_type_call ?_⟩
  rw [Around.under_plain (weight_type_call_type "set" [.ref l] []) rfl]
  have h1 := F.called_set.notType
  have h2 := F.called_set.canCreate
  have hct := F.typeCall_set_1 (.ref l)
  repeat (any_goals (first | assumption | wp_step))

  refine codeAny_mono (code_set_led1 (.ref l) (E := E) (Q₁ := fun obj s₁ => obj = .ref s.heap.objs.size ∧ s₁ = { s with heap := s.heap.push { cls := .type "set", dict := none, data := .set #[] 0 (.fresh 0 0 (!w.params.followText "set-order")) } }) ⟨rfl, rfl⟩) fun r s₁ hr => ?_
  cases r with
  | error e => exact hr
  | ok fl =>
    cases fl with
    | ret obj =>
      obtain ⟨rfl, rfl⟩ := hr
      have hS : (s.heap.push { cls := .type "set", dict := none, data := .set #[] 0 (.fresh 0 0 (!w.params.followText "set-order")) }).get? s.heap.objs.size = some { cls := .type "set", dict := none, data := .set #[] 0 (.fresh 0 0 (!w.params.followText "set-order")) } := Heap.get?_push_size _ rfl
      have hT : Shared.TypeIs { s with heap := s.heap.push { cls := .type "set", dict := none, data := .set #[] 0 (.fresh 0 0 (!w.params.followText "set-order")) } } (.ref s.heap.objs.size) "set" := ⟨_, hS, rfl⟩
      have hli := F.called_set.init.lookup
      have hbi := F.called_set.init.bind (.ref s.heap.objs.size)
      repeat (any_goals (first | assumption | wp_step))

      refine codeAny_mono (codeAny_call_builtin (R := wants (fun r s₂ => r = .none ∧ ∃ h' tk c, s₂ = { s with heap := h', toks := tk } ∧ SetR w h' s.heap.objs.size (fun j => decide (j ∈ ns)) c ∧ c ≤ ns.length ∧
          (∀ b o, s.heap.get? b = some o → h'.get? b = some o)) E) F.called_set.init.plain F.entry_set_init (check_set_init_1 hT ?_)) fun r₂ s₂ hr₂ => ?_
      · obtain ⟨ol, hol, hcl, nl, hdl⟩ := hl
        obtain ⟨ocls, odict, odata, oslots⟩ := ol
        simp only at hcl hdl
        subst hcl; subst hdl
        have hol' : (s.heap.push { cls := .type "set", dict := none, data := .set #[] 0 (.fresh 0 0 (!w.params.followText "set-order")) }).get? l = some { cls := .type "list", dict := odict, data := .seq items nl, slots := oslots } := Heap.get?_push_of_some _ hol
        have hsls := F.sub_list_set
        have hslf := F.sub_list_frozenset
        have hne : (Value.type "list" == Value.type "dict") = false := by decide
        have hl1 : (s.heap.push { cls := .type "set", dict := none, data := .set #[] 0 (.fresh 0 0 (!w.params.followText "set-order")) }).IsList l items := ⟨_, hol', rfl, nl, rfl⟩
        unfold Builtin.«set.__init__» noKeywords Builtin.Frozenset.updateFrom
        generalize hPI : pyIter = PI
        wp_walk
        subst hPI

        refine wpAny_pyIter_list hl1 ?_
        refine wpAny_bind (wpAny_runValue ?_)
        have hlS : l < s.heap.objs.size := Heap.lt_size hol
        have hh3 : A.in1.in1.in1.handled = none := by simp [hh]
        have hz1 : (s.heap.push { cls := .type "set", dict := none, data := .set #[] 0 (.fresh 0 0 (!w.params.followText "set-order")) }).objs.size = s.heap.objs.size + 1 := Heap.size_push ..
        have hneI : l ≠ (s.heap.push { cls := .type "set", dict := none, data := .set #[] 0 (.fresh 0 0 (!w.params.followText "set-order")) }).objs.size := by
          rw [Heap.size_push]; exact Nat.ne_of_lt (Nat.lt_succ_of_lt hlS)
        have hSf : s.heap.objs.size ∉ [(s.heap.push { cls := .type "set", dict := none, data := .set #[] 0 (.fresh 0 0 (!w.params.followText "set-order")) }).objs.size, l] := by
          rw [Heap.size_push]; simp only [List.mem_cons, List.mem_singleton, List.not_mem_nil, or_false, not_or]
          exact ⟨Nat.ne_of_lt (Nat.lt_succ_self _), Nat.ne_of_gt hlS⟩
        have hval : ∀ (i : Nat) (v : Value), items[i]? = some v → ∃ k t, ns[i]? = some k ∧ v = .int k t := fun i v hv => by
          have hi : i < ns.length := by rw [← hisz]; exact (Array.getElem?_eq_some_iff.mp hv).1
          obtain ⟨t, e⟩ := PyProof.Rows.IntsAre.int_at hit i v (by rw [Array.getElem?_toList]; exact hv)
          refine ⟨ns[i], t, List.getElem?_eq_getElem hi, ?_⟩
          rw [e, List.getD_eq_getElem?_getD, List.getElem?_eq_getElem hi] <;> rfl
        refine set_update_ints ((Walks.list hh3 _ l hneI items).toS) s.heap.objs.size
          hSf ns hisz hb hval (items.size - 0) 0 _ (by omega) (Nat.zero_le _)
          ⟨⟨_, Heap.get?_push_size _ rfl, rfl, rfl⟩, (hl1.push _)⟩ ?hS0 ?hR
        case hS0 =>
          have hget : ((s.heap.push { cls := .type "set", dict := none, data := .set #[] 0 (.fresh 0 0 (!w.params.followText "set-order")) }).push { cls := .type "list_iterator", data := .fields #[.ref l, .int 0 0] }).get? s.heap.objs.size
              = some { cls := .type "set", dict := none, data := .set #[] 0 (.fresh 0 0 (!w.params.followText "set-order")) } := Heap.get?_push_of_some _ hS
          exact ⟨0, Nat.le_refl 0, setR_new_at hget⟩
        case hR =>
          intro s' c' hm hc' hS'
          obtain ⟨h', g2, d', tk', os'⟩ := s'
          have eg : g2 = s.gens := hm.gens
          have ed : d' = s.drawn := hm.drawn
          have eo : os' = s.os := hm.os
          subst eg; subst ed; subst eo
          show wpAny _ _ _ _ _ _
          refine wpAny_pure ?_
          show wpAny _ _ (ret Value.none) _ _ _
          rw [hisz] at hc'
          refine wpAny_pure ⟨rfl, h', tk', c', rfl, hS', hc', fun b o e => ?_⟩
          have hb0 : b < s.heap.objs.size := Heap.lt_size e
          have hb1 : b ≠ s.heap.objs.size := Nat.ne_of_lt hb0
          have hb2 : b ≠ (s.heap.push { cls := .type "set", dict := none, data := .set #[] 0 (.fresh 0 0 (!w.params.followText "set-order")) }).objs.size := by
            rw [Heap.size_push]; exact Nat.ne_of_lt (Nat.lt_succ_of_lt hb0)
          exact hm.heap b o (by simp only [List.mem_cons, List.mem_singleton, List.not_mem_nil, or_false, not_or]; exact ⟨hb1, hb2⟩) (Heap.get?_push_of_some _ (Heap.get?_push_of_some _ e))

      · cases r₂ with
        | error e => exact hr₂
        | ok fl₂ =>
          cases fl₂ with
          | ret r =>
            obtain ⟨rfl, h', tk, c', rfl, hS', hc', hk'⟩ := hr₂
            repeat (any_goals (first | assumption | wp_step))
            exact h _ _ _ hS' hc' hk'
          | _ => exact hr₂.elim
    | _ => exact hr.elim

end
end Rw
set_option Elab.async false
set_option linter.all false
set_option autoImplicit false
set_option maxRecDepth 100000
set_option maxHeartbeats 4000000
namespace Rw
open PySem PySem.Spec PyProof.Rows L2

/-! ## ints, rising, each once -/
theorem insU_mem {x k : Int} : ∀ {l : List Int}, k ∈ insU x l ↔ k = x ∨ k ∈ l
  | [] => by simp [insU]
  | y :: ys => by
    unfold insU
    split
    · simp
    · split
      · rename_i h; subst h; simp
      · simp only [List.mem_cons, insU_mem (l := ys)]
        constructor
        · rintro (h | h | h)
          · exact .inr (.inl h)
          · exact .inl h
          · exact .inr (.inr h)
        · rintro (h | h | h)
          · exact .inr (.inl h)
          · exact .inl h
          · exact .inr (.inr h)
theorem setI_mem {k : Int} : ∀ {l : List Int}, k ∈ setI l ↔ k ∈ l
  | [] => by simp [setI]
  | y :: ys => by unfold setI; rw [insU_mem, setI_mem (l := ys), List.mem_cons]
theorem insU_lt {x : Int} : ∀ {l : List Int}, l.Pairwise (· < ·) → (insU x l).Pairwise (· < ·)
  | [], _ => by simp [insU]
  | y :: ys, h => by
    obtain ⟨h1, h2⟩ := List.pairwise_cons.mp h
    unfold insU
    split
    · rename_i hx
      refine List.pairwise_cons.mpr ⟨fun k hk => ?_, h⟩
      rcases List.mem_cons.mp hk with e | e
      · rw [e]; exact hx
      · exact Int.lt_trans hx (h1 k e)
    · split
      · exact h
      · rename_i a b
        refine List.pairwise_cons.mpr ⟨fun k hk => ?_, insU_lt h2⟩
        rcases insU_mem.mp hk with e | e
        · rw [e]; omega
        · exact h1 k e
theorem setI_lt : ∀ {l : List Int}, (setI l).Pairwise (· < ·)
  | [] => List.Pairwise.nil
  | y :: ys => by unfold setI; exact insU_lt setI_lt
theorem lt_nodup {l : List Int} (h : l.Pairwise (· < ·)) : l.Nodup := h.imp fun a => Int.ne_of_lt a
theorem asc_unique : ∀ {a b : List Int}, a.Pairwise (· < ·) → b.Pairwise (· < ·) → (∀ k, k ∈ a ↔ k ∈ b) → a = b
  | [], [], _, _, _ => rfl
  | [], y :: ys, _, _, h => absurd ((h y).mpr (List.mem_cons_self ..)) (by simp)
  | x :: xs, [], _, _, h => absurd ((h x).mp (List.mem_cons_self ..)) (by simp)
  | x :: xs, y :: ys, ha, hb, h => by
    obtain ⟨a1, a2⟩ := List.pairwise_cons.mp ha
    obtain ⟨b1, b2⟩ := List.pairwise_cons.mp hb
    have e : x = y := by
      rcases List.mem_cons.mp ((h x).mp (List.mem_cons_self ..)) with e | e
      · exact e
      · rcases List.mem_cons.mp ((h y).mpr (List.mem_cons_self ..)) with e2 | e2
        · exact e2.symm
        · have := b1 x e; have := a1 y e2; omega
    subst e
    rw [asc_unique a2 b2 fun k => ?_]
    have := h k
    simp only [List.mem_cons] at this
    constructor
    · intro hk
      rcases this.mp (.inr hk) with e | e
      · have := a1 k hk; omega
      · exact e
    · intro hk
      rcases this.mpr (.inr hk) with e | e
      · have := b1 k hk; omega
      · exact e
theorem setI_len {l es : List Int} (nd : es.Nodup) (h : ∀ k, k ∈ es ↔ k ∈ l) : es.length = (setI l).length :=
  ((List.perm_ext_iff_of_nodup nd (lt_nodup setI_lt)).mpr fun k => (h k).trans setI_mem.symm).length_eq
theorem intsD_map : ∀ {xs : List D} {ns : List Int}, intsD xs = some ns → xs = ns.map D.int
  | [], ns, h => by cases h; rfl
  | .int i :: r, ns, h => by
    unfold intsD at h
    cases hr : intsD r with
    | none => rw [hr] at h; cases h
    | some ms =>
      rw [hr] at h
      cases h
      rw [intsD_map hr]; rfl
  | .non :: r, ns, h => by cases h
  | .bl _ :: r, ns, h => by cases h
  | .str _ :: r, ns, h => by cases h
  | .tup _ :: r, ns, h => by cases h
  | .ref _ :: r, ns, h => by cases h
  | .fn _ :: r, ns, h => by cases h
section
variable {x : Gx} {X : Cx} {W : L2.WX} {pos p p2 p3 : Pos}
theorem ints_vs {π : Nm} {H : Hp} : ∀ {ns : List Int} {vs : List V}, RVs x π H (ns.map D.int) vs → vs = ns.map V.int
  | [], _, .nil => rfl
  | n :: ns, _, .cons r rs => by rw [rv_int r, ints_vs rs]; rfl
theorem ints_rvs {π : Nm} {H : Hp} : ∀ ns : List Int, RVs x π H (ns.map D.int) (ns.map V.int)
  | [] => .nil
  | n :: ns => .cons (.int n) (ints_rvs ns)
/-- a set made of ints -/
def FS (x : Gx) (_ : Nm) (H : Hp) (ns : List Int) (v : V) : Prop := ns.length < 1000 ∧ ∃ a S, v = .ref a ∧ H a = some (SetO x.w a S (setI ns).length) ∧ ∀ k, S k = true ↔ k ∈ ns
theorem cq_set (hK : X.K = x.K) (hP : X.prog = x.P) (hw : X.w = x.w) (hc : X.calm = true) : CallR X (.type "set") (fun vs H Q => ∃ π ns v, vs = [v] ∧ FQ x π H (ns.map D.int) v ∧ ns.length < 1000 ∧ ∀ p S, H p = none → (∀ k, S k = true ↔ k ∈ ns) → Q (.ref p) (upd H p (SetO x.w p S (setI ns).length))) := by
  intro pins s σ H vs us Q I r h
  obtain ⟨π, ns, v, rfl, ⟨c, ws, rfl, sq, rs⟩, hl, q⟩ := h
  rw [Vals.ref1 r]
  obtain rfl := ints_vs rs
  have fin : ∀ (h' : Heap) (tk c : Nat), SetR X.w h' s.heap.objs.size (fun j => decide (j ∈ ns)) c → c ≤ ns.length → (∀ b o, s.heap.get? b = some o → h'.get? b = some o) → EP X pins σ Q (.ref s.heap.objs.size) { s with heap := h', toks := tk } := by
    intro h' tk c hS hc hk
    have hn : H s.heap.objs.size = none := I.hok.fresh (Nat.le_refl _)
    have e : c = (setI ns).length := by
      obtain ⟨o, es, ep, t, ho, _, _, _, nd, hm, _, _, hc, _⟩ := hS
      rw [← hc, ← Array.length_toList, ← List.length_map (f := L2.keyOf)]
      exact setI_len nd fun k => (hm k).symm.trans (by simp)
    subst e
    exact ⟨.ref _, _, I.laid (t' := tk) hk (Nat.le_refl _) (setO_new hS), rfl, by rw [hw]; exact q _ _ hn fun k => by simp⟩
  rcases sq with sq | sq
  · obtain ⟨its, rv, pl, hz⟩ := I.list (by rw [hK]; exact sq)
    exact call_set_lstI ns (I.ok.hd hc) pl.isList (by simpa using rv.ints) (by unfold scanBound; omega) fin
  · obtain ⟨its, rv, pt, hz⟩ := I.tuple (by rw [hK]; exact sq.sq)
    exact call_set_tupI ns (I.ok.hd hc) pt (by simpa using rv.ints) (by unfold scanBound; omega) fin
theorem setD_of {xs : List D} {ns : List Int} (h : setD xs = some ns) : xs = ns.map D.int ∧ ns.length < 1000 := by
  unfold setD at h
  cases e : intsD xs with
  | none => rw [e] at h; cases h
  | some ms =>
    rw [e] at h
    replace h : (if ms.length < 1000 then some ms else none) = some ns := h
    split at h
    · cases h; exact ⟨intsD_map e, by assumption⟩
    · cases h
theorem setI_le : ∀ {l : List Int}, (setI l).length ≤ l.length := fun {l} => (lt_nodup setI_lt).length_le_of_subset fun k hk => setI_mem.mp hk
variable {a : Expr} {m : St → AH → R (List D)}
def mSet (m : St → AH → R (List D)) : St → AH → R (List Int) := fun ρ h => (m ρ h).bind fun xs h => R.opt h (setD xs)
theorem st_set (hK : X.K = x.K) (hP : X.prog = x.P) (hw : X.w = x.w) (hc : X.calm = true) (hg : Gl X "set") (hm : X.mg "set" = none) (hp : plainE a = true) (ha : PE X a (tQ x W m)) :
    PE X (.Call (.Name "set" p) [a] [] pos) (tF x (FS x) W (mSet m)) := by
  refine PE.imp (pe_callTy (cq_set hK hP hw hc) hg hm (by decide +kernel) (pa_cons ha pa_nil (star_of hp)) (by decide) (by decide) (star_of hp) rfl) fun σ H0 Q ⟨π, ρ, h, b, q⟩ => tF.fst b q fun π1 H1 h1 ds v b1 r1 k1 p1 => ?_
  obtain ⟨ns, e, p2⟩ := p1.opt1
  obtain ⟨rfl, hl⟩ := setD_of e
  exact ⟨π1, ns, v, rfl, r1, hl, fun p S np hS => p2 _ _ _ (Keep.upd np) (b1.wd.upd np) ⟨hl, p, S, rfl, upd_same, hS⟩⟩
theorem cq_lenS (hw : X.w = x.w) : CallR X (.builtin "len") (fun vs H Q => ∃ ns v, vs = [v] ∧ FS x ⟨[], []⟩ H ns v ∧ Q (.int (setI ns).length) H) := by
  intro pins s σ H vs us Q I r h
  obtain ⟨ns, v, rfl, ⟨hl, a, S, rfl, ha, _⟩, q⟩ := h
  rw [Vals.ref1 r]
  obtain ⟨o, es, ep, t, ho, hex, hd, _, _, _, _, hf, hn, _⟩ := setO_get I (by rw [hw]; exact ha)
  have := setI_le (l := ns)
  refine call_len_set ho hex hd hf (by rw [hn]; omega) ⟨.int _, H, I.tok _, ⟨_, by rw [hn]⟩, q⟩
theorem r_lenS (hK : X.K = x.K) (hP : X.prog = x.P) (hw : X.w = x.w) (hc : X.calm = true) (hg : Gl X "len") (hm : X.mg "len" = none) (hg2 : Gl X "set") (hm2 : X.mg "set" = none) (hp : plainE a = true) (ha : PE X a (tQ x W m)) :
    PE X (.Call (.Name "len" p) [.Call (.Name "set" p2) [a] [] p3] [] pos) (tE x W fun ρ h => (mSet m ρ h).bind fun ns h => R.opt h (some (D.int (setI ns).length))) :=
  r_call1 (f := fun _ ns => some (D.int (setI ns).length)) (fun t => pe_callB (cq_lenS hw) hg hm (by decide +kernel) t (by decide) (by decide) rfl rfl) rfl (st_set hK hP hw hc hg2 hm2 hp ha) fun π H h d v d' Q W' r e fin => by
    cases e
    exact ⟨d, v, rfl, r, fin _ _ _ Keep.refl W' (.int _)⟩
def mSortS (m : St → AH → R (List D)) : St → AH → R (List D) := fun ρ h => (mSet m ρ h).bind fun ns h => if (setI ns).length < 64 then .ok ((setI ns).map D.int) h else .bad
theorem l_sortS (hK : X.K = x.K) (hP : X.prog = x.P) (hw : X.w = x.w) (hc : X.calm = true) (hg : Gl X "sorted") (hm : X.mg "sorted" = none) (hg2 : Gl X "set") (hm2 : X.mg "set" = none) (hp : plainE a = true) (ha : PE X a (tQ x W m)) :
    PE X (.Call (.Name "sorted" p) [.Call (.Name "set" p2) [a] [] p3] [] pos) (tL x W (mSortS m)) := by
  refine PE.imp (pe_callB (cr_sortedSet hc) hg hm (by decide +kernel) (pa_cons (st_set hK hP hw hc hg2 hm2 hp ha) pa_nil rfl) (by decide) (by decide) rfl rfl) fun σ H0 Q ⟨π, ρ, h, b, q⟩ => tF.fst b q fun π1 H1 h1 ns v b1 r1 k1 p1 => ?_
  obtain ⟨hl, a, S, rfl, ha, hS⟩ := r1
  split at p1
  · rename_i h64
    refine ⟨a, S, _, rfl, by rw [hw]; exact ha, h64, fun ms p h1 h2 h3 hn => ?_⟩
    have e : ms = setI ns := asc_unique h1 setI_lt fun k => (h2 k).trans ((hS k).trans setI_mem.symm)
    subst e
    have : ((setI ns).map D.int).length = ((setI ns).map V.int).length := by simp
    exact p1 π1 _ _ (Keep.upd hn) (b1.wd.upd hn) ⟨p, _, rfl, b1.wd.notin hn, upd_same, (ints_rvs _).keep (Keep.upd hn)⟩
  · exact p1.elim
end
end Rw
set_option Elab.async false
set_option linter.all false
set_option autoImplicit false
set_option maxRecDepth 100000
set_option maxHeartbeats 4000000
namespace Rw
open PySem PySem.Spec PyProof.Rows L2

/-! ## enumerate of a tuple -/
theorem meets_enumT (l : Addr) (items : Array Value) :
    Meets (Builtin.«enumerate.__new__» ⟨[.type "enumerate", .ref l], []⟩) (fun _ R s => s.heap.IsTuple l items ∧
      R (.ok (.ret (.ref (s.heap.push { cls := .type "tuple_iterator", data := .fields #[.ref l, .int 0 0] }).objs.size)))
        { s with heap := (s.heap.push { cls := .type "tuple_iterator", data := .fields #[.ref l, .int 0 0] }).push { cls := .type "enumerate", data := .fields #[.none, .bool false, .ref s.heap.objs.size, rawInt 0, .none, .none] } }) :=
  .of_wp fun prog w A R s h => by
    obtain ⟨hp, g, d, tk, os⟩ := s; obtain ⟨hT, h⟩ := h
    have hsub := sub_enumerate
    obtain ⟨o, ho, hc, n, hd⟩ := hT
    obtain ⟨oc, od, dt, sl⟩ := o
    replace hc : oc = .type "tuple" := hc
    replace hd : dt = .seq items n := hd
    subst hc hd
    have hL : Heap.IsTuple (Shared.heap ⟨hp, g, d, tk, os⟩) l items := ⟨_, ho, rfl, n, rfl⟩
    wp_walk using wpAny_loadPart' ho
    refine wpAny_stack_any fun st => wpAny_pure ?_
    split
    · rename_i c _ _ _ _ _
      cases (c == Value.type "enumerate")
      · wp_walk using wpAny_loadPart' ho, wpAny_pyIter_tuple hL
        exact ⟨_, rfl, h⟩
      · wp_walk using wpAny_loadPart' ho, wpAny_pyIter_tuple hL
        exact ⟨_, rfl, h⟩
    · wp_walk using wpAny_loadPart' ho, wpAny_pyIter_tuple hL
      exact ⟨_, rfl, h⟩
section
variable {prog : Program} {w : World} {A : Around} {E : Value → Shared → Prop} {s : Shared}
theorem call_enumT {l : Addr} {items : Array Value} {Q : Value → Shared → Prop} (hL : s.heap.IsTuple l items)
    (h : ∀ h', IsEnum h' (s.heap.objs.size + 1) s.heap.objs.size 0 .none → h'.IsTupleIter s.heap.objs.size l 0 → (∀ b o, s.heap.get? b = some o → h'.get? b = some o) → Q (.ref (s.heap.objs.size + 1)) { s with heap := h' }) :
    wpAny (model prog w) A (call (.type "enumerate") [.ref l]) Q E s := by
  refine callType_new F.called_enumerate (by decide) (F.typeCall_enumerate_1 _) (F.newCall_enumerate_1 _) (fun obj => F.args_object_init_2 obj _) F.entry_enumerate_new
    (meets_enumT l items) ⟨hL, ?_⟩
  have hz : (s.heap.push { cls := .type "tuple_iterator", data := .fields #[.ref l, .int 0 0] }).objs.size = s.heap.objs.size + 1 := Heap.size_push ..
  show _ ∧ _
  rw [hz]
  have he : IsEnum ((s.heap.push { cls := .type "tuple_iterator", data := .fields #[.ref l, .int 0 0] }).push
      { cls := .type "enumerate", data := .fields #[.none, .bool false, .ref s.heap.objs.size, rawInt 0, .none, .none] }) (s.heap.objs.size + 1) s.heap.objs.size 0 .none := by
    have := Heap.get?_push_size (s.heap.push { cls := .type "tuple_iterator", data := .fields #[.ref l, .int 0 0] })
      (o := { cls := .type "enumerate", data := .fields #[.none, .bool false, .ref s.heap.objs.size, rawInt 0, .none, .none] }) rfl
    rw [hz] at this; exact this
  exact ⟨⟨_, he, rfl⟩, h _ he ⟨_, Heap.get?_push_of_some _ (Heap.get?_push_size _ rfl), rfl, rfl⟩ fun b o x => Heap.get?_push_of_some _ (Heap.get?_push_of_some _ x)⟩
end
/-- the tuple at a as it stands at each turn, each item in a new pair -/
def IteT (K : PySem.W.Frag) (a : Addr) : It :=
  ⟨fun i H => ∃ (xs : List V) (x : V), SqT K H a xs ∧ xs[i]? = some x, fun i H v H' => ∃ T x, v = .ref T ∧ H T = none ∧ H' = upd H T (.tup [.int (i : Nat), x]) ∧ ∀ xs, SqT K H a xs → xs[i]? = some x, fun i H => ∃ xs : List V, SqT K H a xs ∧ xs.length = i⟩
theorem turn_enumT {P : Program} {w : World} {K : PySem.W.Frag} {elts : List Expr} {kk : Nat} {tpos : Pos} (a e it : Addr) :
    Turn P w K (.Tuple elts kk tpos) (IteT K a) [e, it] e (fun i h => (∃ old, IsEnum h e it ((i : Nat) : Int) old) ∧ h.IsTupleIter it a i ∧ e ≠ it) where
  mem := by simp
  obj := fun i h st b hb => by
    obtain ⟨⟨old, he⟩, ⟨o, ho, hc, hd⟩, _⟩ := st
    have e' : b = e ∨ b = it := by simpa using hb
    rcases e' with z | z
    · rw [z]; exact ⟨_, he, fun v q => nomatch q⟩
    · rw [z]; exact ⟨o, ho, fun v q => by rw [hd] at q; cases q⟩
  keep := fun i h h' st k => let ⟨⟨old, he⟩, hi, hne⟩ := st; ⟨⟨old, k e (by simp) _ he⟩, hi.at fun o q => k it (by simp) o q, hne⟩
  item := by
    intro X hP hw hK hc i pins s σ H E I hf st hg
    subst hP hw hK
    obtain ⟨⟨old, he⟩, hit, hne⟩ := st
    obtain ⟨xs, x, hq, hx⟩ := hg
    obtain ⟨its, rv, p, hz⟩ := I.tuple hq
    obtain ⟨u, hu, ru⟩ := rv.get hx
    have hel : e < s.heap.objs.size := Heap.lt_size he
    have hil : it < s.heap.objs.size := by obtain ⟨_, q, _⟩ := hit; exact Heap.lt_size q
    have hae : a ≠ e := fun z => by obtain ⟨o, ho, hc, _⟩ := p; rw [z, he] at ho; cases ho; exact absurd (Value.type.inj hc) (by decide)
    have hai : a ≠ it := fun z => by obtain ⟨o, ho, hc, _⟩ := p; obtain ⟨o2, ho2, hc2, _⟩ := hit; rw [z, ho2] at ho; cases ho; rw [hc2] at hc; exact absurd (Value.type.inj hc) (by decide)
    have hlt : i < its.toArray.size := by have := (List.getElem?_eq_some_iff.mp hu).1; simpa using this
    refine wpAny_pyNext_enum_itemD (PySem.Draws.tuple (A := X.A.in1) (show X.A.in1.handled = none from I.ok.hd hc) it a hai its.toArray) he ⟨hit, p⟩ hlt hne (by simp; exact ⟨hne, fun z => hae z.symm⟩) fun u' h' tk hu' ho hit' hT hsz hk => ?_
    obtain rfl : u' = u := by
      have : its.toArray[i]? = some u' := hu'
      rw [List.getElem?_toArray, hu] at this
      exact (Option.some.inj this).symm
    refine ⟨_, rfl, wpAny_letOwnedTupleGo_enum (s := { s with heap := h', toks := tk + 1 }) ho fun h'' he' sb => ?_⟩
    have hT2 : h''.get? s.heap.objs.size = some { cls := .type "tuple", data := .seq #[.int i tk, u'] } := (sb.2 _ (Nat.ne_of_gt hel)).trans hT
    have new : ObjOk X.prog X.w (upd H s.heap.objs.size (.tup [.int (i : Nat), x])) h'' s.heap.objs.size (.tup [.int (i : Nat), x]) :=
      ⟨by show 2 ≤ sizeLine; decide, [.int i tk, u'], .cons ⟨_, rfl⟩ (.cons ru .nil), ⟨_, hT2, rfl, _, rfl⟩⟩
    have I1 : Inv X pins σ (upd H s.heap.objs.size (.tup [.int (i : Nat), x])) { s with heap := h'', toks := tk + 1 } :=
      I.turnedNew (ch := [e, it]) (fun b ob hb q => (sb.2 b (fun z => hb (by simp [z]))).trans (hk b ob (fun z => hb (by simp [z])) (fun z => hb (by simp [z])) q)) hf (Nat.le_refl _) new
    refine ⟨.ref s.heap.objs.size, _, I1, rfl, ⟨_, x, rfl, I.hok.fresh (Nat.le_refl _), rfl, fun ys hy => by rw [I.tuple_inj hy hq]; exact hx⟩, ⟨⟨u', ?_⟩, hit'.1.at fun o q => (sb.2 it (Ne.symm hne)).trans q, hne⟩, fun b hb => ?_⟩
    · have e1 : ((i + 1 : Nat) : Int) = (i : Int) + 1 := by omega
      rw [e1]; exact he'
    · have hb' : b < s.heap.objs.size := by
        have e' : b = e ∨ b = it := by simpa using hb
        rcases e' with z | z
        · rw [z]; exact hel
        · rw [z]; exact hil
      rw [upd_ne (Nat.ne_of_lt hb')]
      exact (hf b hb).1
  done := by
    intro X hP hw hK hc i pins s σ H E I hf st hg
    subst hP hw hK
    obtain ⟨⟨old, he⟩, hit, hne⟩ := st
    obtain ⟨xs, hq, hx⟩ := hg
    obtain ⟨its, rv, p, hz⟩ := I.tuple hq
    obtain ⟨f0, f1, f2, f3, f4, f5⟩ := hf it (by simp)
    have hl := rv.length
    have hai : a ≠ it := fun z => by obtain ⟨o, ho, hc, _⟩ := p; obtain ⟨o2, ho2, hc2, _⟩ := hit; rw [z, ho2] at ho; cases ho; rw [hc2] at hc; exact absurd (Value.type.inj hc) (by decide)
    have e9 : i = its.toArray.size := by simp; omega
    exact wpAny_pyNext_enum_endD (PySem.Draws.tuple (A := X.A.in1) (show X.A.in1.handled = none from I.ok.hd hc) it a hai its.toArray) he ⟨by rw [← e9]; exact hit, p⟩ fun h' eb => ⟨rfl, I.turned (t' := s.toks) (fun b o hb q => eb b o hb q) f0 f1 f3 f4 f5⟩
  self := fun A i s Q E st h => let ⟨⟨_, he⟩, _⟩ := st; wpAny_pyIter_enum he h
def iEnumT (K : PySem.W.Frag) (ta : TE) : TI := fun σ H R => ta σ H fun v H1 => ∃ a xs, v = .ref a ∧ SqT K H1 a xs ∧ R (IteT K a) H1
theorem pi_enumT {X : Cx} {e : Expr} {ta : TE} {p pos tpos : Pos} {elts : List Expr} {kk : Nat} (hg : Gl X "enumerate") (hm : X.mg "enumerate" = none) (ha : PE X e ta) (hp : plainE e = true) :
    PI X (.Tuple elts kk tpos) (.Call (.Name "enumerate" p) [e] [] pos) (iEnumT X.K ta) := by
  refine ⟨fun pins s σ H R I h => ?_⟩
  have hs : starEach [e] X.env = (false, eval e X.env) :: starEach [] X.env := star_of hp
  refine Call_ (ld_blt I hg hm boot_enumerate (PyProof.Rows.callWith_type1 (PyProof.Rows.args_cons (thn (ha.run pins s σ H _ I h) fun u s1 ⟨v, H1, I1, r1, q1⟩ => PyProof.Rows.args_nil ?_) hs) hs rfl))
  obtain ⟨a, xs, rfl, hq, q⟩ := q1
  cases r1
  obtain ⟨its, rv, p', hz⟩ := I1.tuple hq
  refine call_enumT p' fun h' he hit hk => wpAny_pyIter_enum he ?_
  have I2 : Inv X pins σ H1 { s1 with heap := h' } := I1.kept (t' := s1.toks) hk
  refine ⟨s1.heap.objs.size + 1, [s1.heap.objs.size + 1, s1.heap.objs.size], _, _, H1, rfl, I2, turn_enumT a (s1.heap.objs.size + 1) s1.heap.objs.size, ⟨⟨.none, he⟩, hit, Nat.succ_ne_self _⟩, fun b hb => ?_, q⟩
  have e' : b = s1.heap.objs.size + 1 ∨ b = s1.heap.objs.size := by simpa using hb
  have hle : s1.heap.objs.size ≤ b := by
    rcases e' with z | z
    · rw [z]; exact Nat.le_add_right _ _
    · rw [z]; exact Nat.le_refl _
  exact I1.fpOk hle (I1.hok.fresh hle)
end Rw
set_option Elab.async false
set_option linter.all false
set_option autoImplicit false
set_option maxRecDepth 100000
set_option maxHeartbeats 4000000
namespace Rw
open PySem PySem.Spec PyProof.Rows L2

theorem enumD_get {k : Nat} : ∀ {xs : List D} {i : Nat}, (enumD k xs)[i]? = (xs[i]?).map fun x => D.tup [.int ((k + i : Nat) : Int), x]
  | [], i => by simp [enumD]
  | x :: xs, 0 => by simp [enumD]
  | x :: xs, i + 1 => by
    unfold enumD
    rw [List.getElem?_cons_succ, List.getElem?_cons_succ, enumD_get (k := k + 1) (xs := xs)]
    congr 1
    funext y
    rw [show k + 1 + i = k + (i + 1) by omega]
theorem enumD_len {k : Nat} : ∀ {xs : List D}, (enumD k xs).length = xs.length
  | [] => rfl
  | x :: xs => by simp [enumD, enumD_len (k := k + 1) (xs := xs)]
section
variable {x : Gx} {X : Cx} {W : L2.WX} {π0 : Nm} {H0 : Hp} {h0 : AH} {ds : List D} {a : Addr} {ws : List Nat} {pos p tpos : Pos}
theorem enum_yld {π : Nm} {H : Hp} {h : AH} {v : V} {H' : Hp} {i : Nat} {d : D} {vs : List V} (l : RVs x π H ds vs) (w : Wd x π h H) (e : (enumD 0 ds)[i]? = some d) (y : ∃ T u, v = .ref T ∧ H T = none ∧ H' = upd H T (.tup [.int (i : Nat), u]) ∧ vs[i]? = some u) :
    Keep π H π H' ∧ Wd x π h H' ∧ RV x π H' d v ∧ ∀ a u, H a = some u → H' a = some u := by
  obtain ⟨T, u, rfl, nT, rfl, eu⟩ := y
  rw [enumD_get, Option.map_eq_some_iff] at e
  obtain ⟨q, e3, rfl⟩ := e
  obtain ⟨u', e4, r⟩ := l.get e3
  rw [eu] at e4
  cases e4
  have kp : Keep π H π (upd H T (.tup [.int (i : Nat), u])) := Keep.upd nT
  refine ⟨kp, w.upd nT, .tup (.inl upd_same) (.cons ?_ (.cons (r.keep kp) .nil)), fun b z e => by rw [upd_ne (ne_of_none e nT)]; exact e⟩
  rw [Nat.zero_add]
  exact .int _
theorem it_enumT {K : PySem.W.Frag} {vs : List V} (t : TupAt K H0 a vs) (l : RVs x π0 H0 ds vs) : ItOk x (IteT K a) π0 H0 h0 (enumD 0 ds) [] := by
  refine ⟨fun i π H h hi k w s => ?_, fun π H h k w s => ?_, fun i d π H h v H' e k w s y => ?_⟩
  · rw [enumD_len] at hi
    obtain ⟨v, ev, _⟩ := l.get (List.getElem?_eq_getElem hi)
    exact ⟨vs, v, (t.keep k.tup).sq, ev⟩
  · exact ⟨vs, (t.keep k.tup).sq, by rw [enumD_len]; exact l.length.symm⟩
  · obtain ⟨T, u, e1, e2, e3, y⟩ := y
    exact enum_yld (l.keep k) w e ⟨T, u, e1, e2, e3, y vs (t.keep k.tup).sq⟩
theorem it_enumL {n : Nat} {lk : Bool} (K : PySem.W.Frag) (ea : π0.ns[n]? = some a) (eh : h0[n]? = some (.lst ds lk)) : ItOk x (Ite K a) π0 H0 h0 (enumD 0 ds) [n] := by
  have look : ∀ {π : Nm} {H : Hp} {h : AH}, Keep π0 H0 π H → Wd x π h H → sameH h0 [n] h = true → ∃ vs, RVs x π H ds vs ∧ SqL K H a vs := fun k w s => by
    have e := same1 s
    rw [eh] at e
    obtain ⟨vs, l, q⟩ := w.lst e (k.pre _ _ ea)
    exact ⟨vs, l, .inl q.rd⟩
  refine ⟨fun i π H h hi k w s => ?_, fun π H h k w s => ?_, fun i d π H h v H' e k w s y => ?_⟩
  · obtain ⟨vs, l, q⟩ := look k w s
    rw [enumD_len] at hi
    obtain ⟨v, ev, _⟩ := l.get (List.getElem?_eq_getElem hi)
    exact ⟨vs, v, q, ev⟩
  · obtain ⟨vs, l, q⟩ := look k w s
    exact ⟨vs, q, by rw [enumD_len]; exact Nat.le_of_eq l.length.symm⟩
  · obtain ⟨vs, l, q⟩ := look k w s
    obtain ⟨T, u, e1, e2, e3, y⟩ := y
    exact enum_yld l w e ⟨T, u, e1, e2, e3, y vs q⟩
def mEnum (ma : St → AH → R D) : St → AH → R (List D × List Nat) := fun ρ h => ((ma ρ h).bind fun d h => (R.opt h (seqD .q h d)).bind fun xs h => .ok (xs, refsOf d) h).bind fun xw h => .ok (enumD 0 xw.1, xw.2) h
variable {e : Expr} {ma : St → AH → R D} {elts : List Expr} {kk : Nat}
theorem i_enum (hK : X.K = x.K) (hg : Gl X "enumerate") (hm : X.mg "enumerate" = none) (hp : plainE e = true) (ha : PE X e (tE x W ma)) : PI X (.Tuple elts kk tpos) (.Call (.Name "enumerate" p) [e] [] pos) (tI x (NFx X) W (mEnum ma)) := by
  refine PI.of fun σ H Q ⟨π, ρ, h, b, p⟩ => ?_
  unfold mEnum at p
  cases e : ma ρ h with
  | ex c d h1 =>
    rw [e] at p
    exact ⟨_, pi_enumT hg hm ha hp, π, ρ, h, b, by rw [e]; exact p⟩
  | bad => rw [e] at p; exact p.elim
  | ok d h1 =>
    rw [e] at p
    replace p : PostI x (NFx X) W π H (((R.opt h1 (seqD .q h1 d)).bind fun xs h => .ok (xs, refsOf d) h).bind fun xw h => .ok (enumD 0 xw.1, xw.2) h) σ Q := p
    cases d with
    | tup xs =>
      replace p : PostI x (NFx X) W π H (.ok (enumD 0 xs, []) h1) σ Q := p
      refine ⟨_, pi_enumT hg hm ha hp, tF.done b e fun π1 H1 v b1 k1 r1 => ?_⟩
      obtain ⟨c, vs, rfl, t, l⟩ := rv_tup r1
      refine ⟨c, vs, rfl, by rw [hK]; exact t.sq, ?_⟩
      rw [hK]
      exact (p.keep k1).ok0 b1.wd (it_enumT t l)
    | ref n =>
      cases eo : h1[n]? with
      | none =>
        have : seqD .q h1 (.ref n) = none := by simp only [seqD, eo]
        rw [this] at p
        exact p.elim
      | some o =>
        cases o with
        | lst xs lk =>
          have e2 : seqD .q h1 (.ref n) = some xs := by simp [seqD, eo]
          rw [e2] at p
          replace p : PostI x (NFx X) W π H (.ok (enumD 0 xs, [n]) h1) σ Q := p
          refine ⟨_, pi_enum hg hm (pa_cons ha pa_nil (star_of hp)) (star_of hp), tF.done b e fun π1 H1 v b1 k1 r1 => ?_⟩
          obtain ⟨c, rfl, ec⟩ := rv_ref r1
          obtain ⟨vs, l, q⟩ := b1.wd.lst eo ec
          refine ⟨c, vs, rfl, .inl q.rd, ?_⟩
          exact (p.keep k1) π1 H1 H1 _ Keep.refl.toX b1.wd (.inl ⟨lockH_lst eo, rfl⟩) (by rw [lock_none (lockH_lst eo)]; exact it_enumL X.K ec eo)
        | dct kvs lk =>
          have e2 : seqD .q h1 (.ref n) = none := by simp [seqD, eo]
          rw [e2] at p
          exact p.elim
    | _ => exact p.elim
end
end Rw
set_option Elab.async false
set_option linter.all false
set_option autoImplicit false
set_option maxRecDepth 100000
set_option maxHeartbeats 4000000
namespace Rw
open PySem PySem.Spec PyProof.Rows L2

/-! ## the text against the core -/
structure Loc where
  N : List Str
  sc : Scope
  fn : Str → Bool
  defs : List Str
  globs : List Str
def blts : List Str := ["len", "int", "bool", "abs", "min", "max", "any", "all", "sum", "tuple", "list", "range", "sorted", "isinstance", "enumerate", "zip", "set", "dict", "str", "repr"]
def visB (L : Loc) (y : Str) : Bool := match L.sc.names.lookup y with
  | some .local => true
  | some .cell => true
  | some .free => true
  | _ => false
def glB (L : Loc) (y : Str) : Bool := decide (L.sc.names.lookup y = some .globalImplicit)
def plcB (L : Loc) (i : Nat) (y : Str) : Bool := decide (L.N[i]? = some y) && match L.sc.names.lookup y with
  | some .local => true
  | some .cell => L.fn y
  | _ => false
def notCall : Expr → Bool
  | .Call _ _ _ _ => false
  | _ => true
def notSet : Expr → Bool
  | .Set _ _ _ => false
  | _ => true
def plainT : Expr → Bool
  | .UnaryOp .Not _ _ => false
  | .BoolOp _ _ _ => false
  | .IfExp _ _ _ _ => false
  | .Compare _ _ _ _ => false
  | _ => true
def isNm (nm : Str) : Expr → Bool
  | .Name y _ => decide (y = nm)
  | _ => false
def bltB (L : Loc) (nm : Str) (f : Expr) : Bool := isNm nm f && glB L nm
def nmsB (L : Loc) : List Nat → List Expr → Bool
  | [], [] => true
  | i :: is, .Name y _ :: es => plcB L i y && nmsB L is es
  | _, _ => false
def tgB (L : Loc) : Tg → Expr → Bool
  | .nm i, .Name y _ => plcB L i y
  | .tp is, .Tuple es _ _ => nmsB L is es
  | _, _ => false
def ownN (L : Loc) (own : List Nat) : List (Str × Nat) := own.map fun i => ((L.N[i]?).getD ⟨#[]⟩, i)
def Loc.blk (L : Loc) (scope : Scope) : Loc := { L with sc := relS scope L.sc, fn := fun y => scope.names.lookup y == some .cell }
def isNon : CE → Bool
  | .cst .non => true
  | _ => false
def tyS : ITy → Str
  | .int => "int"
  | .str => "str"
  | .bool => "bool"
  | .tuple => "tuple"
  | .list => "list"
  | .dict => "dict"
def cstB (L : Loc) : D → Expr → Bool
  | .non, .Constant .none _ _ => true
  | .bl b, .Constant (.bool c) _ _ => b == c
  | .int i, .Constant (.int j) _ _ => decide (i = j)
  | .str z, .Constant (.str y) _ _ => decide (z = y)
  | .fn n, .Name y _ => decide (L.defs[n]? = some y) && glB L y && !(y == ("__debug__" : Str))
  | _, _ => false
mutual
def chkE : CE → Loc → Expr → Bool
  | .var i, L, e => match e with
    | .Name y _ => decide (L.N[i]? = some y) && visB L y && !(y == ("__debug__" : Str)) && !(y == ("__classdict__" : Str))
    | _ => false
  | .cst d, L, e => cstB L d e
  | .glb i, L, e => match e with
    | .Name y _ => decide (L.globs[i]? = some y) && glB L y && !(y == ("__debug__" : Str))
    | _ => false
  | .bin op a b, L, e => match e with
    | .BinOp a' op' b' _ => decide (op = op') && chkE a L a' && chkE b L b'
    | _ => false
  | .neg a, L, e => match e with
    | .UnaryOp .USub a' _ => chkE a L a'
    | _ => false
  | .not a, L, e => match e with
    | .UnaryOp .Not a' _ => chkE a L a'
    | _ => false
  | .and a b, L, e => match e with
    | .BoolOp .And [a', b'] _ => chkE a L a' && chkE b L b'
    | .BoolOp .And (a' :: b' :: c' :: r) pos => chkE a L a' && chkE b L (.BoolOp .And (b' :: c' :: r) pos)
    | _ => false
  | .or a b, L, e => match e with
    | .BoolOp .Or [a', b'] _ => chkE a L a' && chkE b L b'
    | .BoolOp .Or (a' :: b' :: c' :: r) pos => chkE a L a' && chkE b L (.BoolOp .Or (b' :: c' :: r) pos)
    | _ => false
  | .cmp op a b, L, e => match e with
    | .Compare a' [op'] [b'] _ => decide (op = op') && chkE a L a' && chkE b L b' && !behindInMarks op b'
    | _ => false
  | .cmpL op a l, L, e => match e with
    | .Compare a' [op'] [b'] _ => decide (op = op') && chkE a L a' && chkL l L b' && !behindInMarks op b'
    | _ => false
  | .chn o1 o2 a b c, L, e => match e with
    | .Compare a' [p1, p2] [b', c'] _ => decide (o1 = p1) && decide (o2 = p2) && chkE a L a' && chkE b L b' && chkE c L c' && !behindInMarks o1 b' && !behindInMarks o2 c'
    | _ => false
  | .ite c a b, L, e => match e with
    | .IfExp c' a' b' _ => chkE c L c' && chkE a L a' && chkE b L b'
    | _ => false
  | .tup es, L, e => match e with
    | .Tuple es' _ _ => chkEs es L es'
    | _ => false
  | .new l, L, e => chkL l L e && plainT e
  | .ix a i, L, e => match e with
    | .Subscript a' i' _ => chkE a L a' && chkE i L i' && plainI i'
    | _ => false
  | .slc a lo hi, L, e => match e with
    | .Subscript a' (.Slice lo' hi' none _) _ => chkE a L a' && (match lo' with | none => isNon lo | some lo' => chkE lo L lo') && (match hi' with | none => isNon hi | some hi' => chkE hi L hi')
    | _ => false
  | .call f es, L, e => match e with
    | .Call (.Name y _) es' [] _ => decide (L.defs[f]? = some y) && glB L y && !(y == ("__debug__" : Str)) && chkEs es L es' && es'.all plainE
    | _ => false
  | .b1 f a, L, e => match e with
    | .Call g [a'] [] _ => (match f with | .int => bltB L "int" g | .abs => bltB L "abs" g | .bool => bltB L "bool" g | _ => false) && plainE a' && chkE a L a'
    | _ => false
  | .b2 f a b, L, e => match e with
    | .Call g [a', b'] [] _ => (match f with | .min => bltB L "min" g | .max => bltB L "max" g) && plainE a' && plainE b' && chkE a L a' && chkE b L b'
    | _ => false
  | .bq f q, L, e => match e with
    | .Call g [a'] [] _ => (match f with | .all => bltB L "all" g | .any => bltB L "any" g | .sum => bltB L "sum" g | .len => bltB L "len" g | .tuple => bltB L "tuple" g | .min => bltB L "min" g | .max => bltB L "max" g) && plainE a' && chkQ q L a'
    | _ => false
  | .isi a t, L, e => match e with
    | .Call g [a', .Name ty _] [] _ => bltB L "isinstance" g && decide (ty = tyS t) && glB L ty && plainE a' && chkE a L a'
    | _ => false
  | .append o a, L, e => match e with
    | .Call (.Attribute o' m ap) [a'] [] pos => decide (m = ("append" : Str)) && notCall o' && (ap.endLine == pos.line) && plainE a' && chkE o L o' && chkE a L a'
    | _ => false
  | .extend o q, L, e => match e with
    | .Call (.Attribute o' m ap) [a'] [] pos => decide (m = ("extend" : Str)) && notCall o' && (ap.endLine == pos.line) && plainE a' && chkE o L o' && chkQ q L a'
    | _ => false
  | .pop o, L, e => match e with
    | .Call (.Attribute o' m ap) [] [] pos => decide (m = ("pop" : Str)) && notCall o' && (ap.endLine == pos.line) && chkE o L o'
    | _ => false
  | .newd d, L, e => chkD d L e && plainT e
  | .lenS q, L, e => match e with
    | .Call g [.Call g2 [a'] [] _] [] _ => bltB L "len" g && bltB L "set" g2 && plainE a' && chkQ q L a'
    | _ => false
  | .update _ _, _, _ => false
  | .dget _ _, _, _ => false
  | .dget2 _ _ _, _, _ => false
  | .never, _, _ => true
def chkEs : CEs → Loc → List Expr → Bool
  | .nil, _, es => es.isEmpty
  | .cons c cs, L, es => match es with
    | e :: es => plainE e && chkE c L e && chkEs cs L es
    | [] => false
  | .star q cs, L, es => match es with
    | .Starred e _ :: es => chkQ q L e && chkEs cs L es
    | _ => false
/-- one test, or none -/
def chkIf : CEs → Loc → List Expr → Bool
  | .nil, _, es => es.isEmpty
  | .cons c .nil, L, es => match es with
    | [e] => chkE c L e
    | _ => false
  | _, _, _ => false
def chkL : CL → Loc → Expr → Bool
  | .disp es, L, e => match e with
    | .List es' _ => chkEs es L es'
    | _ => false
  | .comp elt tg it ifs own, L, e => match e with
    | .ListComp elt' [⟨tg', it', ifs', 0⟩] scope _ => chkI it L tg' it' && notSet it' && blkC L.N L.sc scope (ownN L own) && tgIn own tg && tgB (L.blk scope) tg tg' && chkIf ifs (L.blk scope) ifs' && chkE elt (L.blk scope) elt'
    | _ => false
  | .comp2 _ _ _ _ _ _ _ _ _, _, _ => false
  | .sorted q, L, e => match e with
    | .Call g [a'] [] _ => bltB L "sorted" g && plainE a' && chkQ q L a'
    | _ => false
  | .sortedS q, L, e => match e with
    | .Call g [.Call g2 [a'] [] _] [] _ => bltB L "sorted" g && bltB L "set" g2 && plainE a' && chkQ q L a'
    | _ => false
  | .list q, L, e => match e with
    | .Call g [a'] [] _ => bltB L "list" g && plainE a' && chkQ q L a'
    | _ => false
  | .catE a b, L, e => match e with
    | .BinOp a' .Add b' _ => chkE a L a' && chkQ b L b'
    | _ => false
  | .catL a b, L, e => match e with
    | .BinOp a' .Add b' _ => chkL a L a' && chkQ b L b'
    | _ => false
  | .rep a n, L, e => match e with
    | .BinOp a' .Mult n' _ => chkL a L a' && chkE n L n'
    | _ => false
  | .slc a lo hi, L, e => match e with
    | .Subscript a' (.Slice lo' hi' none _) _ => chkE a L a' && (match lo' with | none => isNon lo | some lo' => chkE lo L lo') && (match hi' with | none => isNon hi | some hi' => chkE hi L hi')
    | _ => false
  | .ite c a b, L, e => match e with
    | .IfExp c' a' b' _ => chkE c L c' && chkL a L a' && chkL b L b'
    | _ => false
  | .range (.rng1 a), L, e => match e with
    | .Call g [.Call g2 [a'] [] _] [] _ => bltB L "list" g && bltB L "range" g2 && plainE a' && chkE a L a'
    | _ => false
  | .range _, _, _ => false
def chkD : CD → Loc → Expr → Bool
  | .disp kvs, L, e => match e with
    | .Dict ks vs _ => (match ks with | [] => (match kvs, vs with | .nil, [] => true | _, _ => false) | _ => chkPs kvs L ks vs) && decide (ks.length ≤ 15) && decide (ks.length = vs.length) && ks.all (·.isSome)
    | _ => false
  | .comp k v tg it ifs own, L, e => match e with
    | .DictComp k' v' [⟨tg', it', ifs', 0⟩] scope _ => chkI it L tg' it' && notSet it' && blkC L.N L.sc scope (ownN L own) && tgIn own tg && tgB (L.blk scope) tg tg' && chkIf ifs (L.blk scope) ifs' && chkE k (L.blk scope) k' && chkE v (L.blk scope) v'
    | _ => false
def chkPs : CPs → Loc → List (Option Expr) → List Expr → Bool
  | .nil, _, ks, vs => ks.isEmpty && vs.isEmpty
  | .cons k v r, L, ks, vs => match ks, vs with
    | some k' :: ks, v' :: vs => chkE k L k' && chkE v L v' && chkPs r L ks vs
    | _, _ => false
def chkQ : CQ → Loc → Expr → Bool
  | .e a, L, e => chkE a L e
  | .l a, L, e => chkL a L e
  | .d a, L, e => chkD a L e
  | .s _, _, _ => false
def chkI : CI → Loc → Expr → Expr → Bool
  | .q (.e a), L, _, e => chkE a L e
  | .q (.l a), L, _, e => chkL a L e
  | .q _, _, _, _ => false
  | .rng1 a, L, _, e => match e with
    | .Call g [a'] [] _ => bltB L "range" g && plainE a' && chkE a L a'
    | _ => false
  | .rng2 a b, L, _, e => match e with
    | .Call g [a', b'] [] _ => bltB L "range" g && plainE a' && plainE b' && chkE a L a' && chkE b L b'
    | _ => false
  | .rng3 a b c, L, _, e => match e with
    | .Call g [a', b', c'] [] _ => bltB L "range" g && plainE a' && plainE b' && plainE c' && chkE a L a' && chkE b L b' && chkE c L c'
    | _ => false
  | .enum (.e a), L, tg, e => match tg, e with
    | .Tuple _ _ _, .Call g [a'] [] _ => bltB L "enumerate" g && plainE a' && chkE a L a'
    | _, _ => false
  | .enum _, _, _, _ => false
  | .zip _ _, _, _, _ => false
  | .items a, L, tg, e => match tg, e with
    | .Tuple _ _ _, .Call (.Attribute o m ap) [] [] pos => decide (m = ("items" : Str)) && notCall o && (ap.endLine == pos.line) && chkE a L o
    | _, _ => false
  | .values a, L, _, e => match e with
    | .Call (.Attribute o m ap) [] [] pos => decide (m = ("values" : Str)) && notCall o && (ap.endLine == pos.line) && chkE a L o
    | _ => false
end
end Rw
set_option Elab.async false
set_option linter.all false
set_option autoImplicit false
set_option maxRecDepth 100000
set_option maxHeartbeats 4000000
namespace Rw
open PySem PySem.Spec PyProof.Rows L2

/-! ## what a frame knows -/
structure Cxt (x : Gx) (G : GE) (cl : Nat → List D → AH → R D) (L : Loc) (X : Cx) (W : L2.WX) (k : Nat) : Prop where
  N : X.N = L.N
  sc : X.env.scope = L.sc
  kind : X.env.scope.kind = .function
  nd : X.N.Nodup
  fn : ∀ y, L.fn y = true → X.fn y = true
  K : X.K = x.K
  P : X.prog = x.P
  w : X.w = x.w
  calm : X.calm = true
  u : X.A.units + 100 < cLine
  room : Room k X.A
  tk : Takes X W
  bl : ∀ nm ∈ blts, X.mg nm = none
  defs : ∀ (i : Nat) (nm : Str), L.defs[i]? = some nm → ∃ (np : Nat) (fd : FuncData) (ps : List Str), FnOk X.prog X.w X.K X.mg X.base (L2.CX X.prog X.w) k (x.fa i) fd ps (spD x np (cl i)) ∧ X.mg nm = some (.ref (x.fa i)) ∧ PySem.W.keepIn X.K (.ref (x.fa i)) = true ∧ Binds X.K fd ps [] ∧
    ∀ ds h, cl i ds h ≠ .bad → ds.length = np
  globs : ∀ (i : Nat) (nm : Str), L.globs[i]? = some nm → ∃ d v u, G.globs[i]? = some d ∧ X.mg nm = some u ∧ RelV v u ∧ ∀ π H, RV x π H d v
section
variable {x : Gx} {G : GE} {cl : Nat → List D → AH → R D} {L : Loc} {X : Cx} {W : L2.WX} {k : Nat}
theorem Cxt.gl (C : Cxt x G cl L X W k) {y : Str} (h : glB L y = true) : Gl X y := by
  unfold glB at h
  have := of_decide_eq_true h
  show X.env.scope.names.lookup y = _
  rw [C.sc]; exact this
theorem Cxt.vis (C : Cxt x G cl L X W k) {y : Str} (h : visB L y = true) : Vis X.env.scope y := by
  unfold visB at h
  unfold Vis
  rw [C.sc]
  split at h
  · rename_i e; exact .inl e
  · rename_i e; exact .inr (.inl e)
  · rename_i e; exact .inr (.inr e)
  · cases h
theorem Cxt.plc (C : Cxt x G cl L X W k) {i : Nat} {y : Str} (h : plcB L i y = true) : Plc X i y := by
  unfold plcB at h
  simp only [Bool.and_eq_true, decide_eq_true_eq] at h
  obtain ⟨h1, h2⟩ := h
  unfold Plc L2.Loc
  rw [C.N, C.sc]
  refine ⟨h1, ?_⟩
  split at h2
  · rename_i e; exact ⟨.inl e, .inr e⟩
  · rename_i e; exact ⟨.inr e, .inl (C.fn y h2)⟩
  · cases h2
theorem Cxt.nms (C : Cxt x G cl L X W k) : ∀ {is : List Nat} {es : List Expr}, nmsB L is es = true → Names X es is
  | [], [], _ => .nil
  | i :: is, .Name y p :: es, h => by
    unfold nmsB at h
    simp only [Bool.and_eq_true] at h
    exact .cons (C.plc h.1) (C.nms h.2)
theorem Cxt.tg (C : Cxt x G cl L X W k) {t : Tg} {e : Expr} (h : tgB L t e = true) : PG X e (tG x t) := by
  cases t with
  | nm i =>
    cases e with
    | Name y p => exact g_name C.nd (C.plc h)
    | _ => cases h
  | tp is =>
    cases e with
    | Tuple es kk p => exact g_tup C.K C.calm C.nd (C.nms h)
    | _ => cases h
theorem Cxt.blt (C : Cxt x G cl L X W k) {nm : Str} {g : Expr} (h : bltB L nm g = true) (hm : nm ∈ blts) : (∃ p, g = .Name nm p) ∧ Gl X nm ∧ X.mg nm = none := by
  unfold bltB at h
  simp only [Bool.and_eq_true] at h
  cases g with
  | Name y p =>
    have := of_decide_eq_true (show decide (y = nm) = true from h.1)
    subst this
    exact ⟨⟨p, rfl⟩, C.gl h.2, C.bl _ hm⟩
  | _ => cases h.1
theorem ownN_snd (L : Loc) (own : List Nat) : (ownN L own).map (·.2) = own := by
  unfold ownN
  rw [List.map_map]
  exact List.map_id own
/-- inside a comprehension -/
theorem Cxt.blk (C : Cxt x G cl L X W k) {scope : Scope} {own : List (Str × Nat)} (ok : BlkOk X.N X.env.scope scope own) (s : Shared) (H : Hp) (Ca : Addr) (cs : List (Str × Addr)) (fp : List Addr) :
    Cxt x G cl (L.blk scope) (X.blk s H scope (compEnvC scope cs Ca X.env) fp) WF k where
  N := C.N
  sc := by
    show relabel scope X.env = relS scope L.sc
    rw [← C.sc]
    rfl
  kind := ok.kind
  nd := C.nd
  fn := fun y h => h
  K := C.K
  P := C.P
  w := C.w
  calm := C.calm
  u := C.u
  room := C.room
  tk := fun u s' ⟨_, _, _, _, _, _, _, _, _, _, _, _, _, _, _, _, w⟩ => w.elim
  bl := C.bl
  defs := C.defs
  globs := C.globs
theorem Cxt.blkOk (C : Cxt x G cl L X W k) {scope : Scope} {own : List (Str × Nat)} (h : blkC L.N L.sc scope own = true) : BlkOk X.N X.env.scope scope own := by
  rw [C.N, C.sc]
  exact blkOk_by h
end
end Rw
set_option Elab.async false
set_option linter.all false
set_option autoImplicit false
set_option maxRecDepth 100000
set_option maxHeartbeats 4000000
namespace Rw
open PySem PySem.Spec PyProof.Rows L2

/-! ## soundness -/
structure SndE (x : Gx) (X : Cx) (W : L2.WX) (m : St → AH → R D) (e : Expr) : Prop where
  v : PE X e (tE x W m)
  t : PT X e (tT x W m)
  w : ∀ op es pos, e = .BoolOp op es pos → PW X e (tT x W m)
structure SndQ (x : Gx) (G : GE) (cl : Nat → List D → AH → R D) (X : Cx) (W : L2.WX) (q : CQ) (e : Expr) : Prop where
  rq : PE X e (tQ x W (evQ G cl .q q))
  rk : PE X e (tK x W (evQ G cl .k q))
  rm : PE X e (tM x W (evQ G cl .l q))
theorem isTrue_of {e : Expr} {env : Env} (h : plainT e = true) : ∀ whole, isTrue e env whole = (do let v ← whole; standAt e.pos; holding [v] (truthy v)) := by
  intro whole
  cases e with
  | UnaryOp op a p => cases op <;> first | rfl | cases h
  | _ => first | rfl | cases h
section
variable {x : Gx} {G : GE} {cl : Nat → List D → AH → R D} {L : Loc} {X : Cx} {W : L2.WX} {k : Nat} {m : St → AH → R D} {e : Expr}
theorem SndE.of (h : PE X e (tE x W m)) (p : plainT e = true) : SndE x X W m e := ⟨h, t_val h (isTrue_of p), fun op es pos q => by subst q; cases p⟩
theorem nb {b : Bool} (h : (!b) = true) : b = false := by simpa using h
theorem PE.bad {α : Type} {F : Nm → Hp → α → V → Prop} {m : St → AH → R α} (h : ∀ ρ h, m ρ h = .bad) : PE X e (tF x F W m) := ⟨fun pins s σ H Q I ⟨π, ρ, h0, b, p⟩ => by rw [h] at p; exact p.elim⟩
theorem s_var (C : Cxt x G cl L X W k) {i : Nat} (h : chkE (.var i) L e = true) : SndE x X W (evE G cl (.var i)) e := by
  cases e with
  | Name y p =>
    simp only [chkE, Bool.and_eq_true, decide_eq_true_eq] at h
    obtain ⟨⟨⟨h1, h2⟩, h3⟩, h4⟩ := h
    exact .of (r_var (by rw [C.N]; exact h1) (C.vis h2) (nb h3) (nb h4)) rfl
  | _ => simp [chkE] at h
theorem s_cst (C : Cxt x G cl L X W k) {d : D} (h : chkE (.cst d) L e = true) : SndE x X W (evE G cl (.cst d)) e := by
  simp only [chkE] at h
  unfold cstB at h
  split at h
  · exact .of (r_con pe_non fun _ _ => .non) rfl
  · simp only [beq_iff_eq] at h
    subst h
    exact .of (r_con pe_bl fun _ _ => .bl _) rfl
  · simp only [decide_eq_true_eq] at h
    subst h
    exact .of (r_con pe_int fun _ _ => .int _) rfl
  · simp only [decide_eq_true_eq] at h
    subst h
    exact .of (r_con pe_str fun _ _ => .str _) rfl
  · simp only [Bool.and_eq_true, decide_eq_true_eq] at h
    obtain ⟨⟨h1, h2⟩, h3⟩ := h
    obtain ⟨np, fd, ps, _, hm, _⟩ := C.defs _ _ h1
    exact .of (r_con (pe_glob (C.gl h2) hm (show RelV (.ref (x.fa _)) (.ref (x.fa _)) from rfl) (nb h3)) fun _ _ => .fn _) rfl
  · cases h
theorem s_glb (C : Cxt x G cl L X W k) {i : Nat} (h : chkE (.glb i) L e = true) : SndE x X W (evE G cl (.glb i)) e := by
  cases e with
  | Name y p =>
    simp only [chkE, Bool.and_eq_true, decide_eq_true_eq] at h
    obtain ⟨⟨h1, h2⟩, h3⟩ := h
    obtain ⟨d, v, u, hd, hm, r, rv⟩ := C.globs _ _ h1
    have : evE G cl (.glb i) = fun _ h => .ok d h := by
      funext ρ h
      show R.opt h (G.globs[i]?) = _
      rw [hd]; rfl
    rw [this]
    exact .of (r_con (pe_glob (C.gl h2) hm r (nb h3)) rv) rfl
  | _ => simp [chkE] at h
theorem isNon_of {c : CE} (h : isNon c = true) : c = .cst .non := by
  unfold isNon at h
  split at h
  · rfl
  · cases h
theorem s_and {a b : CE} {a' : Expr} {es : List Expr} {pos : Pos} (ha : SndE x X W (evE G cl a) a') (hb : PE X (.BoolOp .And es pos) (tE x W (evE G cl b)) ∧ PW X (.BoolOp .And es pos) (tT x W (evE G cl b))) (hne : es ≠ []) :
    SndE x X W (evE G cl (.and a b)) (.BoolOp .And (a' :: es) pos) := by
  cases es with
  | nil => exact absurd rfl hne
  | cons b' r =>
    have hw : PW X (.BoolOp .And (a' :: b' :: r) pos) (tT x W (evE G cl (.and a b))) := w_and ha.t hb.2
    exact ⟨r_and ha.v hb.1, hw.pt, fun op es p q => by cases q; exact hw⟩
theorem s_or {a b : CE} {a' : Expr} {es : List Expr} {pos : Pos} (ha : SndE x X W (evE G cl a) a') (hb : PE X (.BoolOp .Or es pos) (tE x W (evE G cl b)) ∧ PW X (.BoolOp .Or es pos) (tT x W (evE G cl b))) (hne : es ≠ []) :
    SndE x X W (evE G cl (.or a b)) (.BoolOp .Or (a' :: es) pos) := by
  cases es with
  | nil => exact absurd rfl hne
  | cons b' r =>
    have hw : PW X (.BoolOp .Or (a' :: b' :: r) pos) (tT x W (evE G cl (.or a b))) := w_or ha.t hb.2
    exact ⟨r_or ha.v hb.1, hw.pt, fun op es p q => by cases q; exact hw⟩
theorem s_part {c : CE} {o : Option Expr} (h : match o with | none => isNon c = true | some e => PE X e (tE x W (evE G cl c))) : PO X o (tP x W (mP (evE G cl c))) := by
  cases o with
  | none =>
    have := isNon_of h
    subst this
    exact p_none
  | some e => exact p_some h
theorem r_lenKQ {q : CQ} {a : Expr} {g : Expr} {pos : Pos} (C : Cxt x G cl L X W k) (hb : bltB L "len" g = true) (hp : plainE a = true) (hq : SndQ x G cl X W q a) : PE X (.Call g [a] [] pos) (tE x W (evE G cl (.bq .len q))) := by
  obtain ⟨⟨p, rfl⟩, h1, h2⟩ := C.blt hb (by decide)
  exact r_lenK C.K C.P C.w h1 h2 hp hq.rk
theorem s_bq {f : BQ} {q : CQ} {a : Expr} {g : Expr} {pos : Pos} (C : Cxt x G cl L X W k) (hb : (match f with | .all => bltB L "all" g | .any => bltB L "any" g | .sum => bltB L "sum" g | .len => bltB L "len" g | .tuple => bltB L "tuple" g | .min => bltB L "min" g | .max => bltB L "max" g) = true) (hp : plainE a = true) (hq : SndQ x G cl X W q a) : PE X (.Call g [a] [] pos) (tE x W (evE G cl (.bq f q))) := by
  cases f with
  | all => obtain ⟨⟨p, rfl⟩, h1, h2⟩ := C.blt hb (by decide); exact r_all C.K C.calm h1 h2 hp hq.rq
  | any => obtain ⟨⟨p, rfl⟩, h1, h2⟩ := C.blt hb (by decide); exact r_any C.K C.calm h1 h2 hp hq.rq
  | sum => obtain ⟨⟨p, rfl⟩, h1, h2⟩ := C.blt hb (by decide); exact r_sum C.K C.calm h1 h2 hp hq.rq
  | len => exact r_lenKQ C hb hp hq
  | tuple => obtain ⟨⟨p, rfl⟩, h1, h2⟩ := C.blt hb (by decide); exact r_tupleQ C.K h1 h2 hp hq.rq
  | min => obtain ⟨⟨p, rfl⟩, h1, h2⟩ := C.blt hb (by decide); exact r_minQ C.K C.calm C.u h1 h2 hp hq.rq
  | max => obtain ⟨⟨p, rfl⟩, h1, h2⟩ := C.blt hb (by decide); exact r_maxQ C.K C.calm C.u h1 h2 hp hq.rq
theorem s_b1 {f : B1} {a : CE} {a' g : Expr} {pos : Pos} (C : Cxt x G cl L X W k) (hb : (match f with | .int => bltB L "int" g | .abs => bltB L "abs" g | .bool => bltB L "bool" g | _ => false) = true) (hp : plainE a' = true) (ha : PE X a' (tE x W (evE G cl a))) : PE X (.Call g [a'] [] pos) (tE x W (evE G cl (.b1 f a))) := by
  cases f with
  | int => obtain ⟨⟨p, rfl⟩, h1, h2⟩ := C.blt hb (by decide); exact r_int h1 h2 hp ha
  | abs => obtain ⟨⟨p, rfl⟩, h1, h2⟩ := C.blt hb (by decide); exact r_abs h1 h2 hp ha
  | bool => obtain ⟨⟨p, rfl⟩, h1, h2⟩ := C.blt hb (by decide); exact r_bool h1 h2 hp ha
  | str => cases hb
  | repr => cases hb
theorem s_b2 {f : B2} {a b : CE} {a' b' g : Expr} {pos : Pos} (C : Cxt x G cl L X W k) (hb : (match f with | .min => bltB L "min" g | .max => bltB L "max" g) = true) (hp : plainE a' = true) (hp2 : plainE b' = true) (ha : PE X a' (tE x W (evE G cl a))) (hb2 : PE X b' (tE x W (evE G cl b))) : PE X (.Call g [a', b'] [] pos) (tE x W (evE G cl (.b2 f a b))) := by
  cases f with
  | min => obtain ⟨⟨p, rfl⟩, h1, h2⟩ := C.blt hb (by decide); exact r_min2 C.calm h1 h2 hp hp2 ha hb2
  | max => obtain ⟨⟨p, rfl⟩, h1, h2⟩ := C.blt hb (by decide); exact r_max2 C.calm h1 h2 hp hp2 ha hb2
theorem boot_ty (t : ITy) : bootBuiltins (tyS t) = some (.type (tyN t)) := by cases t <;> decide +kernel
theorem ty_ne (t : ITy) : tyS t ≠ "__name__" ∧ (tyS t == ("__debug__" : Str)) = false ∧ tyS t ∈ blts := by cases t <;> exact ⟨by decide, by decide, by decide⟩
theorem s_isi {t : ITy} {a : CE} {a' g : Expr} {pos p2 : Pos} (C : Cxt x G cl L X W k) (hb : bltB L "isinstance" g = true) (hg : glB L (tyS t) = true) (hp : plainE a' = true) (ha : PE X a' (tE x W (evE G cl a))) : PE X (.Call g [a', .Name (tyS t) p2] [] pos) (tE x W (evE G cl (.isi a t))) := by
  obtain ⟨⟨p, rfl⟩, h1, h2⟩ := C.blt hb (by decide)
  obtain ⟨n1, n2, n3⟩ := ty_ne t
  exact r_isi C.K C.P C.w h1 h2 (C.gl hg) (C.bl _ n3) (boot_ty t) n1 n2 hp ha
theorem nc_of {o : Expr} : notCall o = true → (match o with | .Call _ _ _ _ => false | _ => true) = true := by intro h; cases o <;> first | rfl | cases h
theorem ns_of {it : Expr} {env : Env} (h : notSet it = true) : ∀ v, foldedSetIterable it env v = pure v := by intro v; cases it <;> first | rfl | cases h
theorem s_call {f : Nat} {es : CEs} {y : Str} {p pos : Pos} {es' : List Expr} (C : Cxt x G cl L X W k) (hd : L.defs[f]? = some y) (hg : glB L y = true) (hdb : (y == ("__debug__" : Str)) = false) (hpl : es'.all plainE = true) (ha : PA X es' (tAs x W (evEs G cl es))) (hne : es' = [] → es = .nil) :
    PE X (.Call (.Name y p) es' [] pos) (tE x W (evE G cl (.call f es))) := by
  obtain ⟨np, fd, ps, F, hm, hk, hb, hnp⟩ := C.defs _ _ hd
  cases es' with
  | nil =>
    have := hne rfl
    subst this
    exact r_call0 C.P C.w F C.room (C.gl hg) hm hk hb C.tk hnp hdb
  | cons e r => exact r_call C.P C.w F C.room (C.gl hg) hm hk hb C.tk hnp hdb hpl ha
end
end Rw
set_option Elab.async false
set_option linter.all false
set_option autoImplicit false
set_option maxRecDepth 100000
set_option maxHeartbeats 4000000
namespace Rw
open PySem PySem.Spec PyProof.Rows L2

section
variable {x : Gx} {G : GE} {cl : Nat → List D → AH → R D} {k : Nat}
theorem s_ifs {L : Loc} {X : Cx} {c : CE} {e : Expr} (hs : SndE x X WF (evE G cl c) e) : PTs X [e] (tB x (evIfs G cl (.cons c .nil))) := b_one hs.t
mutual
theorem sndE : ∀ (c : CE) {L : Loc} {X : Cx} {W : L2.WX} {e : Expr}, Cxt x G cl L X W k → chkE c L e = true → SndE x X W (evE G cl c) e
  | .var i, L, X, W, e, C, h => s_var C h
  | .cst d, L, X, W, e, C, h => s_cst C h
  | .glb i, L, X, W, e, C, h => s_glb C h
  | .bin op a b, L, X, W, e, C, h => by
    cases e with
    | BinOp a' op' b' p =>
      simp only [chkE, Bool.and_eq_true, decide_eq_true_eq] at h
      obtain ⟨⟨rfl, h1⟩, h2⟩ := h
      exact .of (r_bin C.K (sndE a C h1).v (sndE b C h2).v) rfl
    | _ => simp [chkE] at h
  | .neg a, L, X, W, e, C, h => by
    cases e with
    | UnaryOp op a' p =>
      cases op with
      | USub =>
        simp only [chkE] at h
        exact .of (r_neg (sndE a C h).v) rfl
      | _ => simp [chkE] at h
    | _ => simp [chkE] at h
  | .not a, L, X, W, e, C, h => by
    cases e with
    | UnaryOp op a' p =>
      cases op with
      | Not =>
        simp only [chkE] at h
        have ha := sndE a C h
        exact ⟨r_not ha.v, t_not ha.t, fun op es p q => by cases q⟩
      | _ => simp [chkE] at h
    | _ => simp [chkE] at h
  | .and a b, L, X, W, e, C, h => by
    simp only [chkE] at h
    split at h
    · simp only [Bool.and_eq_true] at h
      have hb := sndE b C h.2
      exact s_and (sndE a C h.1) ⟨pe_one hb.v, w_and1 hb.t⟩ (by simp)
    · simp only [Bool.and_eq_true] at h
      have hb := sndE b C h.2
      exact s_and (sndE a C h.1) ⟨hb.v, hb.w _ _ _ rfl⟩ (by simp)
    · cases h
  | .or a b, L, X, W, e, C, h => by
    simp only [chkE] at h
    split at h
    · simp only [Bool.and_eq_true] at h
      have hb := sndE b C h.2
      exact s_or (sndE a C h.1) ⟨pe_one hb.v, w_or1 hb.t⟩ (by simp)
    · simp only [Bool.and_eq_true] at h
      have hb := sndE b C h.2
      exact s_or (sndE a C h.1) ⟨hb.v, hb.w _ _ _ rfl⟩ (by simp)
    · cases h
  | .cmp op a b, L, X, W, e, C, h => by
    simp only [chkE] at h
    split at h
    · simp only [Bool.and_eq_true, decide_eq_true_eq] at h
      obtain ⟨⟨⟨rfl, h1⟩, h2⟩, h3⟩ := h
      have ha := sndE a C h1
      have hb := sndE b C h2
      exact ⟨r_cmp C.K C.P C.w C.u ha.v hb.v (nb h3), t_cmp C.K C.P C.w C.u ha.v hb.v (nb h3), fun op es p q => by cases q⟩
    · cases h
  | .cmpL op a l, L, X, W, e, C, h => by
    simp only [chkE] at h
    split at h
    · simp only [Bool.and_eq_true, decide_eq_true_eq] at h
      obtain ⟨⟨⟨rfl, h1⟩, h2⟩, h3⟩ := h
      have ha := sndE a C h1
      have hb := sndL l C h2
      exact ⟨r_cmpL C.K C.P C.w C.u ha.v hb (nb h3), t_cmpL C.K C.P C.w C.u ha.v hb (nb h3), fun op es p q => by cases q⟩
    · cases h
  | .chn o1 o2 a b c, L, X, W, e, C, h => by
    simp only [chkE] at h
    split at h
    · simp only [Bool.and_eq_true, decide_eq_true_eq] at h
      obtain ⟨⟨⟨⟨⟨⟨rfl, rfl⟩, h1⟩, h2⟩, h3⟩, h4⟩, h5⟩ := h
      have ha := sndE a C h1
      have hb := sndE b C h2
      have hc := sndE c C h3
      exact ⟨r_chn C.K C.P C.w C.u ha.v hb.v hc.v (nb h4) (nb h5), t_chn C.K C.P C.w C.u ha.v hb.v hc.v (nb h4) (nb h5), fun op es p q => by cases q⟩
    · cases h
  | .ite c a b, L, X, W, e, C, h => by
    cases e with
    | IfExp c' a' b' p =>
      simp only [chkE, Bool.and_eq_true] at h
      have hc := sndE c C h.1.1
      have ha := sndE a C h.1.2
      have hb := sndE b C h.2
      exact ⟨r_ite hc.t ha.v hb.v, t_ite hc.t ha.t hb.t, fun op es p q => by cases q⟩
    | _ => simp [chkE] at h
  | .tup es, L, X, W, e, C, h => by
    cases e with
    | Tuple es' kk p =>
      simp only [chkE] at h
      exact .of (r_tup (sndEs es C h)) rfl
    | _ => simp [chkE] at h
  | .new l, L, X, W, e, C, h => by
    simp only [chkE, Bool.and_eq_true] at h
    exact .of (r_new (sndL l C h.1)) h.2
  | .ix a i, L, X, W, e, C, h => by
    cases e with
    | Subscript a' i' p =>
      simp only [chkE, Bool.and_eq_true] at h
      exact .of (r_ix C.K C.P C.w C.u h.2 (sndE a C h.1.1).v (sndE i C h.1.2).v) rfl
    | _ => simp [chkE] at h
  | .slc a lo hi, L, X, W, e, C, h => by
    simp only [chkE] at h
    split at h
    · rename_i a' lo' hi' p2 p
      simp only [Bool.and_eq_true] at h
      obtain ⟨⟨h1, h2⟩, h3⟩ := h
      refine .of (r_slc C.K (sndE a C h1).v (s_part (c := lo) (o := lo') ?_) (s_part (c := hi) (o := hi') ?_)) rfl
      · cases lo' with
        | none => exact h2
        | some e => exact (sndE lo C h2).v
      · cases hi' with
        | none => exact h3
        | some e => exact (sndE hi C h3).v
    · cases h
  | .call f es, L, X, W, e, C, h => by
    simp only [chkE] at h
    split at h
    · simp only [Bool.and_eq_true, decide_eq_true_eq] at h
      obtain ⟨⟨⟨⟨h1, h2⟩, h3⟩, h4⟩, h5⟩ := h
      refine .of (s_call C h1 h2 (nb h3) h5 (sndEs es C h4) fun z => ?_) rfl
      subst z
      cases es with
      | nil => rfl
      | cons _ _ => simp [chkEs] at h4
      | star _ _ => simp [chkEs] at h4
    · cases h
  | .b1 f a, L, X, W, e, C, h => by
    simp only [chkE] at h
    split at h
    · simp only [Bool.and_eq_true] at h
      exact .of (s_b1 C h.1.1 h.1.2 (sndE a C h.2).v) rfl
    · cases h
  | .b2 f a b, L, X, W, e, C, h => by
    simp only [chkE] at h
    split at h
    · simp only [Bool.and_eq_true] at h
      obtain ⟨⟨⟨⟨h1, h2⟩, h3⟩, h4⟩, h5⟩ := h
      exact .of (s_b2 C h1 h2 h3 (sndE a C h4).v (sndE b C h5).v) rfl
    · cases h
  | .bq f q, L, X, W, e, C, h => by
    simp only [chkE] at h
    split at h
    · simp only [Bool.and_eq_true] at h
      exact .of (s_bq C h.1.1 h.1.2 (sndQ q C h.2)) rfl
    · cases h
  | .isi a t, L, X, W, e, C, h => by
    simp only [chkE] at h
    split at h
    · simp only [Bool.and_eq_true, decide_eq_true_eq] at h
      obtain ⟨⟨⟨⟨h1, rfl⟩, h3⟩, h4⟩, h5⟩ := h
      exact .of (s_isi C h1 h3 h4 (sndE a C h5).v) rfl
    · cases h
  | .append o a, L, X, W, e, C, h => by
    simp only [chkE] at h
    split at h
    · simp only [Bool.and_eq_true, decide_eq_true_eq] at h
      obtain ⟨⟨⟨⟨⟨rfl, h2⟩, h3⟩, h4⟩, h5⟩, h6⟩ := h
      exact .of (r_append C.K (nc_of h2) h4 h3 (sndE o C h5).v (sndE a C h6).v) rfl
    · cases h
  | .extend o q, L, X, W, e, C, h => by
    simp only [chkE] at h
    split at h
    · simp only [Bool.and_eq_true, decide_eq_true_eq] at h
      obtain ⟨⟨⟨⟨⟨rfl, h2⟩, h3⟩, h4⟩, h5⟩, h6⟩ := h
      exact .of (r_extend C.K (nc_of h2) h4 h3 (sndE o C h5).v (sndQ q C h6).rm) rfl
    · cases h
  | .pop o, L, X, W, e, C, h => by
    simp only [chkE] at h
    split at h
    · simp only [Bool.and_eq_true, decide_eq_true_eq] at h
      obtain ⟨⟨⟨rfl, h2⟩, h3⟩, h4⟩ := h
      exact .of (r_pop C.K (nc_of h2) h3 (sndE o C h4).v) rfl
    · cases h
  | .newd d, L, X, W, e, C, h => by
    simp only [chkE, Bool.and_eq_true] at h
    exact .of (r_newd (sndD d C h.1)) h.2
  | .lenS q, L, X, W, e, C, h => by
    simp only [chkE] at h
    split at h
    · simp only [Bool.and_eq_true] at h
      obtain ⟨⟨p, rfl⟩, h1, h2⟩ := C.blt h.1.1.1 (by decide)
      obtain ⟨⟨p2, rfl⟩, h3, h4⟩ := C.blt h.1.1.2 (by decide)
      exact .of (r_lenS C.K C.P C.w C.calm h1 h2 h3 h4 h.1.2 (sndQ q C h.2).rq) rfl
    · cases h
  | .update _ _, L, X, W, e, C, h => by simp [chkE] at h
  | .dget _ _, L, X, W, e, C, h => by simp [chkE] at h
  | .dget2 _ _ _, L, X, W, e, C, h => by simp [chkE] at h
  | .never, L, X, W, e, C, h => ⟨PE.bad fun _ _ => rfl, ⟨fun pins s σ H Q I ⟨π, ρ, h0, b, p⟩ => p.elim⟩, fun _ _ _ _ => ⟨fun wh pins s σ H Q I ⟨π, ρ, h0, b, p⟩ => p.elim⟩⟩
theorem sndEs : ∀ (cs : CEs) {L : Loc} {X : Cx} {W : L2.WX} {es : List Expr}, Cxt x G cl L X W k → chkEs cs L es = true → PA X es (tAs x W (evEs G cl cs))
  | .nil, L, X, W, es, C, h => by
    cases es with
    | nil => exact a_nil
    | cons _ _ => simp [chkEs] at h
  | .cons c cs, L, X, W, es, C, h => by
    cases es with
    | nil => simp [chkEs] at h
    | cons e es =>
      simp only [chkEs, Bool.and_eq_true] at h
      exact a_cons (sndE c C h.1.2).v (sndEs cs C h.2) (star_of h.1.1)
  | .star q cs, L, X, W, es, C, h => by
    simp only [chkEs] at h
    split at h
    · simp only [Bool.and_eq_true] at h
      exact a_star C.K C.calm (sndQ q C h.1).rq (sndEs cs C h.2)
    · cases h
theorem sndL : ∀ (c : CL) {L : Loc} {X : Cx} {W : L2.WX} {e : Expr}, Cxt x G cl L X W k → chkL c L e = true → PE X e (tL x W (evL G cl c))
  | .disp es, L, X, W, e, C, h => by
    cases e with
    | List es' p =>
      simp only [chkL] at h
      exact l_disp (sndEs es C h)
    | _ => simp [chkL] at h
  | .comp elt tg it ifs own, L, X, W, e, C, h => by
    simp only [chkL] at h
    split at h
    · rename_i elt' tg' it' ifs' scope p
      simp only [Bool.and_eq_true] at h
      obtain ⟨⟨⟨⟨⟨⟨h1, h2⟩, h3⟩, h4⟩, h5⟩, h6⟩, h7⟩ := h
      have ok := C.blkOk h3
      have hl := l_comp (x := x) (W := W) (elt := elt') (pos := p) C.calm C.nd (sndI it C h1) ok (by rw [ownN_snd]; exact h4) (fun s H Ca cs fp => (C.blk ok s H Ca cs fp).tg h5) (fun s H Ca cs fp => sndIf ifs (C.blk ok s H Ca cs fp) h6) (fun s H Ca cs fp => (sndE elt (C.blk ok s H Ca cs fp) h7).v) (ns_of h2)
      rw [ownN_snd] at hl
      exact hl
    · cases h
  | .comp2 _ _ _ _ _ _ _ _ _, L, X, W, e, C, h => by simp [chkL] at h
  | .sortedS q, L, X, W, e, C, h => by
    simp only [chkL] at h
    split at h
    · simp only [Bool.and_eq_true] at h
      obtain ⟨⟨p, rfl⟩, h1, h2⟩ := C.blt h.1.1.1 (by decide)
      obtain ⟨⟨p2, rfl⟩, h3, h4⟩ := C.blt h.1.1.2 (by decide)
      exact l_sortS C.K C.P C.w C.calm h1 h2 h3 h4 h.1.2 (sndQ q C h.2).rq
    · cases h
  | .sorted q, L, X, W, e, C, h => by
    simp only [chkL] at h
    split at h
    · simp only [Bool.and_eq_true] at h
      obtain ⟨⟨p, rfl⟩, h1, h2⟩ := C.blt h.1.1 (by decide)
      exact l_sorted C.K C.P C.w C.calm C.u h1 h2 h.1.2 (sndQ q C h.2).rk
    · cases h
  | .list q, L, X, W, e, C, h => by
    simp only [chkL] at h
    split at h
    · simp only [Bool.and_eq_true] at h
      obtain ⟨⟨p, rfl⟩, h1, h2⟩ := C.blt h.1.1 (by decide)
      exact l_listK C.K C.P C.w C.calm h1 h2 h.1.2 (sndQ q C h.2).rk
    · cases h
  | .catE a b, L, X, W, e, C, h => by
    simp only [chkL] at h
    split at h
    · simp only [Bool.and_eq_true] at h
      exact l_catE (sndE a C h.1).v (sndQ b C h.2).rm
    · cases h
  | .catL a b, L, X, W, e, C, h => by
    simp only [chkL] at h
    split at h
    · simp only [Bool.and_eq_true] at h
      exact l_catL (sndL a C h.1) (sndQ b C h.2).rm
    · cases h
  | .rep a n, L, X, W, e, C, h => by
    simp only [chkL] at h
    split at h
    · simp only [Bool.and_eq_true] at h
      exact l_rep (sndL a C h.1) (sndE n C h.2).v
    · cases h
  | .slc a lo hi, L, X, W, e, C, h => by
    simp only [chkL] at h
    split at h
    · rename_i a' lo' hi' p2 p
      simp only [Bool.and_eq_true] at h
      obtain ⟨⟨h1, h2⟩, h3⟩ := h
      refine l_slc C.K (sndE a C h1).v (s_part (c := lo) (o := lo') ?_) (s_part (c := hi) (o := hi') ?_)
      · cases lo' with
        | none => exact h2
        | some e => exact (sndE lo C h2).v
      · cases hi' with
        | none => exact h3
        | some e => exact (sndE hi C h3).v
    · cases h
  | .ite c a b, L, X, W, e, C, h => by
    cases e with
    | IfExp c' a' b' p =>
      simp only [chkL, Bool.and_eq_true] at h
      exact l_ite (sndE c C h.1.1).t (sndL a C h.1.2) (sndL b C h.2)
    | _ => simp [chkL] at h
  | .range (.rng1 a), L, X, W, e, C, h => by
    simp only [chkL] at h
    split at h
    · simp only [Bool.and_eq_true] at h
      obtain ⟨⟨⟨h1, h2⟩, h3⟩, h4⟩ := h
      obtain ⟨⟨p, rfl⟩, g1, g2⟩ := C.blt h1 (by decide)
      obtain ⟨⟨p2, rfl⟩, g3, g4⟩ := C.blt h2 (by decide)
      exact l_rng1 C.calm g1 g2 g3 g4 h3 (sndE a C h4).v
    · cases h
  | .range (.q _), L, X, W, e, C, h => by simp [chkL] at h
  | .range (.rng2 _ _), L, X, W, e, C, h => by simp [chkL] at h
  | .range (.rng3 _ _ _), L, X, W, e, C, h => by simp [chkL] at h
  | .range (.enum _), L, X, W, e, C, h => by simp [chkL] at h
  | .range (.zip _ _), L, X, W, e, C, h => by simp [chkL] at h
  | .range (.items _), L, X, W, e, C, h => by simp [chkL] at h
  | .range (.values _), L, X, W, e, C, h => by simp [chkL] at h
theorem sndD : ∀ (c : CD) {L : Loc} {X : Cx} {W : L2.WX} {e : Expr}, Cxt x G cl L X W k → chkD c L e = true → PE X e (tD x W (evD G cl c))
  | .disp kvs, L, X, W, e, C, h => by
    cases e with
    | Dict ks vs p =>
      simp only [chkD, Bool.and_eq_true, decide_eq_true_eq] at h
      obtain ⟨⟨⟨h1, h2⟩, h3⟩, h4⟩ := h
      cases ks with
      | nil =>
        cases vs with
        | nil =>
          cases kvs with
          | nil => exact d_empty
          | cons _ _ _ => cases h1
        | cons _ _ => cases kvs <;> cases h1
      | cons k0 ks => exact d_disp C.K C.P C.w C.u h4 h3 (by simp) h2 (sndPs kvs C h1)
    | _ => simp [chkD] at h
  | .comp kk v tg it ifs own, L, X, W, e, C, h => by
    simp only [chkD] at h
    split at h
    · rename_i k' v' tg' it' ifs' scope p
      simp only [Bool.and_eq_true] at h
      obtain ⟨⟨⟨⟨⟨⟨⟨h1, h2⟩, h3⟩, h4⟩, h5⟩, h6⟩, h7⟩, h8⟩ := h
      have ok := C.blkOk h3
      have hl := d_comp (x := x) (W := W) (kx := k') (vx := v') (pos := p) C.calm C.nd (sndI it C h1) ok (by rw [ownN_snd]; exact h4) (fun s H Ca cs fp => (C.blk ok s H Ca cs fp).tg h5) (fun s H Ca cs fp => sndIf ifs (C.blk ok s H Ca cs fp) h6) (fun s H Ca cs fp => (sndE kk (C.blk ok s H Ca cs fp) h7).v) (fun s H Ca cs fp => (sndE v (C.blk ok s H Ca cs fp) h8).v) (ns_of h2)
      rw [ownN_snd] at hl
      exact hl
    · cases h
theorem sndPs : ∀ (c : CPs) {L : Loc} {X : Cx} {W : L2.WX} {pos : Pos} {ks : List (Option Expr)} {vs : List Expr}, Cxt x G cl L X W k → chkPs c L ks vs = true → PPx X pos ks vs (tPs x W (evPairs G cl c))
  | .nil, L, X, W, pos, ks, vs, C, h => by
    cases ks with
    | nil =>
      cases vs with
      | nil => exact pp_nil
      | cons _ _ => simp [chkPs] at h
    | cons _ _ => simp [chkPs] at h
  | .cons kk v r, L, X, W, pos, ks, vs, C, h => by
    simp only [chkPs] at h
    split at h
    · simp only [Bool.and_eq_true] at h
      exact pp_cons (sndE kk C h.1.1).v (sndE v C h.1.2).v (sndPs r C h.2)
    · cases h
theorem sndQ : ∀ (c : CQ) {L : Loc} {X : Cx} {W : L2.WX} {e : Expr}, Cxt x G cl L X W k → chkQ c L e = true → SndQ x G cl X W c e
  | .e a, L, X, W, e, C, h => by
    simp only [chkQ] at h
    have ha := (sndE a C h).v
    exact ⟨q_e ha, k_e ha, m_e ha⟩
  | .l a, L, X, W, e, C, h => by
    simp only [chkQ] at h
    have ha := sndL a C h
    exact ⟨q_l ha, k_l ha, m_l ha⟩
  | .d a, L, X, W, e, C, h => by
    simp only [chkQ] at h
    have ha := sndD a C h
    exact ⟨PE.bad fun _ _ => rfl, k_d ha, PE.bad fun _ _ => rfl⟩
  | .s a, L, X, W, e, C, h => by simp [chkQ] at h
theorem sndI : ∀ (c : CI) {L : Loc} {X : Cx} {W : L2.WX} {tg e : Expr}, Cxt x G cl L X W k → chkI c L tg e = true → PI X tg e (tI x (NFx X) W (evI G cl c))
  | .q (.e a), L, X, W, tg, e, C, h => by
    simp only [chkI] at h
    exact i_q C.K C.P C.w (sndE a C h).v
  | .q (.l a), L, X, W, tg, e, C, h => by
    simp only [chkI] at h
    exact i_l C.K (sndL a C h)
  | .q (.d _), L, X, W, tg, e, C, h => by simp [chkI] at h
  | .q (.s _), L, X, W, tg, e, C, h => by simp [chkI] at h
  | .rng1 a, L, X, W, tg, e, C, h => by
    simp only [chkI] at h
    split at h
    · simp only [Bool.and_eq_true] at h
      obtain ⟨⟨p, rfl⟩, h1, h2⟩ := C.blt h.1.1 (by decide)
      exact i_rng1 h1 h2 h.1.2 (sndE a C h.2).v
    · cases h
  | .rng2 a b, L, X, W, tg, e, C, h => by
    simp only [chkI] at h
    split at h
    · simp only [Bool.and_eq_true] at h
      obtain ⟨⟨⟨⟨h1, h2⟩, h3⟩, h4⟩, h5⟩ := h
      obtain ⟨⟨p, rfl⟩, g1, g2⟩ := C.blt h1 (by decide)
      exact i_rng2 g1 g2 h2 h3 (sndE a C h4).v (sndE b C h5).v
    · cases h
  | .rng3 a b c, L, X, W, tg, e, C, h => by
    simp only [chkI] at h
    split at h
    · simp only [Bool.and_eq_true] at h
      obtain ⟨⟨⟨⟨⟨⟨h1, h2⟩, h3⟩, h4⟩, h5⟩, h6⟩, h7⟩ := h
      obtain ⟨⟨p, rfl⟩, g1, g2⟩ := C.blt h1 (by decide)
      exact i_rng3 g1 g2 h2 h3 h4 (sndE a C h5).v (sndE b C h6).v (sndE c C h7).v
    · cases h
  | .enum (.e a), L, X, W, tg, e, C, h => by
    simp only [chkI] at h
    split at h
    · simp only [Bool.and_eq_true] at h
      obtain ⟨⟨p, rfl⟩, h1, h2⟩ := C.blt h.1.1 (by decide)
      exact i_enum C.K h1 h2 h.1.2 (sndE a C h.2).v
    · cases h
  | .enum (.l _), L, X, W, tg, e, C, h => by simp [chkI] at h
  | .enum (.d _), L, X, W, tg, e, C, h => by simp [chkI] at h
  | .enum (.s _), L, X, W, tg, e, C, h => by simp [chkI] at h
  | .zip _ _, L, X, W, tg, e, C, h => by simp [chkI] at h
  | .items a, L, X, W, tg, e, C, h => by
    simp only [chkI] at h
    split at h
    · simp only [Bool.and_eq_true, decide_eq_true_eq] at h
      obtain ⟨⟨⟨rfl, h2⟩, h3⟩, h4⟩ := h
      exact i_items C.K C.P C.w (nc_of h2) h3 (sndE a C h4).v
    · cases h
  | .values a, L, X, W, tg, e, C, h => by
    simp only [chkI] at h
    split at h
    · simp only [Bool.and_eq_true, decide_eq_true_eq] at h
      obtain ⟨⟨⟨rfl, h2⟩, h3⟩, h4⟩ := h
      exact i_vals C.K C.P C.w (nc_of h2) h3 (sndE a C h4).v
    · cases h
theorem sndIf : ∀ (c : CEs) {L : Loc} {X : Cx} {es : List Expr}, Cxt x G cl L X WF k → chkIf c L es = true → PTs X es (tB x (evIfs G cl c))
  | .nil, L, X, es, C, h => by
    cases es with
    | nil => exact b_nil
    | cons _ _ => simp [chkIf] at h
  | .cons c .nil, L, X, es, C, h => by
    simp only [chkIf] at h
    split at h
    · exact s_ifs (L := L) (sndE c C h)
    · cases h
  | .cons _ (.cons _ _), L, X, es, C, h => by simp [chkIf] at h
  | .cons _ (.star _ _), L, X, es, C, h => by simp [chkIf] at h
  | .star _ _, L, X, es, C, h => by simp [chkIf] at h
end
end
end Rw
set_option Elab.async false
set_option linter.all false
set_option autoImplicit false
set_option maxRecDepth 100000
set_option maxHeartbeats 4000000
namespace Rw
open PySem PySem.Spec PyProof.Rows L2

/-! ## statements: text against core -/
def noSwap : Expr → Bool
  | .ListComp _ _ _ _ => false
  | .SetComp _ _ _ _ => false
  | .DictComp _ _ _ _ _ => false
  | _ => true
theorem noSwap_of {e : Expr} {t : Option Expr} {n : Nat} {env : Env} (h : noSwap e = true) : swapsWith e t n env = pure false := by
  cases e <;> first | rfl | cases h
def notTup : Expr → Bool
  | .Tuple _ _ _ => false
  | _ => true
theorem notTup_of {e t : Expr} {env : Env} (h : notTup e = true) : swappedStores [t] e env = pure none := by
  cases e <;> first | (cases t <;> rfl) | cases h
theorem sub_stores {o i e : Expr} {p : Pos} {env : Env} : swappedStores [.Subscript o i p] e env = pure none := by cases e <;> rfl
theorem sub_swap {o i e : Expr} {p : Pos} {n : Nat} {env : Env} : swapsWithSole [.Subscript o i p] e n env = pure false := by cases e <;> rfl
theorem tup_swap {es : List Expr} {k : Nat} {e : Expr} {p : Pos} {n : Nat} {env : Env} : swapsWithSole [.Tuple es k p] e n env = pure false := by cases e <;> rfl
/-- the two names are stored from the right -/
def swap2 (L : Loc) (y z : Str) (py pz : Pos) (a b : Expr) : Bool :=
  decide (L.sc.names.lookup y = some .local) && decide (L.sc.names.lookup z = some .local) && (pz.line == py.line) && decide (y ≠ z) && plainE a && plainE b && ![a, b].all (foldedForSure 8) && ![a, b].all (constantsAlone 8)
theorem kind_fn {env : Env} (hk : env.scope.kind = .function) : (env.blockKind != .function) = false := by
  unfold Env.blockKind
  rw [hk]
  rfl
theorem nostar_any {vs : List Expr} (h : vs.all plainE = true) : (vs.any fun | .Starred .. => true | _ => false) = false := by
  induction vs with
  | nil => rfl
  | cons v vs ih =>
    simp only [List.all_cons, Bool.and_eq_true] at h
    rw [List.any_cons, ih h.2]
    have := h.1
    cases v <;> first | rfl | cases this
theorem swap2_of {L : Loc} {y z : Str} {py pz pt pt2 : Pos} {kt k2 : Nat} {a b : Expr} {env : Env} (hk : env.scope.kind = .function) (hs : env.scope = L.sc) (h : swap2 L y z py pz a b = true) :
    swappedStores [.Tuple [.Name y py, .Name z pz] kt pt] (.Tuple [a, b] k2 pt2) env = pure (some [y, z]) := by
  unfold swap2 at h
  simp only [Bool.and_eq_true, decide_eq_true_eq, Bool.not_eq_true', beq_iff_eq] at h
  obtain ⟨⟨⟨⟨⟨⟨⟨h1, h2⟩, h3⟩, h4⟩, h5⟩, h6⟩, h7⟩, h8⟩ := h
  have e1 : env.kindOf y = some .local := by show env.scope.names.lookup y = _; rw [hs]; exact h1
  have e2 : env.kindOf z = some .local := by show env.scope.names.lookup z = _; rw [hs]; exact h2
  have hv : ([a, b].any fun | .Starred .. => true | _ => false) = false := nostar_any (by simp [h5, h6])
  have hd : (y == z) = false := by simpa using h4
  have hd2 : (z == y) = false := by simpa using fun e : z = y => h4 e.symm
  unfold swappedStores
  simp [kind_fn hk, hv, e1, e2, Expr.pos, h3, h7, h8, List.eraseDups, List.eraseDupsBy, List.eraseDupsBy.loop, hd, hd2]
  rintro (hh | hh)
  · exfalso; revert hh; cases a <;> first | (intro hh; cases hh; done) | cases h5
  · exfalso; revert hh; cases b <;> first | (intro hh; cases hh; done) | cases h6
/-- .. the three names -/
def swap3 (L : Loc) (y z u : Str) (py pz pu : Pos) (a b c : Expr) : Bool :=
  decide (L.sc.names.lookup y = some .local) && decide (L.sc.names.lookup z = some .local) && decide (L.sc.names.lookup u = some .local) && (pz.line == py.line) && (pu.line == py.line) && decide (y ≠ z) && decide (y ≠ u) && decide (z ≠ u) && plainE a && plainE b && plainE c && ![a, b, c].all (foldedForSure 8) && ![a, b, c].all (constantsAlone 8)
theorem nost {v : Expr} (h : plainE v = true) : (match v with | .Starred .. => true | _ => false) = false := by cases v <;> first | rfl | cases h
theorem swap3_of {L : Loc} {y z u : Str} {py pz pu pt pt2 : Pos} {kt k2 : Nat} {a b c : Expr} {env : Env} (hk : env.scope.kind = .function) (hs : env.scope = L.sc) (h : swap3 L y z u py pz pu a b c = true) :
    swappedStores [.Tuple [.Name y py, .Name z pz, .Name u pu] kt pt] (.Tuple [a, b, c] k2 pt2) env = pure (some [y, z, u]) := by
  unfold swap3 at h
  simp only [Bool.and_eq_true, decide_eq_true_eq, Bool.not_eq_true', beq_iff_eq] at h
  obtain ⟨⟨⟨⟨⟨⟨⟨⟨⟨⟨⟨⟨h1, h2⟩, h2'⟩, h3⟩, h3'⟩, h4⟩, h4'⟩, h4''⟩, h5⟩, h6⟩, h6'⟩, h7⟩, h8⟩ := h
  have e1 : env.kindOf y = some .local := by show env.scope.names.lookup y = _; rw [hs]; exact h1
  have e2 : env.kindOf z = some .local := by show env.scope.names.lookup z = _; rw [hs]; exact h2
  have e3 : env.kindOf u = some .local := by show env.scope.names.lookup u = _; rw [hs]; exact h2'
  have hd : (y == z) = false := by simpa using h4
  have hd2 : (z == y) = false := by simpa using fun e : z = y => h4 e.symm
  have hd3 : (y == u) = false := by simpa using h4'
  have hd4 : (u == y) = false := by simpa using fun e : u = y => h4' e.symm
  have hd5 : (z == u) = false := by simpa using h4''
  have hd6 : (u == z) = false := by simpa using fun e : u = z => h4'' e.symm
  unfold swappedStores
  simp [kind_fn hk, e1, e2, e3, Expr.pos, h3, h3', h7, h8, List.eraseDups, List.eraseDupsBy, List.eraseDupsBy.loop, hd, hd2, hd3, hd4, hd5, hd6]
  rintro (hh | hh | hh)
  · exfalso; revert hh; cases a <;> first | (intro hh; cases hh; done) | cases h5
  · exfalso; revert hh; cases b <;> first | (intro hh; cases hh; done) | cases h6
  · exfalso; revert hh; cases c <;> first | (intro hh; cases hh; done) | cases h6'
/-- .. none is stored from the right -/
def swapZ (L : Loc) (ts vs : List Expr) : Bool :=
  decide (4 ≤ ts.length) || vs.all (foldedForSure 8) || ts.any fun t => match t with
    | .Name y p => !(decide (L.sc.names.lookup y = some .local) && decide (p.line = (ts.head?.map (·.pos.line)).getD 0))
    | _ => true
theorem swapZ_of {L : Loc} {ts vs : List Expr} {pt pt2 : Pos} {kt k2 : Nat} {env : Env} (hs : env.scope = L.sc) (h : swapZ L ts vs = true) :
    swappedStores [.Tuple ts kt pt] (.Tuple vs k2 pt2) env = pure none := by
  unfold swapZ at h
  simp only [Bool.or_eq_true, decide_eq_true_eq] at h
  unfold swappedStores
  simp only []
  split
  · rfl
  rename_i c1
  split
  · rfl
  split
  · rfl
  rename_i c3
  split
  · rfl
  rename_i c4
  exfalso
  rcases h with (h | h) | h
  · simp only [Bool.or_eq_true, Bool.not_eq_true', Bool.or_eq_false_iff, beq_eq_false_iff_ne, not_or] at c1
    have := c1.1.1
    simp at this
    omega
  · exact c4 h
  · simp only [Bool.or_eq_true, bne_iff_ne, not_or, Decidable.not_not] at c3
    have c5 := List.filterMap_length_eq_length.mp c3.1
    obtain ⟨t, m, ht⟩ := List.any_eq_true.mp h
    have c6 := c5 t m
    cases t with
    | Name y p =>
      simp only [Bool.not_eq_true', Bool.and_eq_false_iff, decide_eq_false_iff_not] at ht
      simp only at c6
      have ek : env.kindOf y = L.sc.names.lookup y := by show env.scope.names.lookup y = _; rw [hs]
      rw [ek] at c6
      split at c6
      · rename_i c7
        simp only [Bool.and_eq_true, beq_iff_eq] at c7
        rcases ht with ht | ht
        · exact ht c7.1
        · exact ht c7.2
      · cases c6
    | _ => cases c6
/-- a comprehension that is bound right in its own frame -/
def swC (L : Loc) (e : Expr) (y : Str) (py : Pos) : Bool := match (match e with
    | .ListComp _ _ s _ | .SetComp _ _ s _ | .DictComp _ _ _ s _ => some s
    | _ => none) with
  | some scope => decide (L.sc.names.lookup y = some .local) && py.line == e.pos.line && !(scope.names.any fun (n, k) => n == y && (k == .local || k == .cell))
  | none => false
theorem swC_of {L : Loc} {y : Str} {py : Pos} {e : Expr} {l : Nat} {env : Env} (hk : env.scope.kind = .function) (hs : env.scope = L.sc) : swapsWith e (some (.Name y py)) l env = pure (swC L e y py) := by
  have e1 : (env.blockKind == .function) = true := by
    have := kind_fn hk
    simpa using this
  have e2 : (env.kindOf y == some .local) = decide (L.sc.names.lookup y = some .local) := by
    show (env.scope.names.lookup y == some .local) = _
    rw [hs]
    by_cases h : L.sc.names.lookup y = some .local
    · simp [h]
    · simp [h]
  cases e <;> first | rfl | (unfold swapsWith swC; simp only [e1, e2]; rfl)
end Rw
set_option Elab.async false
set_option linter.all false
set_option autoImplicit false
set_option maxRecDepth 100000
set_option maxHeartbeats 4000000
namespace Rw
open PySem PySem.Spec PyProof.Rows L2

def plainIx : Expr → Bool
  | .Slice _ _ _ _ => false
  | _ => true
def cellB (L : Loc) (i : Nat) (y : Str) : Bool := plcB L i y
def parB (L : Loc) (is : List Nat) (ts es : List Expr) : Bool := swapZ L ts es || match is, ts, es with
  | [i, j], [.Name y py, .Name z pz], [a, b] => swap2 L y z py pz a b && decide (i ≠ j)
  | [i, j, l], [.Name y py, .Name z pz, .Name u pu], [a, b, c] => swap3 L y z u py pz pu a b c && decide (i ≠ j) && decide (i ≠ l) && decide (j ≠ l)
  | _, _, _ => false
def isComp : CE → Bool
  | .new (.comp ..) => true
  | .newd (.comp ..) => true
  | _ => false
mutual
def chkS : CS → Loc → Stmt → Bool
  | .expr e, L, s => match s with
    | .Expr e' _ => chkE e L e' && noSwap e'
    | _ => false
  | .set i e, L, s => match s with
    | .Assign [.Name y py] e' _ => plcB L i y && chkE e L e' && (!(swC L e' y py) || isComp e)
    | _ => false
  | .unp is e, L, s => match s with
    | .Assign [.Tuple es _ _] e' _ => nmsB L is es && chkE e L e' && notTup e'
    | _ => false
  | .par is es, L, s => match s with
    | .Assign [.Tuple ts _ _] (.Tuple es' _ _) _ => nmsB L is ts && chkEs es L es' && parB L is ts es' && decide (is.length ≤ sizeLine)
    | _ => false
  | .setIx o i v, L, s => match s with
    | .Assign [.Subscript o' i' _] v' _ => chkE o L o' && chkE i L i' && chkE v L v' && plainIx i'
    | _ => false
  | .parIx o1 i1 o2 i2 v1 v2, L, s => match s with
    | .Assign [.Tuple [.Subscript o1' i1' _, .Subscript o2' i2' _] _ _] (.Tuple [v1', v2'] _ _) _ => chkE o1 L o1' && chkE i1 L i1' && chkE o2 L o2' && chkE i2 L i2' && chkE v1 L v1' && chkE v2 L v2' && plainIx i1' && plainIx i2' && plainE v1' && plainE v2'
    | _ => false
  | .aug i op e, L, s => match s with
    | .AugAssign (.Name y _) op' e' _ => plcB L i y && decide (op = op') && chkE e L e'
    | _ => false
  | .augIx o i op e, L, s => match s with
    | .AugAssign (.Subscript o' i' _) op' e' _ => decide (op = op') && chkE o L o' && chkE i L i' && chkE e L e' && plainIx i'
    | _ => false
  | .ret e, L, s => match s with
    | .Return (some e') _ => chkE e L e'
    | .Return none _ => isNon e
    | _ => false
  | .ife c a b, L, s => match s with
    | .If c' a' b' _ => chkE c L c' && chkSs a L a' && chkSs b L b'
    | _ => false
  | .fore tg it body _, L, s => match s with
    | .For tg' it' body' [] _ => chkI it L tg' it' && tgB L tg tg' && chkSs body L body' && notSet it'
    | _ => false
  | .whle c body _, L, s => match s with
    | .While c' body' [] _ => chkE c L c' && chkSs body L body'
    | _ => false
  | .brk, L, s => match s with
    | .Break _ => true
    | _ => false
  | .cnt, L, s => match s with
    | .Continue _ => true
    | _ => false
  | .pass, L, s => match s with
    | .Pass _ => true
    | .Expr (.Constant (.str _) _ _) _ => true
    | _ => false
  | .raise _ _, _, _ => false
  | .never, _, _ => true
def chkSs : CSs → Loc → List Stmt → Bool
  | .nil, _, s => s.isEmpty
  | .cons s r, L, ss => match ss with
    | s' :: r' => chkS s L s' && chkSs r L r'
    | [] => false
end
section
variable {x : Gx} {G : GE} {cl : Nat → List D → AH → R D} {k : Nat} {X : Cx} {W : L2.WX} {L : Loc}
theorem PS.bad {s : Stmt} {m : St → AH → RS} (h : ∀ ρ h, m ρ h = .bad) : PS X s (tS x W m) := ⟨fun pins s σ H E I ⟨π, ρ, h0, b, p⟩ => by rw [h] at p; exact p.elim⟩
theorem s_plc (C : Cxt x G cl L X W k) {i : Nat} {y : Str} {e : Expr} {py pos : Pos} {m : St → AH → R D} (h : plcB L i y = true) (he : PE X e (tE x W m)) (hs : swapsWith e (some (.Name y py)) pos.line X.env = pure false) :
    PS X (.Assign [.Name y py] e pos) (tS x W fun ρ h => RS.of ρ (m ρ h) fun d h => .nx (ρ.set i (some d)) h) := by
  obtain ⟨h1, h2, h3⟩ := C.plc h
  rcases h2 with h2 | h2
  · exact s_set C.nd h1 h2 he hs
  · rcases h3 with h3 | h3
    · exact s_setC C.nd h1 h2 h3 he hs
    · exact s_set C.nd h1 h3 he hs
theorem plainIx_aug {i : Expr} (h : plainIx i = true) (ov iv new : Value) : augStore i ov iv new = (do holding [new, ov, iv] (setItem ov iv new); release [new, ov, iv] []; pure .next) := by
  cases i <;> first | rfl | cases h
theorem plainIx_asg {o i : Expr} {pos : Pos} {env : Env} (h : plainIx i = true) (v : Value) : assign (.Subscript o i pos) env v = (do
      let ov ← holding [v] (eval o env)
      let iv ← holding [v, ov] (eval i env)
      standAt pos
      holding [v, ov, iv] (setItem ov iv v)
      release [v, ov, iv] []) := by
  cases i <;> first | rfl | cases h
theorem s_cong {m m' : St → AH → RS} {s : Stmt} (h : PS X s (tS x W m)) (e : ∀ ρ h, m' ρ h = m ρ h) : PS X s (tS x W m') := by
  have : m' = m := by funext ρ h; exact e ρ h
  rw [this]; exact h
/-! ### a comprehension that is bound in its own frame -/
theorem s_setLc {i : Nat} {y : Str} {py pos spos : Pos} {elt tg iter : Expr} {ifs : List Expr} {scope : Scope} {own : List (Str × Nat)} {mI : St → AH → R (List D × List Nat)} {t : Tg} {mi : St → AH → R Bool} {me : St → AH → R D} (hc : X.calm = true) (hN : X.N.Nodup) (hy : X.N[i]? = some y) (hyl : X.env.scope.names.lookup y = some .local)
    (hsw : swapsWith (.ListComp elt [⟨tg, iter, ifs, 0⟩] scope pos) (some (.Name y py)) spos.line X.env = pure true) (hi : PI X tg iter (tI x (NFx X) W mI)) (ok : BlkOk X.N X.env.scope scope own) (ht : tgIn (own.map (·.2)) t = true)
    (hg : ∀ (s : Shared) (H : Hp) (C : Addr) (cl : List (Str × Addr)) (fp : List Addr), PG (X.blk s H scope (compEnvC scope cl C X.env) fp) tg (tG x t)) (hb : ∀ (s : Shared) (H : Hp) (C : Addr) (cl : List (Str × Addr)) (fp : List Addr), PTs (X.blk s H scope (compEnvC scope cl C X.env) fp) ifs (tB x mi))
    (he : ∀ (s : Shared) (H : Hp) (C : Addr) (cl : List (Str × Addr)) (fp : List Addr), PE (X.blk s H scope (compEnvC scope cl C X.env) fp) elt (tE x WF me)) (hs : ∀ x, foldedSetIterable iter X.env x = pure x) :
    PS X (.Assign [.Name y py] (.ListComp elt [⟨tg, iter, ifs, 0⟩] scope pos) spos) (tS x W fun ρ h => RS.of ρ ((compS mI t (own.map (·.2)) mi me ρ h).bind fun us h => .ok (.ref h.length) (h ++ [.lst us false])) fun d h => .nx (ρ.set i (some d)) h) :=
  PS.imp (ps_un (ps_setLc hc hN hy hyl hsw hi ok hg hb he hs)) fun E σ H ⟨π, ρ, h, b, p⟩ =>
    lc_imp ht σ H (fun v H => E.nx (σ.set i (some v)) H) (imp_new σ H _ (tS.fst b p fun π1 H1 h1 d v b1 r k p1 => p1 π1 H1 _ Keep.refl (b1.set r)))
theorem ps_setDc {i : Nat} {y : Str} {py : Pos} {kx vx tg iter : Expr} {ifs : List Expr} {scope : Scope} {own : List (Str × Nat)} {pos spos : Pos} {wi : TI} {g : TG} {tt : TT} {tk tv : TE} (hc : X.calm = true) (hN : X.N.Nodup) (hy : X.N[i]? = some y) (hyl : X.env.scope.names.lookup y = some .local)
    (hsw : swapsWith (.DictComp kx vx [⟨tg, iter, ifs, 0⟩] scope pos) (some (.Name y py)) spos.line X.env = pure true) (hi : PI X tg iter wi) (ok : BlkOk X.N X.env.scope scope own)
    (hg : ∀ (s : Shared) (H : Hp) (C : Addr) (cl : List (Str × Addr)) (fp : List Addr), PG (X.blk s H scope (compEnvC scope cl C X.env) fp) tg g) (ht : ∀ (s : Shared) (H : Hp) (C : Addr) (cl : List (Str × Addr)) (fp : List Addr), PTs (X.blk s H scope (compEnvC scope cl C X.env) fp) ifs tt)
    (hk : ∀ (s : Shared) (H : Hp) (C : Addr) (cl : List (Str × Addr)) (fp : List Addr), PE (X.blk s H scope (compEnvC scope cl C X.env) fp) kx tk)
    (he : ∀ (s : Shared) (H : Hp) (C : Addr) (cl : List (Str × Addr)) (fp : List Addr), PE (X.blk s H scope (compEnvC scope cl C X.env) fp) vx tv) (hs : ∀ x, foldedSetIterable iter X.env x = pure x) :
    PS X (.Assign [.Name y py] (.DictComp kx vx [⟨tg, iter, ifs, 0⟩] scope pos) spos) (tAsg (tDc wi g tt tk tv (own.map (·.2))) (gName i)) := by
  refine ⟨fun pins s σ H D I h => ?_⟩
  rw [exec_Assign_Name_used _ _ _ _ hsw]
  refine wpAny_bind (wpAny_standAt (wpAny_bind ?_))
  show wpAny _ X.A (do let _ ← comprehension (.DictComp kx vx [⟨tg, iter, ifs, 0⟩] scope pos) scope X.env (firstIterPos [⟨tg, iter, ifs, 0⟩] pos) newDict false (eval iter X.env) (some (assign (.Name y py) X.env))) _ _ s
  have h : tDc wi g tt tk tv (own.map (·.2)) σ H (fun x H1 => gName i x σ H1 D.nx) := h
  refine wpAny_bind (thn (dc_core (Qf := fun _ s' => SP X pins D .next s') hc hN I hi ok hg ht hk he hs h fun L C s' m H' I' q hn f => ?_) fun _ s' hq => wpAny_pure (wpAny_pure hq))
  show wpAny _ _ (assign (.Name y py) X.env (.ref L)) _ _ _
  refine wpAny_assign_Name (store_ok2 (v := V.ref L) I' hN hy (.inl hyl) rfl (fun s2 I2 ⟨a, sb, ha⟩ => ?_) (.inr hyl))
  obtain ⟨f0, f1, f2, f3, f4, f5⟩ := f
  have haC : C ≠ a := by
    rcases ha with z | z
    · rw [z]; exact f1
    · exact fun e => f4 y a z e.symm
  refine ⟨m, hn.sameBut sb haC, fun h3 sb3 => ?_⟩
  exact ⟨_, H', I2.turned (t' := s2.toks) (fun b o hb e => (sb3.2 b hb).trans e) f0 f1 f3 f4 f5, q⟩
theorem s_setDc {i : Nat} {y : Str} {py pos spos : Pos} {kx vx tg iter : Expr} {ifs : List Expr} {scope : Scope} {own : List (Str × Nat)} {mI : St → AH → R (List D × List Nat)} {t : Tg} {mi : St → AH → R Bool} {mk mv : St → AH → R D} (hc : X.calm = true) (hN : X.N.Nodup) (hy : X.N[i]? = some y) (hyl : X.env.scope.names.lookup y = some .local)
    (hsw : swapsWith (.DictComp kx vx [⟨tg, iter, ifs, 0⟩] scope pos) (some (.Name y py)) spos.line X.env = pure true) (hi : PI X tg iter (tI x (NFx X) W mI)) (ok : BlkOk X.N X.env.scope scope own) (ht : tgIn (own.map (·.2)) t = true)
    (hg : ∀ (s : Shared) (H : Hp) (C : Addr) (cl : List (Str × Addr)) (fp : List Addr), PG (X.blk s H scope (compEnvC scope cl C X.env) fp) tg (tG x t)) (hb : ∀ (s : Shared) (H : Hp) (C : Addr) (cl : List (Str × Addr)) (fp : List Addr), PTs (X.blk s H scope (compEnvC scope cl C X.env) fp) ifs (tB x mi))
    (hk : ∀ (s : Shared) (H : Hp) (C : Addr) (cl : List (Str × Addr)) (fp : List Addr), PE (X.blk s H scope (compEnvC scope cl C X.env) fp) kx (tE x WF mk))
    (he : ∀ (s : Shared) (H : Hp) (C : Addr) (cl : List (Str × Addr)) (fp : List Addr), PE (X.blk s H scope (compEnvC scope cl C X.env) fp) vx (tE x WF mv)) (hs : ∀ x, foldedSetIterable iter X.env x = pure x) :
    PS X (.Assign [.Name y py] (.DictComp kx vx [⟨tg, iter, ifs, 0⟩] scope pos) spos) (tS x W fun ρ h => RS.of ρ ((dcompS mI t (own.map (·.2)) mi mk mv ρ h).bind fun us h => .ok (.ref h.length) (h ++ [.dct us false])) fun d h => .nx (ρ.set i (some d)) h) :=
  PS.imp (ps_un (ps_setDc hc hN hy hyl hsw hi ok hg hb hk he hs)) fun E σ H ⟨π, ρ, h, b, p⟩ =>
    dc_imp ht σ H (fun v H => E.nx (σ.set i (some v)) H) (imp_newd σ H _ (tS.fst b p fun π1 H1 h1 d v b1 r k p1 => p1 π1 H1 _ Keep.refl (b1.set r)))
theorem swC_loc {e : Expr} {y : Str} {py : Pos} (h : swC L e y py = true) : L.sc.names.lookup y = some .local := by
  unfold swC at h
  split at h
  · simp only [Bool.and_eq_true, decide_eq_true_eq] at h
    exact h.1.1
  · cases h
theorem s_setSw (C : Cxt x G cl L X W k) {i : Nat} {y : Str} {e' : Expr} {py pos : Pos} {e : CE} (hp : plcB L i y = true) (h : chkE e L e' = true) (hs : swC L e' y py = true) (hc : isComp e = true) :
    PS X (.Assign [.Name y py] e' pos) (tS x W fun ρ h => RS.of ρ (evE G cl e ρ h) fun d h => .nx (ρ.set i (some d)) h) := by
  have hsw : swapsWith e' (some (.Name y py)) pos.line X.env = pure true := by rw [swC_of C.kind C.sc, hs]
  have hl : X.env.scope.names.lookup y = some .local := by rw [C.sc]; exact swC_loc hs
  have hN := (C.plc hp).1
  unfold isComp at hc
  split at hc
  · rename_i elt tg it ifs own
    simp only [chkE, chkL, Bool.and_eq_true] at h
    replace h := h.1
    split at h
    · rename_i elt' tg' it' ifs' scope p
      simp only [Bool.and_eq_true] at h
      obtain ⟨⟨⟨⟨⟨⟨h1, h2⟩, h3⟩, h4⟩, h5⟩, h6⟩, h7⟩ := h
      have ok := C.blkOk h3
      have hl := s_setLc (x := x) (W := W) C.calm C.nd hN hl hsw (sndI it C h1) ok (by rw [ownN_snd]; exact h4) (fun s H Ca cs fp => (C.blk ok s H Ca cs fp).tg h5) (fun s H Ca cs fp => sndIf ifs (C.blk ok s H Ca cs fp) h6) (fun s H Ca cs fp => (sndE elt (C.blk ok s H Ca cs fp) h7).v) (ns_of h2)
      rw [ownN_snd] at hl
      exact hl
    · cases h
  · rename_i kk vv tg it ifs own
    simp only [chkE, chkD, Bool.and_eq_true] at h
    replace h := h.1
    split at h
    · rename_i k' v' tg' it' ifs' scope p
      simp only [Bool.and_eq_true] at h
      obtain ⟨⟨⟨⟨⟨⟨⟨h1, h2⟩, h3⟩, h4⟩, h5⟩, h6⟩, h7⟩, h8⟩ := h
      have ok := C.blkOk h3
      have hl := s_setDc (x := x) (W := W) C.calm C.nd hN hl hsw (sndI it C h1) ok (by rw [ownN_snd]; exact h4) (fun s H Ca cs fp => (C.blk ok s H Ca cs fp).tg h5) (fun s H Ca cs fp => sndIf ifs (C.blk ok s H Ca cs fp) h6) (fun s H Ca cs fp => (sndE kk (C.blk ok s H Ca cs fp) h7).v) (fun s H Ca cs fp => (sndE vv (C.blk ok s H Ca cs fp) h8).v) (ns_of h2)
      rw [ownN_snd] at hl
      exact hl
    · cases h
  · cases hc
end
end Rw
set_option Elab.async false
set_option linter.all false
set_option autoImplicit false
set_option maxRecDepth 100000
set_option maxHeartbeats 4000000
namespace Rw
open PySem PySem.Spec PyProof.Rows L2

section
variable {x : Gx} {G : GE} {cl : Nat → List D → AH → R D} {k : Nat} {X : Cx} {W : L2.WX} {L : Loc}
theorem s_par (C : Cxt x G cl L X W k) {is : List Nat} {ts es : List Expr} {ms : St → AH → R (List D)} {kt k2 : Nat} {pt pt2 pos : Pos} (h1 : nmsB L is ts = true) (ha : PA X es (tAs x W ms)) (h3 : parB L is ts es = true) (h4 : is.length ≤ sizeLine) :
    PS X (.Assign [.Tuple ts kt pt] (.Tuple es k2 pt2) pos) (tS x W fun ρ h => RS.of ρ (ms ρ h) fun ds h => if ds.length = is.length then .nx (setS is ds ρ) h else .bad) := by
  unfold parB at h3
  simp only [Bool.or_eq_true] at h3
  rcases h3 with h3 | h3
  · exact s_parT C.K C.calm C.nd (C.nms h1) h4 ha (swapZ_of C.sc h3) tup_swap
  · split at h3
    · rename_i i j y py z pz a b
      simp only [Bool.and_eq_true, decide_eq_true_eq] at h3
      have hw := swap2_of (pt := pt) (pt2 := pt2) (kt := kt) (k2 := k2) C.kind C.sc h3.1
      have h3' := h3.1
      unfold swap2 at h3'
      simp only [Bool.and_eq_true, decide_eq_true_eq] at h3'
      obtain ⟨⟨⟨⟨⟨⟨⟨g1, g2⟩, -⟩, -⟩, -⟩, -⟩, -⟩, -⟩ := h3'
      have n := C.nms h1
      cases n with
      | cons p1 n => cases n with
        | cons p2 n => exact s_par2 C.calm C.nd p1.1 p2.1 h3.2 (by rw [C.sc]; exact g1) (by rw [C.sc]; exact g2) ha hw tup_swap
    · rename_i i j l y py z pz u pu a b c
      simp only [Bool.and_eq_true, decide_eq_true_eq] at h3
      have hw := swap3_of (pt := pt) (pt2 := pt2) (kt := kt) (k2 := k2) C.kind C.sc h3.1.1.1
      have h3' := h3.1.1.1
      unfold swap3 at h3'
      simp only [Bool.and_eq_true, decide_eq_true_eq] at h3'
      obtain ⟨⟨⟨⟨⟨⟨⟨⟨⟨⟨⟨⟨g1, g2⟩, g3⟩, -⟩, -⟩, -⟩, -⟩, -⟩, -⟩, -⟩, -⟩, -⟩, -⟩ := h3'
      have n := C.nms h1
      cases n with
      | cons p1 n => cases n with
        | cons p2 n => cases n with
          | cons p3 n => exact s_par3 C.calm C.nd p1.1 p2.1 p3.1 h3.1.1.2 h3.1.2 h3.2 (by rw [C.sc]; exact g1) (by rw [C.sc]; exact g2) (by rw [C.sc]; exact g3) ha hw tup_swap
    · cases h3
theorem par_swap {t1 t2 e1 e2 : Expr} {k k2 : Nat} {p p2 : Pos} {env : Env} {o i : Expr} {q : Pos} (h : t1 = .Subscript o i q) : swappedStores [.Tuple [t1, t2] k p] (.Tuple [e1, e2] k2 p2) env = pure none := by
  subst h
  unfold swappedStores
  simp only []
  split
  · rfl
  split
  · rfl
  split
  · rfl
  rename_i c3
  exfalso
  simp only [Bool.or_eq_true, bne_iff_ne, not_or, Decidable.not_not] at c3
  have c5 := List.filterMap_length_eq_length.mp c3.1 _ (List.mem_cons_self ..)
  cases c5
mutual
theorem sndS : ∀ (c : CS) {s : Stmt}, Cxt x G cl L X W k → PassesOwn (model X.prog X.w) X.A X.env X.xe → chkS c L s = true → PS X s (tS x W (evS G cl c))
  | .expr e, s, C, hP, h => by
    simp only [chkS] at h
    split at h
    · simp only [Bool.and_eq_true] at h
      refine s_cong (s_expr (sndE e C h.1).v (noSwap_of h.2)) fun ρ h => ?_
      simp only [evS]; cases evE G cl e ρ h <;> rfl
    · cases h
  | .set i e, s, C, hP, h => by
    simp only [chkS] at h
    split at h
    · rename_i y py e' pos
      simp only [Bool.and_eq_true, Bool.or_eq_true] at h
      obtain ⟨⟨h1, h2⟩, h3⟩ := h
      have hh : PS X (.Assign [.Name y py] e' pos) (tS x W fun ρ h => RS.of ρ (evE G cl e ρ h) fun d h => .nx (ρ.set i (some d)) h) := by
        cases hs : swC L e' y py with
        | true => exact s_setSw C h1 h2 hs (by rcases h3 with h3 | h3; (rw [hs] at h3; cases h3); exact h3)
        | false => exact s_plc C h1 (sndE e C h2).v (by rw [swC_of C.kind C.sc, hs])
      refine s_cong hh fun ρ h => ?_
      simp only [evS]; cases evE G cl e ρ h <;> rfl
    · cases h
  | .unp is e, s, C, hP, h => by
    simp only [chkS] at h
    split at h
    · simp only [Bool.and_eq_true] at h
      obtain ⟨⟨h1, h2⟩, h3⟩ := h
      refine s_cong (s_asg (sndE e C h2).v (g_tup C.K C.calm C.nd (C.nms h1)) tup_swap (notTup_of h3) rfl) fun ρ h => ?_
      simp only [evS]; cases evE G cl e ρ h <;> rfl
    · cases h
  | .par is es, s, C, hP, h => by
    simp only [chkS] at h
    split at h
    · simp only [Bool.and_eq_true, decide_eq_true_eq] at h
      obtain ⟨⟨⟨h1, h2⟩, h3⟩, h4⟩ := h
      refine s_cong (s_par C h1 (sndEs es C h2) h3 h4) fun ρ h => ?_
      simp only [evS]; cases evEs G cl es ρ h <;> rfl
    · cases h
  | .setIx o i v, s, C, hP, h => by
    simp only [chkS] at h
    split at h
    · simp only [Bool.and_eq_true] at h
      obtain ⟨⟨⟨h1, h2⟩, h3⟩, h4⟩ := h
      refine s_cong (s_setIx C.K C.P C.w C.u (sndE v C h3).v (sndE o C h1).v (sndE i C h2).v (plainIx_asg h4) sub_swap sub_stores) fun ρ h => ?_
      simp only [evS]; generalize (evE G cl v ρ h).bind _ = r; cases r <;> rfl
    · cases h
  | .parIx o1 i1 o2 i2 v1 v2, s, C, hP, h => by
    simp only [chkS] at h
    split at h
    · simp only [Bool.and_eq_true] at h
      obtain ⟨⟨⟨⟨⟨⟨⟨⟨⟨h1, h2⟩, h3⟩, h4⟩, h5⟩, h6⟩, h7⟩, h8⟩, h9⟩, h10⟩ := h
      refine s_cong (s_parIx C.K C.P C.w C.u C.calm (sndE v1 C h5).v (sndE v2 C h6).v h9 h10 (sndE o1 C h1).v (sndE i1 C h2).v (sndE o2 C h3).v (sndE i2 C h4).v (plainIx_asg h7) (plainIx_asg h8) tup_swap (par_swap rfl)) fun ρ h => ?_
      simp only [evS]; generalize (evE G cl v1 ρ h).bind _ = r; cases r <;> rfl
    · cases h
  | .aug i op e, s, C, hP, h => by
    simp only [chkS] at h
    split at h
    · simp only [Bool.and_eq_true, decide_eq_true_eq] at h
      obtain ⟨⟨h1, rfl⟩, h2⟩ := h
      refine s_cong (s_aug C.nd (C.plc h1) (sndE e C h2).v) fun ρ h => ?_
      simp only [evS]; generalize (R.opt h (atS ρ i)).bind _ = r; cases r <;> rfl
    · cases h
  | .augIx o i op e, s, C, hP, h => by
    simp only [chkS] at h
    split at h
    · simp only [Bool.and_eq_true, decide_eq_true_eq] at h
      obtain ⟨⟨⟨⟨rfl, h1⟩, h2⟩, h3⟩, h4⟩ := h
      refine s_cong (s_augIx C.K C.P C.w C.u (sndE o C h1).v (sndE i C h2).v (sndE e C h3).v (plainIx_aug h4)) fun ρ h => ?_
      simp only [evS]; generalize (evE G cl o ρ h).bind _ = r; cases r <;> rfl
    · cases h
  | .ret e, s, C, hP, h => by
    simp only [chkS] at h
    split at h
    · refine s_cong (s_ret (sndE e C h).v) fun ρ h => ?_
      simp only [evS]; cases evE G cl e ρ h <;> rfl
    · unfold isNon at h
      split at h
      · exact s_cong s_retN fun ρ h => rfl
      · cases h
    · cases h
  | .ife c a b, s, C, hP, h => by
    simp only [chkS] at h
    split at h
    · simp only [Bool.and_eq_true] at h
      obtain ⟨⟨h1, h2⟩, h3⟩ := h
      refine s_cong (s_if (sndE c C h1).t (sndSs a C hP h2) (sndSs b C hP h3)) fun ρ h => ?_
      simp only [evS, ifS]
      cases evE G cl c ρ h with
      | ok d h => cases d <;> try rfl
                  rename_i b; cases b <;> rfl
      | _ => rfl
    · cases h
  | .fore tg it body kill, s, C, hP, h => by
    simp only [chkS] at h
    split at h
    · simp only [Bool.and_eq_true] at h
      obtain ⟨⟨⟨h1, h2⟩, h3⟩, h4⟩ := h
      refine s_cong (s_for (kill := kill) hP C.calm (sndI it C h1) (C.tg h2) (sndSs body C hP h3) (ns_of h4)) fun ρ h => ?_
      simp only [evS, forS]
      rfl
    · cases h
  | .whle c body kill, s, C, hP, h => by
    simp only [chkS] at h
    split at h
    · simp only [Bool.and_eq_true] at h
      refine s_cong (s_while (kill := kill) (fuel := G.fuel) hP (sndE c C h.1).t (sndSs body C hP h.2)) fun ρ h => ?_
      simp only [evS, whlS]
    · cases h
  | .brk, s, C, hP, h => by
    simp only [chkS] at h
    split at h
    · exact s_cong s_brk fun ρ h => by simp only [evS]
    · cases h
  | .cnt, s, C, hP, h => by
    simp only [chkS] at h
    split at h
    · exact s_cong s_cnt fun ρ h => by simp only [evS]
    · cases h
  | .pass, s, C, hP, h => by
    simp only [chkS] at h
    split at h
    · exact s_cong s_pass fun ρ h => by simp only [evS]
    · exact s_cong s_doc fun ρ h => by simp only [evS]
    · cases h
  | .raise _ _, s, C, hP, h => by simp [chkS] at h
  | .never, s, C, hP, h => PS.bad fun ρ h => by simp only [evS]
theorem sndSs : ∀ (c : CSs) {s : List Stmt}, Cxt x G cl L X W k → PassesOwn (model X.prog X.w) X.A X.env X.xe → chkSs c L s = true → PSs X s (tS x W (evSs G cl c))
  | .nil, s, C, hP, h => by
    cases s with
    | nil =>
      have : evSs G cl .nil = fun ρ h => .nx ρ h := by funext ρ h; simp only [evSs]
      rw [this]; exact s_nil
    | cons _ _ => simp [chkSs] at h
  | .cons c r, s, C, hP, h => by
    simp only [chkSs] at h
    split at h
    · simp only [Bool.and_eq_true] at h
      have : evSs G cl (.cons c r) = seqS (evS G cl c) (evSs G cl r) := by
        funext ρ h; simp only [evSs, seqS]; try (cases evS G cl c ρ h <;> rfl)
      rw [this]; exact s_cons (sndS c C hP h.1) (sndSs r C hP h.2)
    · cases h
end
end
end Rw
set_option Elab.async false
set_option linter.all false
set_option autoImplicit false
set_option maxRecDepth 100000
set_option maxHeartbeats 4000000
namespace Rw
open PySem PySem.Spec PyProof.Rows L2

/-! ## defs -/
structure DI where
  name : Str
  ps : List Str
  N : List Str
  params : Arguments
  body : List Stmt
  scope : Scope
  core : CSs
def DI.loc (d : DI) (defs globs : List Str) : Loc := ⟨d.N, d.scope, fun _ => true, defs, globs⟩
def scopeB (N ps : List Str) (sc : Scope) : Bool :=
  decide (sc.kind = .function) && !sc.isCoroutine && !sc.isGenerator && decide (N.Nodup) && decide (N.take ps.length = ps) && ps.all (fun y => decide (sc.names.lookup y = some .local) || decide (sc.names.lookup y = some .cell)) && sc.names.all fun y => !decide (y.2 = .free)
theorem scope_of {N ps : List Str} {sc : Scope} (h : scopeB N ps sc = true) : FnScope N ps sc := by
  unfold scopeB at h
  simp only [Bool.and_eq_true, decide_eq_true_eq, Bool.not_eq_true'] at h
  obtain ⟨⟨⟨⟨⟨⟨h1, h2⟩, h3⟩, h4⟩, h5⟩, h6⟩, h7⟩ := h
  refine ⟨h1, h2, h3, h4, h5, fun y hy => ?_, fun y hy e => ?_⟩
  · have := List.all_eq_true.mp h6 y hy
    simpa using this
  · have := List.all_eq_true.mp h7 y hy
    simp [e] at this
def skipDoc : List Stmt → List Stmt
  | .Expr (.Constant (.str _) _ _) _ :: r => r
  | r => r
def DI.ok (defs globs : List Str) (d : DI) : Bool := scopeB d.N d.ps d.scope && chkSs d.core (d.loc defs globs) (skipDoc d.body)
structure World1 (x : Gx) (ds : List DI) (globs : List Str) (gv : List D) (mg : Str → Option Value) (fd : Nat → FuncData) : Prop where
  fn : ∀ (i : Nat) (d : DI), ds[i]? = some d → FunD x.K d.name d.name d.params d.body d.scope [] [] (x.fa i) (fd i)
  at_ : ∀ (i : Nat) (d : DI), ds[i]? = some d → mg d.name = some (.ref (x.fa i))
  bd : ∀ (i : Nat) (d : DI), ds[i]? = some d → ∀ (kV doc pm : Value) (an : Option Addr) (cdv ct : Value) (us : List Value), us.length = d.ps.length → bindArgs (PySem.W.fnOf d.name d.name d.params d.body d.scope .none kV doc pm an cdv ct) ⟨us, []⟩ = pure (d.ps.zip us)
  ok : ∀ d ∈ ds, d.ok (ds.map (·.name)) globs = true
  bl : ∀ nm ∈ blts, mg nm = none
  gl : ∀ (i : Nat) (nm : Str), globs[i]? = some nm → ∃ d v u, gv[i]? = some d ∧ mg nm = some u ∧ RelV v u ∧ ∀ π H, RV x π H d v
def geOf (ds : List DI) (gv : List D) (fuel : Nat) (G : GE) : Prop := G.globs = gv ∧ G.fuel = fuel ∧ G.fns = ds.map fun d => ⟨d.ps.length, d.N.length, d.core⟩
section
variable {x : Gx} {ds : List DI} {globs : List Str} {gv : List D} {mg : Str → Option Value} {fd : Nat → FuncData} {G : GE} {base : Heap} {fuel : Nat}
theorem start_st {π : Nm} {H : Hp} {vs : List V} {args : List D} {N : List Str} (r : RVs x π H args vs) : RSt x π H (startS N.length args) (L2.start N vs) := by
  have hl := r.length
  refine ⟨by simp [startS, L2.start, hl], fun i d e => ?_⟩
  unfold startS at e
  unfold L2.start
  by_cases hi : i < args.length
  · rw [List.getElem?_append_left (by simpa using hi), List.getElem?_map] at e
    cases ea : args[i]? with
    | none => rw [ea] at e; cases e
    | some d' =>
      rw [ea] at e
      cases e
      obtain ⟨v, ev, rv⟩ := r.get ea
      exact ⟨v, by rw [List.getElem?_append_left (by simp; omega), List.getElem?_map, ev]; rfl, rv⟩
  · rw [List.getElem?_append_right (by simpa using hi), List.length_map, List.getElem?_replicate] at e
    split at e <;> cases e
theorem pss_doc {X : Cx} {W : L2.WX} {m : St → AH → RS} {body : List Stmt} (h : PSs X (skipDoc body) (tS x W m)) : PSs X body (tS x W m) := by
  unfold skipDoc at h
  split at h
  · refine PSs.imp (s_cons s_doc h) fun E σ H p => ?_
    exact p
  · exact h
theorem callF_len {n i : Nat} {d : DI} (hG : geOf ds gv fuel G) (hd : ds[i]? = some d) (as : List D) (h : AH) (hb : callF G n i as h ≠ .bad) : as.length = d.ps.length := by
  cases n with
  | zero => exact absurd rfl hb
  | succ n =>
    unfold callF at hb
    rw [hG.2.2, List.getElem?_map, hd] at hb
    dsimp only [Option.map] at hb
    split at hb
    · assumption
    · exact absurd rfl hb
theorem fns_ok (W1 : World1 x ds globs gv mg fd) (hG : geOf ds gv fuel G) : ∀ (n i : Nat) (d : DI), ds[i]? = some d → FnOk x.P x.w x.K mg base (L2.CX x.P x.w) n (x.fa i) (fd i) d.ps (spD x d.ps.length (callF G n i))
  | 0, i, d, hd => by
    refine ⟨fun vs H Q E h => ?_, fun A outer s H args us vs Q E hr e0 hb r h => ?_⟩
    · exact spD_len rfl vs H Q E h
    · obtain ⟨π, h, as, _, _, _, p⟩ := h
      exact p.elim
  | n + 1, i, d, hd => by
    have hok := W1.ok d (List.mem_of_getElem? hd)
    unfold DI.ok at hok
    simp only [Bool.and_eq_true] at hok
    have S := scope_of hok.1
    refine (W1.fn i d hd).ok S (spD_len rfl) fun cdv A outer s H vs Q E hr h => ?_
    let X := cxOf (L2.CX x.P x.w) x.P x.w x.K mg base d.N d.name d.scope (x.fa i) cdv A outer s H E
    let W : L2.WX := fun cls d _ H => E cls d H
    have C : Cxt x G (callF G n) (d.loc (ds.map (·.name)) globs) X W n :=
      { N := rfl, sc := rfl, kind := S.kind, nd := S.nd, fn := fun _ _ => rfl, K := rfl, P := rfl, w := rfl, calm := rfl
        u := by have := hr.un; show (A.deeper _).units + 100 < cLine; omega
        room := hr
        tk := takes_of rfl rfl rfl rfl
        bl := W1.bl
        defs := fun j nm hj => by
          have hj : (ds.map (·.name))[j]? = some nm := hj
          rw [List.getElem?_map] at hj
          cases ej : ds[j]? with
          | none => rw [ej] at hj; cases hj
          | some dj =>
            rw [ej] at hj
            cases hj
            exact ⟨dj.ps.length, fd j, dj.ps, fns_ok W1 hG n j dj ej, W1.at_ j dj ej, (W1.fn j dj ej).kp, (W1.fn j dj ej).bindsN (W1.bd j dj ej), fun as h hb => callF_len hG ej as h hb⟩
        globs := fun j nm hj => by rw [hG.1]; exact W1.gl j nm hj }
    have hb := pss_doc (sndSs d.core C (passes_of rfl) hok.2)
    refine ⟨_, hb, ?_⟩
    obtain ⟨π, h0, as, hl, w, r, p⟩ := h
    refine ⟨π, startS d.N.length as, h0, ⟨start_st r, w⟩, ?_⟩
    unfold callF at p
    rw [hG.2.2, List.getElem?_map, hd] at p
    dsimp only [Option.map] at p
    rw [if_pos hl] at p
    have p2 := PostF.ret w p
    cases e : evSs G (callF G n) d.core (startS d.N.length as) h0 with
    | nx ρ h => rw [e] at p2; exact fun π' H' σ' k b => p2 π' H' .non k b.wd .non
    | rt d h => rw [e] at p2; exact fun π' H' v k w r => p2 π' H' v k w r
    | ex c q ρ h => rw [e] at p2; exact fun π' H' σ' cls d k b r => p2 π' H' cls d k b.wd r
    | bk ρ h => rw [e] at p2; exact p2.elim
    | ct ρ h => rw [e] at p2; exact p2.elim
    | bad => rw [e] at p2; exact p2.elim
end
end Rw
set_option Elab.async false
set_option linter.all false
set_option autoImplicit false
set_option maxRecDepth 100000
set_option maxHeartbeats 4000000
namespace Rw
open PySem PySem.Spec PyProof.Rows L2

/-! ## the head -/
def isLst (o : Obj) : Bool := match o.cls with
  | .type c => c == "list"
  | _ => false
def NoL (K : PySem.W.Frag) : Prop := ∀ a o, K.lookup a = some o → o.cls ≠ .type "list"
def asL (n : Nat) (g : Addr → Option Obj) : List Addr := (He.asD g n).filter fun a => match g a with
  | some o => !isLst o
  | none => false
theorem mem_lookup {α β : Type} [BEq α] [LawfulBEq α] {a : α} {b : β} : ∀ {l : List (α × β)}, l.lookup a = some b → (a, b) ∈ l
  | (c, d) :: l, e => by
    rw [List.lookup_cons] at e
    cases h : a == c with
    | true => rw [h] at e; cases e; rw [eq_of_beq h]; exact List.mem_cons_self ..
    | false => rw [h] at e; exact List.mem_cons_of_mem _ (mem_lookup e)
theorem noL (n : Nat) (g : Addr → Option Obj) : NoL (He.frG g (asL n g)) := by
  intro a o e z
  have hg := He.frG_at _ e
  have hm : a ∈ asL n g := by
    have := mem_lookup e
    unfold He.frG at this
    obtain ⟨b, hb, e2⟩ := List.mem_filterMap.mp this
    cases hgb : g b with
    | none => rw [hgb] at e2; cases e2
    | some o' => rw [hgb] at e2; cases e2; exact hb
  have := (List.mem_filter.mp hm).2
  rw [hg] at this
  simp [isLst, z] at this
def obsL (n : Nat) (fa : List He.Fa) (fn : List He.DefD) (g : Addr → Option Obj) : He.AlD := He.obsD fa fn (He.frG g (asL n g))
def hookL (n : Nat) (fa : List He.Fa) (fn : List He.DefD) : PySem.W.Hook where
  α := He.AlD
  obs := fun s => obsL n fa fn s.heap.get?
  val := fun _ => He.valD fn
  says := fun _ h => ∃ K : PySem.W.Frag, K.In h ∧ He.SaysD fa fn K ∧ NoL K
  of := fun _ _ e => ⟨_, He.frG_in, e, noL n _⟩
  keeps := fun _ _ _ ⟨K, hK, c, nl⟩ k => ⟨K, PySem.W.Frag.In.keeps hK k, c, nl⟩
theorem obsL_eq {n : Nat} {fa : List He.Fa} {fn : List He.DefD} {g : Addr → Option Obj} {s : Shared} (h : ∀ a, g a = s.heap.get? a) : obsL n fa fn g = (hookL n fa fn).obs s := by
  have e : g = s.heap.get? := funext h
  rw [e] <;> rfl
def DI.toD (d : DI) : He.DefD := ⟨(d.name, none), d.name, d.name, d.params, d.body, d.scope, [], []⟩
def gfa : Str × D → List He.Fa
  | (x, .int i) => [.int x i]
  | (x, .str z) => [.str x z]
  | _ => []
def gsup : D → Bool
  | .int _ => true
  | .str _ => true
  | _ => false
def faL (ds : List DI) (globs : List Str) (gv : List D) : List He.Fa := (ds.map fun d => He.Fa.glo d.name) ++ (blts.map He.Fa.free ++ (globs.zip gv).flatMap gfa)
def bdOk (d : DI) : Prop := ∀ (kV doc pm : Value) (an : Option Addr) (cdv ct : Value) (us : List Value), us.length = d.ps.length → bindArgs (PySem.W.fnOf d.name d.name d.params d.body d.scope .none kV doc pm an cdv ct) ⟨us, []⟩ = pure (d.ps.zip us)
def gxOf (P : Program) (w : World) (K : PySem.W.Frag) (ds : List DI) : Gx := ⟨P, w, K, fun i => He.ga K ((ds[i]?.map (·.name)).getD ⟨#[]⟩), fun _ => 0, fun _ => none⟩
section
variable {ds : List DI} {globs : List Str} {gv : List D} {mg : Str → Option Value} {G : GE} {fuel : Nat} {P : Program} {w : World} {K : PySem.W.Frag} {h : Heap}
theorem world_of (X : K.In h) (N : h.Ns mainGlobals mg) (c : He.SaysD (faL ds globs gv) (ds.map DI.toD) K) (hok : ∀ d ∈ ds, d.ok (ds.map (·.name)) globs = true) (hb : ∀ d ∈ ds, bdOk d) (hgv : globs.length = gv.length) (hgs : gv.all gsup = true) :
    ∃ fd, World1 (gxOf P w K ds) ds globs gv mg fd := by
  have hfn : ∀ i, ∃ fd : FuncData, ∀ d, ds[i]? = some d → FunD K d.name d.name d.params d.body d.scope [] [] ((gxOf P w K ds).fa i) fd := by
    intro i
    cases hd : ds[i]? with
    | none => exact ⟨Classical.choice ⟨PySem.W.fnOf ⟨#[]⟩ ⟨#[]⟩ ⟨[], [], none, [], [], none, []⟩ [] (relS default default) .none .none .none .none none .none .none⟩, fun d e => by cases e⟩
    | some d =>
      obtain ⟨fd, F⟩ := c.def_ i (d := d.toD) (by rw [List.getElem?_map, hd]; rfl)
      refine ⟨fd, fun d' e => ?_⟩
      cases e
      have : (gxOf P w K ds).fa i = He.fAd K d.toD.at_ := by
        show He.ga K ((ds[i]?.map (·.name)).getD ⟨#[]⟩) = _
        rw [hd]; rfl
      rw [this]
      exact F
  obtain ⟨fd, hfd⟩ := Classical.skolem.mp hfn
  refine ⟨fd, ⟨fun i d hd => hfd i d hd, fun i d hd => ?_, fun i d hd => hb d (List.mem_of_getElem? hd), hok, fun nm hn => ?_, fun i nm hi => ?_⟩⟩
  · have := He.glo_ok X N (c.facts (f := .glo d.name) (by
      unfold faL
      exact List.mem_append_left _ (List.mem_map.mpr ⟨d, List.mem_of_getElem? hd, rfl⟩)))
    rw [this]
    show some (Value.ref (He.ga K d.name)) = some (.ref (He.ga K ((ds[i]?.map (·.name)).getD ⟨#[]⟩)))
    rw [hd]; rfl
  · exact He.free_ok X N (c.facts (f := .free nm) (by
      unfold faL
      exact List.mem_append_right _ (List.mem_append_left _ (List.mem_map.mpr ⟨nm, hn, rfl⟩))))
  · have hl : i < gv.length := by
      rw [← hgv]
      exact (List.getElem?_eq_some_iff.mp hi).1
    have hgi : gv[i]? = some gv[i] := List.getElem?_eq_getElem hl
    have hz : (nm, gv[i]) ∈ globs.zip gv := List.mem_of_getElem? (i := i) (by rw [List.getElem?_zip_eq_some]; exact ⟨hi, hgi⟩)
    have hs := List.all_eq_true.mp hgs gv[i] (List.mem_of_getElem? hgi)
    have fact : ∀ f, f ∈ gfa (nm, gv[i]) → f ∈ faL ds globs gv := fun f hf => by
      unfold faL
      exact List.mem_append_right _ (List.mem_append_right _ (List.mem_flatMap.mpr ⟨_, hz, hf⟩))
    cases hv : gv[i] with
    | int j =>
      rw [hv] at fact hgi
      obtain ⟨t, ht⟩ := He.int_ok X N (c.facts (fact _ (List.mem_singleton.mpr rfl)))
      exact ⟨_, .int j, _, hgi, ht, ⟨_, rfl⟩, fun π H => .int j⟩
    | str z =>
      rw [hv] at fact hgi
      obtain ⟨t, ht⟩ := He.str_ok X N (c.facts (fact _ (List.mem_singleton.mpr rfl)))
      exact ⟨_, .str z, _, hgi, ht, ⟨_, rfl⟩, fun π H => .str z⟩
    | _ => rw [hv] at hs; cases hs
/-! ## the law -/
theorem ints_rv {x : Gx} {π : Nm} {H : Hp} : ∀ ns : List Int, RVs x π H (ns.map D.int) (ns.map V.int)
  | [] => .nil
  | n :: ns => .cons (.int n) (ints_rv ns)
theorem law_entry {x : Gx} {cl : List D → AH → R D} {H : Hp} {a : Addr} {ns : List Int} {h' : AH} (nl : NoL x.K) (hO : Only H) (hS : SqL x.K H a (ns.map V.int)) (hc : cl [.ref 0] [.lst (ns.map D.int) true] = .ok (.bl true) h') :
    spD x 1 cl [.ref a] H (fun v _ => v = .bl true) fun _ _ _ => False := by
  have ha : ∃ o, H a = some (.frz o (.lst (ns.map V.int))) := by
    rcases hS with hS | ⟨o, its, n, e1, e2, _⟩
    · rcases hS with hS | hS
      · rcases hO a with z | ⟨o, xs, z⟩
        · rw [z] at hS; cases hS
        · rw [z] at hS; cases hS
      · exact hS
    · exact absurd e2 (nl a o e1)
  refine ⟨⟨[a], []⟩, [.lst (ns.map D.int) true], [.ref 0], rfl, ⟨rfl, by simp, fun p hp => (by cases hp), fun n o b e1 e2 => ?_⟩, .cons (.ref rfl) .nil, ?_⟩
  · cases n with
    | zero =>
      cases e1; cases e2
      exact .lst (ints_rv ns) (by show ∃ o, _; exact ha)
    | succ n => cases e1
  · rw [hc]
    exact fun π' H' v _ _ r => rv_bl r
end
theorem walk_ofR {l : PySem.W.OpenLaw} {n k N li : Nat} {q : Program} {loose : List Str} {XP : (Str → Option Value) → Heap → Prop} {d : DefRec} {ds : List DI} {globs : List Str} {gv : List D} {dl : DI} {G : GE} {fuel : Nat}
    (hn : l.most = some n) (hn2 : n ≤ sizeLine) (hdf : d.params.defaults = []) (hr : Room k callerA) (hdn : d.name = dl.name) (hps : dl.ps.length = 1) (hG : geOf ds gv fuel G)
    (hok : ∀ d ∈ ds, d.ok (ds.map (·.name)) globs = true) (hb : ∀ d ∈ ds, bdOk d) (hgv : globs.length = gv.length) (hgs : gv.all gsup = true) (hl : ds[li]? = some dl)
    (run : ∀ ns : List Int, ns.length ≤ n → (∀ z ∈ ns, Builtin.Int.intBits z ≤ 1048576) → ∃ h', callF G k li [.ref 0] [.lst (ns.map D.int) true] = .ok (.bl true) h') :
    PySem.W.WalkO q loose XP (hookL N (faL ds globs gv) (ds.map DI.toD)).says l.row.toRowW d [] (fun f vs => PySem.call f vs) := by
  refine Att.attach_callB hn hdf fun w s₀ s₁ mg mb fa o pm cd doc a vs ns Gd Y ho hd hcd hmg hobj hints hlen hbits hg => ?_
  obtain ⟨K, KX, c, nl⟩ := Y
  obtain ⟨fd, W1⟩ := world_of (P := l.prog) (w := w) KX Gd.T.g c hok hb hgv hgs
  have hat := W1.at_ li dl hl
  have hfa : fa = (gxOf l.prog w K ds).fa li := by
    rw [hdn, hat] at hmg
    exact (Value.ref.inj (Option.some.inj hmg)).symm
  obtain ⟨p, hp⟩ : ∃ p, dl.ps = [p] := by
    match dl.ps, hps with
    | [p], _ => exact ⟨p, rfl⟩
  have bind : ∀ (s : Shared) (u : Value), BindsTo s (fd li) ⟨[u], []⟩ [(p, u)] := fun s u => by
    have := (W1.fn li dl hl).bindsA (W1.bd li dl hl) s [u] (by rw [hps]; rfl)
    rw [hp] at this
    exact this
  have F : ∀ base : Heap, K.In base → base.Ns mainGlobals mg → FnOk l.prog w K mg base (L2.CX l.prog w) k fa (fd li) [p] (spD (gxOf l.prog w K ds) 1 (callF G k li)) := fun base _ _ => by
    have := fns_ok (base := base) W1 hG k li dl hl
    rw [hps] at this
    rw [hp] at this
    rw [hfa]
    exact this
  exact law_call KX Gd.T.g Gd.T.b Gd.T.builtins Gd.T.nolimit hg hobj hints (Nat.le_trans hlen hn2) hr F bind (fun H hO hS => by
    obtain ⟨h', e⟩ := run ns hlen hbits
    exact law_entry nl hO hS e) fun H e s' ⟨_, _, _, _, _, _, _, _, _, _, _, _, z⟩ => z
end Rw
set_option Elab.async false
set_option linter.all false
set_option maxRecDepth 100000
set_option maxHeartbeats 4000000
namespace Rw
open PySem PySem.W

/-! ## data with a Lean type, as D -/
class En (α : Type) [DecidableEq α] extends DatumOrd α where
  enc : α → D
  pd : ∀ (h : AH) (a : α) (k : Nat), Datum.depth α < k → (enc a).pd h k = some (Datum.toD a)
  toP : ∀ a : α, (enc a).toP = Datum.toD a
  data : ∀ a : α, (enc a).data = true
  flat : ∀ a : α, (enc a).flat = true
  lay : ∀ a : α, (Datum.toD a).canLay0 = true
end Rw
namespace Rw
open PySem PySem.W En
theorem mapM_someV {α β : Type} {f : α → Option β} {g : α → β} : ∀ {xs : List α}, (∀ x ∈ xs, f x = some (g x)) → xs.mapM f = some (xs.map g)
  | [], _ => rfl
  | x :: xs, h => by
    rw [List.mapM_cons, h x (List.mem_cons_self ..), mapM_someV fun y hy => h y (List.mem_cons_of_mem _ hy)]
    rfl
theorem toPs_mapV {α : Type} [DecidableEq α] [En α] : ∀ xs : List α, D.toPs (xs.map enc) = xs.map Datum.toD
  | [] => rfl
  | x :: xs => by rw [List.map_cons, D.toPs, toP, toPs_mapV xs]; rfl
theorem datas_map {α : Type} [DecidableEq α] [En α] : ∀ xs : List α, D.datas (xs.map enc) = true
  | [] => rfl
  | x :: xs => by rw [List.map_cons, D.datas, data, datas_map xs]; rfl
theorem flats_map {α : Type} [DecidableEq α] [En α] : ∀ xs : List α, D.flats (xs.map enc) = true
  | [] => rfl
  | x :: xs => by rw [List.map_cons, D.flats, flat, flats_map xs]; rfl
theorem lays_map {α : Type} [DecidableEq α] [En α] : ∀ xs : List α, PyData.canLayAll0 (xs.map Datum.toD) = true
  | [] => rfl
  | x :: xs => by rw [List.map_cons, PyData.canLayAll0, lay, lays_map xs]; rfl
instance : En Int where
  enc := .int
  pd h a k hk := by cases k with | zero => cases hk | succ k => rfl
  toP _ := rfl
  data _ := rfl
  flat _ := rfl
  lay _ := rfl
instance : En Bool where
  enc := .bl
  pd h a k hk := by cases k with | zero => cases hk | succ k => rfl
  toP _ := rfl
  data _ := rfl
  flat _ := rfl
  lay _ := rfl
section
variable {α β : Type} [DecidableEq α] [En α] [DecidableEq β] [En β]
instance : En (Tup α) where
  enc t := .tup (t.items.map enc)
  pd h t k hk := by
    cases k with
    | zero => cases hk
    | succ k =>
      have hk2 : Datum.depth α < k := by
        have : Datum.depth (Tup α) = Datum.depth α + 1 := rfl
        omega
      show ((t.items.map enc).mapM (D.pd h k)).map PyData.tuple = _
      rw [mapM_someV (g := D.toP) (fun x hx => by
        obtain ⟨a, _, e⟩ := List.mem_map.mp hx
        rw [← e, pd h a k hk2, toP])]
      show some (PyData.tuple _) = some (PyData.tuple _)
      rw [List.map_map]
      exact congrArg (fun z => some (PyData.tuple z)) (List.map_congr_left fun a _ => toP a)
  toP t := by
    show D.toP (.tup _) = PyData.tuple _
    rw [D.toP, toPs_mapV]
  data t := datas_map t.items
  flat t := flats_map t.items
  lay t := lays_map t.items
instance : En (α × β) where
  enc p := .tup [enc p.1, enc p.2]
  pd h p k hk := by
    cases k with
    | zero => cases hk
    | succ k =>
      have hk2 : Datum.depth α < k ∧ Datum.depth β < k := by
        have : Datum.depth (α × β) = max (Datum.depth α) (Datum.depth β) + 1 := rfl
        omega
      show (([enc p.1, enc p.2]).mapM (D.pd h k)).map PyData.tuple = _
      simp [List.mapM_cons, pd h p.1 k hk2.1, pd h p.2 k hk2.2]
      rfl
  toP p := by
    show D.toP (.tup _) = PyData.tuple _
    simp [D.toP, D.toPs, toP]
  data p := by simp [D.data, D.datas, data]
  flat p := by simp [D.flat, D.flats, flat]
  lay p := by
    show (PyData.tuple [_, _]).canLay0 = true
    simp [PyData.canLay0, PyData.canLayAll0, lay]
/-! ### == and in -/
theorem shaped_en {a : α} (hd : Datum.depth α < 60) : SeqAt.shaped (Datum.toD a) = true := by
  have := Datum.depth_le a
  unfold SeqAt.shaped
  rw [lay, Bool.true_and, decide_eq_true_eq]
  omega
theorem cmpEq_en (h : AH) (a b : α) (hd : Datum.depth α < 60) : cmpEq h (enc a) (enc b) = some (decide (a = b)) := by
  unfold cmpEq
  rw [pd h a 60 hd, pd h b 60 hd]
  show (if _ then _ else _) = _
  rw [shaped_en hd, shaped_en hd, Bool.and_true, if_pos rfl, Datum.eqv]
theorem any_en (a : α) (xs : List α) : ((xs.map Datum.toD).any fun z => PyData.eqv z (Datum.toD a)) = decide (a ∈ xs) := any_datum xs a
theorem seqIn_tup (h : AH) (a : α) (xs : List α) (hd : Datum.depth α < 58) : seqIn h (enc a) (.tup (xs.map enc)) = some (decide (a ∈ xs)) := by
  have e := pd h (⟨xs⟩ : Tup α) 60 (show Datum.depth α + 1 < 60 by omega)
  have e2 : D.pd h 60 (.tup (xs.map enc)) = some (.tuple (xs.map Datum.toD)) := e
  unfold seqIn
  rw [pd h a 60 (by omega), e2]
  show (if _ then _ else _) = _
  rw [shaped_en (by omega), lays_map, Bool.and_true, if_pos rfl, any_en]
theorem seqIn_lst (h : AH) (n : Nat) (lk : Bool) (a : α) (xs : List α) (hn : h[n]? = some (.lst (xs.map enc) lk)) (hd : Datum.depth α < 58) : seqIn h (enc a) (.ref n) = some (decide (a ∈ xs)) := by
  have e2 : D.pd h 60 (.ref n) = some (.list (xs.map Datum.toD)) := by
    show (match h[n]? with | some (.lst xs _) => (xs.mapM (D.pd h 59)).map PyData.list | _ => none) = _
    rw [hn]
    show ((xs.map enc).mapM (D.pd h 59)).map PyData.list = _
    rw [mapM_someV (g := D.toP) (fun x hx => by
      obtain ⟨a, _, e⟩ := List.mem_map.mp hx
      rw [← e, pd h a 59 (by omega), toP])]
    show some (PyData.list _) = some (PyData.list _)
    rw [List.map_map]
    exact congrArg (fun z => some (PyData.list z)) (List.map_congr_left fun a _ => toP a)
  unfold seqIn
  rw [pd h a 60 (by omega), e2]
  show (if _ then _ else _) = _
  rw [shaped_en (by omega), lays_map, Bool.and_true, if_pos rfl, any_en]
theorem cmpEq_lst (h : AH) (n m : Nat) (lk lk' : Bool) (xs ys : List α) (hn : h[n]? = some (.lst (xs.map enc) lk)) (hm : h[m]? = some (.lst (ys.map enc) lk')) (hd : Datum.depth α < 58) : cmpEq h (.ref n) (.ref m) = some (decide (xs = ys)) := by
  have e2 : ∀ (n : Nat) (lk : Bool) (xs : List α), h[n]? = some (.lst (xs.map enc) lk) → D.pd h 60 (.ref n) = some (Datum.toD xs) := fun n lk xs hn => by
    show (match h[n]? with | some (.lst xs _) => (xs.mapM (D.pd h 59)).map PyData.list | _ => none) = _
    rw [hn]
    show ((xs.map enc).mapM (D.pd h 59)).map PyData.list = _
    rw [mapM_someV (g := D.toP) (fun x hx => by
      obtain ⟨a, _, e⟩ := List.mem_map.mp hx
      rw [← e, pd h a 59 (by omega), toP])]
    show some (PyData.list _) = some (PyData.list _)
    rw [List.map_map]
    exact congrArg (fun z => some (PyData.list z)) (List.map_congr_left fun a _ => toP a)
  have e3 : ∀ xs : List α, SeqAt.shaped (Datum.toD xs) = true := fun xs => by
    have := Datum.depth_le xs
    have h2 : Datum.depth (List α) = Datum.depth α + 1 := rfl
    unfold SeqAt.shaped
    have : (Datum.toD xs).canLay0 = true := lays_map xs
    rw [this, Bool.true_and, decide_eq_true_eq]
    omega
  unfold cmpEq
  rw [e2 n lk xs hn, e2 m lk' ys hm]
  show (if _ then _ else _) = _
  rw [e3, e3, Bool.and_true, if_pos rfl, Datum.eqv]
/-! ### order -/
theorem ltB_en (a b : α) : ltB (enc a) (enc b) = DatumOrd.lt a b := by
  unfold ltB
  rw [toP, toP, DatumOrd.lt_eq]
theorem leD_en (a b : α) : leD (enc a) (enc b) = !DatumOrd.lt b a := by
  unfold leD
  rw [toP, toP, DatumOrd.lt_eq]
theorem alls_alike (xs : List α) : ((xs.map enc).all fun a => (xs.map enc).all fun b => PySem.W.alike a.toP b.toP) = true := by
  rw [List.all_eq_true]
  intro x hx
  obtain ⟨a, _, rfl⟩ := List.mem_map.mp hx
  rw [List.all_eq_true]
  intro y hy
  obtain ⟨b, _, rfl⟩ := List.mem_map.mp hy
  rw [toP, toP]
  exact DatumOrd.alike a b
theorem enc_ne_non (a : α) : enc a ≠ D.non := fun e => by
  have := toP a
  rw [e] at this
  exact DatumOrd.notNone a this.symm
theorem cmpable_en (xs : List α) (hd : Datum.depth α < 50) : cmpable (xs.map enc) = true := by
  unfold cmpable
  rw [datas_map, alls_alike, Bool.true_and, Bool.true_and, List.all_eq_true]
  intro x hx
  obtain ⟨a, _, rfl⟩ := List.mem_map.mp hx
  have := Datum.depth_le a
  rw [toP, decide_eq_true (enc_ne_non a), Bool.true_and, decide_eq_true_eq]
  omega
theorem leastD_en : ∀ (xs : List α) (x : α), leastD (xs.map enc) (enc x) = enc (minOf x xs)
  | [], _ => rfl
  | y :: ys, x => by
    show leastD (ys.map enc) (if ltB (enc y) (enc x) then enc y else enc x) = enc (minOf (if DatumOrd.lt y x = true then y else x) ys)
    rw [ltB_en]
    by_cases h : DatumOrd.lt y x = true
    · rw [if_pos h, if_pos h]; exact leastD_en ys y
    · rw [if_neg h, if_neg h]; exact leastD_en ys x
def insO (x : α) : List α → List α
  | [] => [x]
  | y :: ys => if DatumOrd.lt y x = true then y :: insO x ys else x :: y :: ys
def sortO : List α → List α
  | [] => []
  | x :: xs => insO x (sortO xs)
theorem insO_en (x : α) : ∀ ys : List α, insD leD (enc x) (ys.map enc) = (insO x ys).map enc
  | [] => rfl
  | y :: ys => by
    show (if leD (enc x) (enc y) = true then _ else _) = _
    rw [leD_en]
    unfold insO
    by_cases h : DatumOrd.lt y x = true
    · rw [if_pos h, h, if_neg (by simp), insO_en x ys]; rfl
    · rw [if_neg h, Bool.not_eq_true _ |>.mp h, if_pos (by simp)]; rfl
theorem isort_en : ∀ xs : List α, isortD leD (xs.map enc) = (sortO xs).map enc
  | [] => rfl
  | x :: xs => by
    show insD leD (enc x) (isortD leD (xs.map enc)) = _
    rw [isort_en xs, insO_en]; rfl
theorem sortD_en (xs : List α) (hd : Datum.depth α < 50) (hl : xs.length ≤ sizeLine) (hk : (∀ x ∈ xs, ∃ a r, enc x = .tup (a :: r)) ∨ (∀ x ∈ xs, ∀ ys, enc x ≠ .tup ys)) : sortD (xs.map enc) = some ((sortO xs).map enc) := by
  unfold sortD
  rw [if_pos, isort_en]
  unfold sortableD
  rw [datas_map, alls_alike, Bool.true_and, Bool.true_and]
  rw [decide_eq_true (by rw [List.length_map]; exact hl), Bool.and_true, Bool.and_eq_true]
  refine ⟨?_, ?_⟩
  rotate_left
  · rw [Bool.or_eq_true]
    rcases hk with e | e
    · left
      rw [List.all_eq_true]
      intro x hx
      obtain ⟨a, ha, rfl⟩ := List.mem_map.mp hx
      obtain ⟨b, r, e⟩ := e a ha
      rw [e]
    · right
      rw [List.all_eq_true]
      intro x hx
      obtain ⟨a, ha, rfl⟩ := List.mem_map.mp hx
      have h1 := e a ha
      have h2 := enc_ne_non a
      cases h3 : enc a with
      | tup ys => exact absurd h3 (h1 ys)
      | non => exact absurd h3 h2
      | _ => rfl
  rw [List.all_eq_true]
  intro x hx
  obtain ⟨a, _, rfl⟩ := List.mem_map.mp hx
  have := Datum.depth_le a
  rw [toP, decide_eq_true_eq]
  omega
theorem insO_mem (x z : α) : ∀ ys : List α, z ∈ insO x ys ↔ z = x ∨ z ∈ ys
  | [] => by simp [insO]
  | y :: ys => by
    unfold insO
    split
    · rw [List.mem_cons, insO_mem x z ys, List.mem_cons]
      constructor
      · rintro (h | h | h) <;> simp [h]
      · rintro (h | h | h) <;> simp [h]
    · simp
theorem insO_len (x : α) : ∀ ys : List α, (insO x ys).length = ys.length + 1
  | [] => rfl
  | y :: ys => by
    unfold insO
    split
    · simp [insO_len x ys]
    · simp
theorem sortO_mem (z : α) : ∀ xs : List α, z ∈ sortO xs ↔ z ∈ xs
  | [] => by simp [sortO]
  | x :: xs => by simp [sortO, insO_mem, sortO_mem z xs]
theorem sortO_len : ∀ xs : List α, (sortO xs).length = xs.length
  | [] => rfl
  | x :: xs => by simp [sortO, insO_len, sortO_len xs]
end
/-! ### keys -/
class Ky (α : Type) [DecidableEq α] extends En α where
  t : Bool
  k : α → NestedKey
  key : ∀ a : α, (enc a).key = some (t, k a)
  inj : ∀ a b : α, k a = k b → a = b
theorem nk_ints (xs : List Int) : (xs.map D.int).mapM (D.nk 7) = some (xs.map NestedKey.num) := by
  rw [mapM_someV (g := fun d => match d with | .int i => NestedKey.num i | _ => .none) (fun x hx => by
    obtain ⟨a, _, e⟩ := List.mem_map.mp hx
    rw [← e]; rfl), List.map_map]
  rfl
instance : Ky Int where
  t := false
  k := .num
  key _ := rfl
  inj a b h := by cases h; rfl
instance : Ky (Tup Int) where
  t := true
  k t := .tup (t.items.map .num)
  key t := by
    show (((t.items.map D.int).mapM (D.nk 7)).map NestedKey.tup).map _ = _
    rw [nk_ints]; rfl
  inj a b h := by
    have : a.items.map NestedKey.num = b.items.map NestedKey.num := by injection h
    have := List.map_inj_right (f := NestedKey.num) (fun x y e => by injection e) |>.mp this
    cases a; cases b; exact congrArg Tup.mk this
section
variable {α β : Type} [DecidableEq α] [Ky α]
theorem sameKey_en (a b : α) : sameKey (enc a) (enc b) = decide (a = b) := by
  unfold sameKey
  rw [Ky.key, Ky.key]
  show decide (_ = _) = _
  by_cases h : a = b
  · subst h; simp
  · rw [decide_eq_false h, decide_eq_false]
    intro e
    have := (Prod.mk.inj e).2
    exact h (Ky.inj _ _ this)
def encD (f : β → D) (kvs : List (α × β)) : List (D × D) := kvs.map fun p => (enc p.1, f p.2)
theorem fits_en (f : β → D) (kvs : List (α × β)) (a : α) : fits (encD f kvs) (enc a) = true := by
  unfold fits
  rw [Ky.key]
  show List.all _ _ = true
  rw [List.all_eq_true]
  intro x hx
  obtain ⟨p, _, rfl⟩ := List.mem_map.mp hx
  show (match (enc p.1).key with | some (u, _) => _ | none => _) = true
  rw [Ky.key]
  simp
def aget (kvs : List (α × β)) (a : α) : Option β := (kvs.find? fun p => decide (p.1 = a)).map (·.2)
def aput : List (α × β) → α → β → List (α × β)
  | [], k, v => [(k, v)]
  | (k', v') :: r, k, v => if k' = k then (k', v) :: r else (k', v') :: aput r k v
theorem dget_en (f : β → D) (kvs : List (α × β)) (a : α) : dget (encD f kvs) (enc a) = (aget kvs a).map f := by
  unfold dget aget encD
  rw [List.find?_map]
  have : ((fun (kv : D × D) => sameKey kv.1 (enc a)) ∘ fun (p : α × β) => (enc p.1, f p.2)) = fun p => decide (p.1 = a) := funext fun p => sameKey_en p.1 a
  rw [this, Option.map_map, Option.map_map]
  rfl
theorem dput_en (f : β → D) (a : α) (b : β) : ∀ kvs : List (α × β), dput (encD f kvs) (enc a) (f b) = encD f (aput kvs a b)
  | [] => rfl
  | (k', v') :: r => by
    show (if sameKey (enc k') (enc a) = true then _ else _) = _
    rw [sameKey_en]
    unfold aput
    by_cases h : k' = a
    · rw [if_pos h, if_pos (decide_eq_true h)]; rfl
    · rw [if_neg h, if_neg (by simp [h])]
      have := dput_en f a b r
      unfold encD at this ⊢
      simp [this]
theorem aget_none {kvs : List (α × β)} {a : α} : aget kvs a = none ↔ a ∉ kvs.map (·.1) := by
  unfold aget
  rw [Option.map_eq_none_iff, List.find?_eq_none]
  constructor
  · intro h hm
    obtain ⟨p, hp, e⟩ := List.mem_map.mp hm
    exact h p hp (by simp [e])
  · intro h p hp e
    exact h (List.mem_map.mpr ⟨p, hp, by simpa using e⟩)
theorem aget_isSome {kvs : List (α × β)} {a : α} : (aget kvs a).isSome = decide (a ∈ kvs.map (·.1)) := by
  by_cases h : a ∈ kvs.map (·.1)
  · rw [decide_eq_true h]
    cases e : aget kvs a with
    | none => exact absurd h (aget_none.mp e)
    | some _ => rfl
  · rw [decide_eq_false h, aget_none.mpr h]; rfl
theorem aput_new {a : α} {b : β} : ∀ {kvs : List (α × β)}, a ∉ kvs.map (·.1) → aput kvs a b = kvs ++ [(a, b)]
  | [], _ => rfl
  | (k', v') :: r, h => by
    unfold aput
    rw [if_neg (fun e => h (by simp [e])), aput_new fun hm => h (by simp at hm ⊢; exact Or.inr hm)]
    rfl
theorem aget_nd {a : α} {b : β} : ∀ {kvs : List (α × β)}, (kvs.map (·.1)).Nodup → (a, b) ∈ kvs → aget kvs a = some b
  | [], _, h => by cases h
  | (k', v') :: r, nd, h => by
    unfold aget
    rw [List.find?_cons]
    rw [List.map_cons, List.nodup_cons] at nd
    rcases List.mem_cons.mp h with e | e
    · cases e; simp
    · have : k' ≠ a := fun e2 => nd.1 (List.mem_map.mpr ⟨(a, b), e, e2.symm⟩)
      simp only [decide_eq_false this]
      exact aget_nd nd.2 e
end
end Rw
set_option Elab.async false
set_option linter.all false
set_option maxRecDepth 100000
set_option maxHeartbeats 4000000
namespace Rw
open PySem PySem.W En

/-! ## the evaluator, by hand -/
theorem bind_ok {α β : Type} (a : α) (h : AH) (f : α → AH → R β) : (R.ok a h).bind f = f a h := rfl
theorem opt_some {α : Type} (h : AH) (a : α) : R.opt h (some a) = .ok a h := rfl
/-! ### heaps -/
theorem olds_refl : ∀ h : AH, olds h h = true
  | [] => rfl
  | o :: h => by simp [olds, olds_refl h]
theorem olds_app : ∀ (h t : AH), olds h (h ++ t) = true
  | [], _ => by cases ‹AH› <;> rfl
  | o :: h, t => by simp [olds, olds_app h t]
theorem olds_of : ∀ {h h' : AH}, h.length ≤ h'.length → (∀ (i : Nat) (o : AO), i < h.length → h'[i]? = some o → o.flat = true ∨ h[i]? = some o) → olds h h' = true
  | [], h', _, _ => by cases h' <;> rfl
  | o :: h, [], hl, _ => absurd hl (by simp)
  | o :: h, o' :: h', hl, hx => by
    unfold olds
    rw [Bool.and_eq_true]
    refine ⟨?_, olds_of (by simpa using hl) fun i p hi hp => ?_⟩
    · rcases hx 0 o' (by simp) rfl with e | e
      · simp [e]
      · have : o = o' := by simpa using e
        simp [this]
    · have := hx (i + 1) p (by simpa using hi) (by simpa using hp)
      simpa using this
theorem olds_set {h : AH} {r : Nat} {o : AO} (ho : o.flat = true) : olds h (h.set r o) = true := by
  refine olds_of (by simp) fun i p hi hp => ?_
  rw [List.getElem?_set] at hp
  split at hp
  · split at hp
    · left; cases hp; exact ho
    · cases hp
  · exact Or.inr hp
theorem ret_flat {h h' : AH} {d : D} (ho : olds h h' = true) (hd : d.flat = true) : R.ret h (.ok d h') = .ok d (h'.take h.length) := by
  unfold R.ret
  simp only [ho, hd, if_true]
theorem ret_same {h : AH} {d : D} (hd : d.flat = true) : R.ret h (.ok d h) = .ok d h := by
  rw [ret_flat (olds_refl h) hd, List.take_length]
theorem ret_app {h t : AH} {d : D} (hd : d.flat = true) : R.ret h (.ok d (h ++ t)) = .ok d h := by
  rw [ret_flat (olds_app h t) hd, List.take_left]
theorem ret_set {h : AH} {r : Nat} {o : AO} {d : D} (ho : o.flat = true) (hd : d.flat = true) : R.ret h (.ok d (h.set r o)) = .ok d (h.set r o) := by
  rw [ret_flat (olds_set ho) hd, List.take_of_length_le (by simp)]
theorem ret_new {h t : AH} {o : AO} (ho : o.flat = true) : R.ret h (.ok (.ref h.length) (h ++ [o])) = .ok (.ref h.length) (h ++ [o]) := by
  unfold R.ret
  simp only [olds_app, if_true]
  have : (D.ref h.length).flat = false := rfl
  simp only [this]
  simp [ho]
/-- what comes of a def: a new flat object, somewhere behind -/
theorem ret_ref {h h' : AH} {r : Nat} {o : AO} (hol : olds h h' = true) (hr : h'[r]? = some o) (hl : h.length ≤ r) (ho : o.flat = true) : R.ret h (.ok (.ref r) h') = .ok (.ref h.length) (h'.take h.length ++ [o]) := by
  unfold R.ret
  have : (D.ref r).flat = false := rfl
  simp only [hol, if_true, this, hr, ho, decide_eq_true hl, Bool.and_true]
  simp
theorem callF_succ {G : GE} {n f : Nat} {F : CFun} {ds : List D} {h : AH} (e : G.fns[f]? = some F) (hl : ds.length = F.np) : callF G (n + 1) f ds h = R.ret h (RS.fin (evSs G (callF G n) F.body (startS F.ns ds) h)) := by
  unfold callF
  rw [e]
  simp [hl]
/-! ### new objects: h ++ t -/
theorem get_app (h t : AH) (k : Nat) : (h ++ t)[h.length + k]? = t[k]? := by
  rw [List.getElem?_append_right (by omega)]
  congr 1
  omega
theorem get_app0 (h t : AH) : (h ++ t)[h.length]? = t[0]? := get_app h t 0
theorem set_app (h t : AH) (k : Nat) (o : AO) : (h ++ t).set (h.length + k) o = h ++ t.set k o := by
  rw [List.set_append_right _ _ (by omega)]
  congr 2
  omega
theorem set_app0 (h t : AH) (o : AO) : (h ++ t).set h.length o = h ++ t.set 0 o := set_app h t 0 o
theorem get_old {h t : AH} {i : Nat} (hi : i < h.length) : (h ++ t)[i]? = h[i]? := List.getElem?_append_left hi
theorem lt_of_get {h : AH} {i : Nat} {o : AO} (e : h[i]? = some o) : i < h.length := (List.getElem?_eq_some_iff.mp e).1
/-! ### behind a turn -/
mutual
theorem under_flat (n : Nat) : ∀ d : D, d.flat = true → d.under n = true
  | .non, _ => rfl
  | .bl _, _ => rfl
  | .int _, _ => rfl
  | .str _, _ => rfl
  | .fn _, _ => rfl
  | .ref _, h => by cases h
  | .tup xs, h => unders_flat n xs h
theorem unders_flat (n : Nat) : ∀ ds : List D, D.flats ds = true → D.unders n ds = true
  | [], _ => rfl
  | x :: xs, h => by
    rw [D.flats, Bool.and_eq_true] at h
    rw [D.unders, under_flat n x h.1, unders_flat n xs h.2]
    rfl
end
theorem liveR_nil {n : Nat} : ∀ {ρ : St}, (∀ d : D, some d ∈ ρ → d.under n = true) → liveR n ρ [] = []
  | [], _ => rfl
  | none :: ρ, h => by
    rw [liveR]
    · exact liveR_nil fun d hd => h d (List.mem_cons_of_mem _ hd)
    · intro r e; cases e
  | some d :: ρ, h => by
    have h2 : ∀ d : D, some d ∈ ρ → d.under n = true := fun d hd => h d (List.mem_cons_of_mem _ hd)
    cases d with
    | ref r =>
      have h1 := h (.ref r) (List.mem_cons_self ..)
      have h1 : r < n := by simpa [D.under] using h1
      rw [liveR]
      have : decide (n ≤ r) = false := by simp; omega
      rw [this]
      simp [liveR_nil h2]
    | _ =>
      rw [liveR]
      · exact liveR_nil h2
      · intro r e; cases e
theorem renS_id {n : Nat} {ρ : St} (h : ∀ d : D, some d ∈ ρ → d.under n = true) : renS n [] ρ = ρ := by
  unfold renS
  conv => rhs; rw [← List.map_id ρ]
  refine List.map_congr_left fun o ho => ?_
  cases o with
  | none => rfl
  | some d =>
    show renD n [] d = some d
    unfold renD
    rw [if_pos (h d ho)]
theorem gcS_same {h h' : AH} {kill : List Nat} {ρ : St} (hl : h'.length = h.length) (ho : olds h h' = true) (hu : ∀ d : D, some d ∈ wipeS ρ kill → d.under h.length = true) : gcS h h' kill ρ = (wipeS ρ kill, h') := by
  unfold gcS
  simp only [ho, if_true, liveR_nil hu, List.mapM_nil]
  show (if _ then _ else _) = _
  rw [if_pos (by rfl), renS_id hu, List.append_nil, List.take_of_length_le (by omega)]
/-- nothing new is still named -/
theorem gcS_app {h h' t : AH} {kill : List Nat} {ρ : St} (hl : h'.length = h.length) (ho : olds h h' = true) (hu : ∀ d : D, some d ∈ wipeS ρ kill → d.under h.length = true) : gcS h (h' ++ t) kill ρ = (wipeS ρ kill, h') := by
  unfold gcS
  have : olds h (h' ++ t) = true := by
    have key : ∀ (a b t : AH), b.length = a.length → olds a b = true → olds a (b ++ t) = true := by
      intro a
      induction a with
      | nil => intro b t hl _; cases b with | nil => cases t <;> rfl | cons _ _ => cases hl
      | cons o a ih =>
        intro b t hl ho
        cases b with
        | nil => cases hl
        | cons p b =>
          rw [List.cons_append]
          unfold olds at ho ⊢
          rw [Bool.and_eq_true] at ho ⊢
          exact ⟨ho.1, ih b t (by simpa using hl) ho.2⟩
    exact key h h' t hl ho
  simp only [this, if_true, liveR_nil hu, List.mapM_nil]
  show (if _ then _ else _) = _
  rw [if_pos (by rfl), renS_id hu, List.append_nil, List.take_append_of_le_length (by omega), List.take_of_length_le (by omega)]
/-! ### comprehensions -/
theorem compGo_pure {sm : AH → Bool} {el : D → AH → R (List D)} {g : D → List D} {h : AH} (hs : sm h = true) : ∀ {xs : List D}, (∀ x ∈ xs, el x h = .ok (g x) h) → (xs.flatMap g).length ≤ sizeLine → compGo sm el xs h = .ok (xs.flatMap g) h
  | [], _, _ => by unfold compGo; rw [if_pos hs]; rfl
  | x :: xs, he, hl => by
    unfold compGo
    rw [if_pos hs, he x (List.mem_cons_self ..), bind_ok]
    have hl2 : (xs.flatMap g).length ≤ sizeLine := by
      simp only [List.flatMap_cons, List.length_append] at hl
      omega
    rw [compGo_pure hs (fun y hy => he y (List.mem_cons_of_mem _ hy)) hl2, bind_ok]
    rw [if_pos (by simpa [List.flatMap_cons] using hl)]
    rfl
theorem compGo_map {α : Type} {sm : AH → Bool} {el : D → AH → R (List D)} {e g : α → D} {h : AH} (hs : sm h = true) {xs : List α} (he : ∀ x ∈ xs, el (e x) h = .ok [g x] h) (hl : xs.length ≤ sizeLine) : compGo sm el (xs.map e) h = .ok (xs.map g) h := by
  induction xs with
  | nil => rw [List.map_nil]; unfold compGo; simp [hs]
  | cons x xs ih =>
    rw [List.map_cons]
    unfold compGo
    rw [if_pos hs, he x (List.mem_cons_self ..), bind_ok, ih (fun y hy => he y (List.mem_cons_of_mem _ hy)) (by simp at hl; omega), bind_ok]
    rw [if_pos (by simp at hl ⊢; omega)]
    rfl
theorem compGo_filter {α : Type} {sm : AH → Bool} {el : D → AH → R (List D)} {e g : α → D} {p : α → Bool} {h : AH} (hs : sm h = true) {xs : List α} (he : ∀ x ∈ xs, el (e x) h = .ok (if p x = true then [g x] else []) h) (hl : xs.length ≤ sizeLine) : compGo sm el (xs.map e) h = .ok ((xs.filter p).map g) h := by
  induction xs with
  | nil => rw [List.map_nil]; unfold compGo; simp [hs]
  | cons x xs ih =>
    rw [List.map_cons]
    unfold compGo
    rw [if_pos hs, he x (List.mem_cons_self ..), bind_ok, ih (fun y hy => he y (List.mem_cons_of_mem _ hy)) (by simp at hl; omega), bind_ok]
    have h1 := List.length_filter_le p xs
    simp at hl
    rw [if_pos (by split <;> simp <;> omega), List.filter_cons]
    split <;> rfl
/-- turns that change the heap -/
theorem compGo_inv {sm : AH → Bool} {el : D → AH → R (List D)} {I : AH → Prop} {P : D → Prop} {xs : List D} (hs : ∀ h, I h → sm h = true) (he : ∀ x ∈ xs, ∀ h, I h → ∃ y h', el x h = .ok [y] h' ∧ I h' ∧ P y) (hl : xs.length ≤ sizeLine) : ∀ h, I h → ∃ ys h', compGo sm el xs h = .ok ys h' ∧ I h' ∧ ys.length = xs.length ∧ ∀ y ∈ ys, P y := by
  induction xs with
  | nil =>
    intro h hi
    exact ⟨[], h, by unfold compGo; rw [if_pos (hs h hi)], hi, rfl, fun y hy => by cases hy⟩
  | cons x xs ih =>
    intro h hi
    obtain ⟨y, h1, e1, i1, p1⟩ := he x (List.mem_cons_self ..) h hi
    obtain ⟨ys, h2, e2, i2, l2, p2⟩ := ih (fun y hy => he y (List.mem_cons_of_mem _ hy)) (by simp at hl; omega) h1 i1
    refine ⟨y :: ys, h2, ?_, i2, by simp [l2], fun z hz => ?_⟩
    · unfold compGo
      rw [if_pos (hs h hi), e1, bind_ok, e2, bind_ok, if_pos (by simp at hl ⊢; omega)]
      rfl
    · rcases List.mem_cons.mp hz with e | e
      · rw [e]; exact p1
      · exact p2 z e
theorem forGo_inv {sm : AH → Bool} {body : D → St → AH → RS} {I : List D → St → AH → Prop} (hs : ∀ xs ρ h, I xs ρ h → sm h = true) (hb : ∀ x xs ρ h, I (x :: xs) ρ h → ∃ ρ' h', body x ρ h = .nx ρ' h' ∧ I xs ρ' h') : ∀ (xs : List D) (ρ : St) (h : AH), I xs ρ h → ∃ ρ' h', forGo sm body xs ρ h = .nx ρ' h' ∧ I [] ρ' h'
  | [], ρ, h, hi => ⟨ρ, h, by unfold forGo; rw [if_pos (hs _ _ _ hi)], hi⟩
  | x :: xs, ρ, h, hi => by
    obtain ⟨ρ1, h1, e1, i1⟩ := hb x xs ρ h hi
    obtain ⟨ρ2, h2, e2, i2⟩ := forGo_inv hs hb xs ρ1 h1 i1
    refine ⟨ρ2, h2, ?_, i2⟩
    unfold forGo
    rw [if_pos (hs _ _ _ hi), e1]
    exact e2
theorem sameH_nil (h0 h : AH) : sameH h0 [] h = true := rfl
theorem lockH_nil (h : AH) : lockH [] h = h := rfl
theorem unlockH_nil (h0 h : AH) : unlockH h0 [] h = some h := rfl
theorem sameH_self (h : AH) (ws : List Nat) : sameH h ws h = true := by
  unfold sameH
  rw [List.all_eq_true]
  intro n _
  simp
theorem lk1_lst {h : AH} {n : Nat} {xs : List D} {lk : Bool} (e : h[n]? = some (.lst xs lk)) : lk1 h [n] = none := by
  simp only [lk1, e]
theorem lk1_dctV {h : AH} {n : Nat} {kvs : List (D × D)} (e : h[n]? = some (.dct kvs false)) : lk1 h [n] = some (n, kvs) := by
  simp only [lk1, e]
theorem lockH_lstV {h : AH} {n : Nat} {xs : List D} {lk : Bool} (e : h[n]? = some (.lst xs lk)) : lockH [n] h = h := by
  unfold lockH
  rw [lk1_lst e]
theorem unlockH_lst {h0 h : AH} {n : Nat} {xs : List D} {lk : Bool} (e : h0[n]? = some (.lst xs lk)) : unlockH h0 [n] h = some h := by
  unfold unlockH
  rw [lk1_lst e]
theorem lockH_dct {h : AH} {n : Nat} {kvs : List (D × D)} (e : h[n]? = some (.dct kvs false)) : lockH [n] h = h.set n (.dct kvs true) := by
  unfold lockH
  rw [lk1_dctV e]
theorem unlockH_dct {h : AH} {n : Nat} {kvs : List (D × D)} (e : h[n]? = some (.dct kvs false)) : unlockH h [n] (h.set n (.dct kvs true)) = some h := by
  unfold unlockH
  rw [lk1_dctV e]
  have hl := lt_of_get e
  show (if _ then _ else _) = _
  rw [if_pos (by rw [List.getElem?_set_self hl]), List.set_set]
  congr 1
  apply List.ext_getElem?
  intro i
  rw [List.getElem?_set]
  split
  · rename_i h1
    subst h1
    exact e.symm
  · rfl
/-! ### numbers -/
theorem atI_ok {α : Type} {xs : List α} {i : Nat} {x : α} (e : xs[i]? = some x) : L2.atI xs (i : Int) = some x := by
  have hl := (List.getElem?_eq_some_iff.mp e).1
  unfold L2.atI L2.ixN
  rw [if_pos (by omega), if_pos (by omega)]
  simpa using e
theorem atI_int {α : Type} {xs : List α} {i : Int} (h0 : 0 ≤ i) (h1 : i < xs.length) : L2.atI xs i = xs[i.toNat]? := by
  unfold L2.atI L2.ixN
  rw [if_pos h0, if_pos h1]
  rfl
theorem intsD_mapV : ∀ xs : List Int, intsD (xs.map D.int) = some xs
  | [] => rfl
  | x :: xs => by rw [List.map_cons, intsD, intsD_mapV xs]; rfl
theorem allD_map {α : Type} (p : α → Bool) : ∀ xs : List α, allD (xs.map fun x => D.bl (p x)) = some (xs.map p)
  | [] => rfl
  | x :: xs => by rw [List.map_cons, allD, allD_map p xs]; rfl
theorem setD_map {xs : List Int} (h : xs.length < 1000) : setD (xs.map D.int) = some xs := by
  unfold setD
  rw [intsD_mapV]
  show (if _ then _ else _) = _
  rw [if_pos h]
theorem enumD_map {α : Type} (e : α → D) : ∀ (xs : List α) (k : Nat), enumD k (xs.map e) = (xs.zipIdx k).map fun p => D.tup [.int (p.2 : Int), e p.1]
  | [], _ => rfl
  | x :: xs, k => by rw [List.map_cons, enumD, enumD_map e xs, List.zipIdx_cons, List.map_cons]
theorem rangeD_up (n : Nat) : rangeD 0 n 1 = (List.range n).map fun i : Nat => D.int (i : Int) := by
  unfold rangeD
  refine List.map_congr_left fun i _ => ?_
  simp
end Rw
namespace Rw
open PySem PySem.W En
theorem flat_non : D.non.flat = true := id rfl
theorem flat_bl (b : Bool) : (D.bl b).flat = true := id rfl
theorem flat_int (i : Int) : (D.int i).flat = true := id rfl
theorem flat_tup (xs : List D) : (D.tup xs).flat = D.flats xs := id rfl
theorem flats_nil : D.flats [] = true := id rfl
theorem flats_cons (x : D) (xs : List D) : D.flats (x :: xs) = (x.flat && D.flats xs) := id rfl
theorem flats_of {xs : List D} (h : ∀ x ∈ xs, x.flat = true) : D.flats xs = true := by
  induction xs with
  | nil => rfl
  | cons x xs ih => rw [D.flats, h x (List.mem_cons_self ..), ih fun y hy => h y (List.mem_cons_of_mem _ hy)]; rfl
theorem flat_lst (xs : List D) (lk : Bool) : (AO.lst xs lk).flat = D.flats xs := id rfl
theorem flat_dct (kvs : List (D × D)) (lk : Bool) : (AO.dct kvs lk).flat = (D.flats (kvs.map (·.1)) && D.flats (kvs.map (·.2))) := id rfl
theorem flats_ints (xs : List Int) : D.flats (xs.map D.int) = true := flats_map xs
theorem flats_int2 {α : Type} (f : α → Int) (xs : List α) : D.flats (xs.map fun x => D.int (f x)) = true := by
  induction xs with
  | nil => rfl
  | cons x xs ih => rw [List.map_cons, D.flats, ih]; rfl
end Rw
namespace Rw
open PySem PySem.W En
theorem binD_add (i j : Int) : binD .Add (.int i) (.int j) = some (.int (i + j)) := id rfl
theorem binD_addT (xs ys : List D) : binD .Add (.tup xs) (.tup ys) = if xs.length + ys.length ≤ sizeLine then some (.tup (xs ++ ys)) else none := id rfl
theorem binD_sub (i j : Int) : binD .Sub (.int i) (.int j) = some (.int (i - j)) := id rfl
theorem binD_mul (i j : Int) : binD .Mult (.int i) (.int j) = if i.natAbs.log2 + j.natAbs.log2 ≤ 900000 then some (.int (i * j)) else none := id rfl
theorem binD_div (i j : Int) : binD .FloorDiv (.int i) (.int j) = if 0 < j ∧ j.natAbs.log2 < 9000 then some (.int (i / j)) else none := id rfl
theorem binD_mod (i j : Int) : binD .Mod (.int i) (.int j) = if 0 < j then some (.int (i % j)) else none := id rfl
theorem binD_pow (i j : Int) : binD .Pow (.int i) (.int j) = if 0 ≤ j ∧ j ≤ 100000 ∧ (i.natAbs.log2 + 1) * j.toNat ≤ 100000000 then some (.int (i ^ j.toNat)) else none := id rfl
theorem augD_add (i j : Int) : augD .Add (.int i) (.int j) = some (.int (i + j)) := id rfl
theorem augD_sub (i j : Int) : augD .Sub (.int i) (.int j) = some (.int (i - j)) := id rfl
theorem augD_mul (i j : Int) : augD .Mult (.int i) (.int j) = if i.natAbs.log2 + j.natAbs.log2 ≤ 900000 then some (.int (i * j)) else none := id rfl
theorem b1_int (h : AH) (i : Int) : b1D h .int (.int i) = some (.int i) := id rfl
theorem b1_intb (h : AH) (b : Bool) : b1D h .int (.bl b) = some (.int (if b = true then 1 else 0)) := id rfl
theorem b1_abs (h : AH) (i : Int) : b1D h .abs (.int i) = some (.int (if i < 0 then -i else i)) := id rfl
theorem b2_max (i j : Int) : b2D .max (.int i) (.int j) = some (.int (if j > i then j else i)) := id rfl
theorem b2_min (i j : Int) : b2D .min (.int i) (.int j) = some (.int (if j < i then j else i)) := id rfl
theorem cmp_lt (h : AH) (i j : Int) : cmpD h .Lt (.int i) (.int j) = some (decide (i < j)) := id rfl
theorem cmp_gt (h : AH) (i j : Int) : cmpD h .Gt (.int i) (.int j) = some (decide (j < i)) := id rfl
theorem cmp_le (h : AH) (i j : Int) : cmpD h .LtE (.int i) (.int j) = some (decide (i ≤ j)) := id rfl
theorem cmp_ge (h : AH) (i j : Int) : cmpD h .GtE (.int i) (.int j) = some (decide (j ≤ i)) := id rfl
theorem cmp_eq (h : AH) (a b : D) : cmpD h .Eq a b = cmpEq h a b := id rfl
theorem cmp_ne (h : AH) (a b : D) : cmpD h .NotEq a b = (cmpEq h a b).map (!·) := id rfl
theorem cmp_inV (h : AH) (a b : D) : cmpD h .In a b = cmpIn h a b := id rfl
theorem cmp_nin (h : AH) (a b : D) : cmpD h .NotIn a b = (cmpIn h a b).map (!·) := id rfl
theorem cmp_is (h : AH) (a : D) : cmpD h .Is a .non = some (decide (a = .non)) := by cases a <;> rfl
theorem cmp_isn (h : AH) (a : D) : cmpD h .IsNot a .non = some (!decide (a = .non)) := by cases a <;> rfl
theorem cmpEq_int (h : AH) (i j : Int) : cmpEq h (.int i) (.int j) = some (decide (i = j)) := cmpEq_en h i j (by decide)
theorem cmpEq_bl (h : AH) (i j : Bool) : cmpEq h (.bl i) (.bl j) = some (decide (i = j)) := cmpEq_en h i j (by decide)
theorem isi_ii (h : AH) (i : Int) : isiD h (.int i) .int = some true := id rfl
theorem isi_ib (h : AH) (i : Int) : isiD h (.int i) .bool = some false := id rfl
theorem isi_tt (h : AH) (xs : List D) : isiD h (.tup xs) .tuple = some true := id rfl
theorem bq_len (xs : List D) : bqD .len xs = some (.int xs.length) := id rfl
theorem bq_tuple (xs : List D) : bqD .tuple xs = some (.tup xs) := id rfl
theorem bq_all {α : Type} (p : α → Bool) (xs : List α) : bqD .all (xs.map fun x => D.bl (p x)) = some (.bl (xs.all p)) := by
  show (allD _).map _ = _
  rw [allD_map]
  show some (D.bl ((xs.map p).all id)) = _
  rw [List.all_map]; rfl
theorem seq_tup (h : AH) (xs : List D) : seqD .q h (.tup xs) = some xs := id rfl
theorem seq_tupk (h : AH) (xs : List D) : seqD .k h (.tup xs) = some xs := id rfl
theorem seq_lst {m : Md} {h : AH} {n : Nat} {xs : List D} (e : h[n]? = some (.lst xs false)) : seqD m h (.ref n) = some xs := by
  simp [seqD, e]
theorem seq_dct {h : AH} {n : Nat} {kvs : List (D × D)} {lk : Bool} (e : h[n]? = some (.dct kvs lk)) : seqD .k h (.ref n) = some (kvs.map (·.1)) := by
  simp [seqD, e]
theorem ix_tup (h : AH) (xs : List D) (i : Int) : ixD h (.tup xs) (.int i) = L2.atI xs i := id rfl
theorem ix_lst {h : AH} {n : Nat} {xs : List D} {lk : Bool} {i : Int} (e : h[n]? = some (.lst xs lk)) : ixD h (.ref n) (.int i) = L2.atI xs i := by
  simp only [ixD, e]
theorem ix_dct {h : AH} {n : Nat} {kvs : List (D × D)} {lk : Bool} {k : D} (e : h[n]? = some (.dct kvs lk)) : ixD h (.ref n) k = if fits kvs k then dget kvs k else none := by
  simp only [ixD, e]
theorem putD_lst {h : AH} {n : Nat} {xs : List D} {i : Int} {v : D} (e : h[n]? = some (.lst xs false)) : evS.putD h (.ref n) (.int i) v = match L2.ixN xs.length i with | some j => .ok .non (h.set n (.lst (xs.set j v) false)) | none => .bad := by
  simp only [evS.putD, e]
  try rfl
theorem putD_dct {h : AH} {n : Nat} {kvs : List (D × D)} {k v : D} (e : h[n]? = some (.dct kvs false)) : evS.putD h (.ref n) k v = if fits kvs k && decide (kvs.length < sizeLine) then .ok .non (h.set n (.dct (dput kvs k v) false)) else .bad := by
  simp only [evS.putD, e]
theorem cmpIn_dct {h : AH} {n : Nat} {kvs : List (D × D)} {lk : Bool} {a : D} (e : h[n]? = some (.dct kvs lk)) : cmpIn h a (.ref n) = if fits kvs a then some (dget kvs a).isSome else none := by
  simp only [cmpIn, e]
theorem cmpIn_tup (h : AH) (a : D) (xs : List D) : cmpIn h a (.tup xs) = seqIn h a (.tup xs) := id rfl
theorem lstN_ofV {h : AH} {n : Nat} {xs : List D} {lk : Bool} (e : h[n]? = some (.lst xs lk)) : lstN h (.ref n) = some n := by
  simp only [lstN, e]
theorem dctN_ofV {h : AH} {n : Nat} {kvs : List (D × D)} {lk : Bool} (e : h[n]? = some (.dct kvs lk)) : dctN h (.ref n) = some n := by
  simp only [dctN, e]
theorem refsOf_ref (n : Nat) : Rw.refsOf (.ref n) = [n] := id rfl
theorem refsOf_tup (xs : List D) : Rw.refsOf (.tup xs) = [] := id rfl
theorem partD_non : partD .non = some none := id rfl
theorem partD_int (i : Int) : partD (.int i) = some (some i) := id rfl
theorem asg_nm (h : AH) (i : Nat) (d : D) (ρ : St) : asgD h (.nm i) d ρ = some (ρ.set i (some d)) := id rfl
theorem asg_tp (h : AH) (is : List Nat) (ds : List D) (ρ : St) : asgD h (.tp is) (.tup ds) ρ = if ds.length = is.length then some (setS is ds ρ) else none := id rfl
end Rw
namespace Rw
open PySem PySem.W En
theorem set_old {h t : AH} {r : Nat} {o : AO} (hr : r < h.length) : (h ++ t).set r o = h.set r o ++ t := List.set_append_left _ _ hr
theorem get_set {h : AH} {r : Nat} {o : AO} (hr : r < h.length) : (h.set r o)[r]? = some o := List.getElem?_set_self hr
theorem ret_newset {h : AH} {r : Nat} {o p : AO} (ho : o.flat = true) (hp : p.flat = true) : R.ret h (.ok (.ref h.length) (h.set r o ++ [p])) = .ok (.ref h.length) (h.set r o ++ [p]) := by
  have hl : (h.set r o).length = h.length := List.length_set
  have h1 : olds h (h.set r o ++ [p]) = true := by
    refine olds_of (by simp) fun i q hi hq => ?_
    rw [List.getElem?_append_left (by omega), List.getElem?_set] at hq
    split at hq
    · split at hq
      · left; cases hq; exact ho
      · cases hq
    · exact Or.inr hq
  rw [ret_ref h1 (r := h.length) (o := p) (by rw [List.getElem?_append_right (by omega)]; simp [hl]) (Nat.le_refl _) hp, List.take_append_of_le_length (by omega), List.take_of_length_le (by omega)]
theorem evS_ife (G : GE) (cl : Nat → List D → AH → R D) {c : CE} {a b : CSs} {ρ : St} {h h' : AH} {p : Bool} (e : evE G cl c ρ h = .ok (.bl p) h') : evS G cl (.ife c a b) ρ h = if p = true then evSs G cl a ρ h' else evSs G cl b ρ h' := by
  unfold evS
  rw [e]
  cases p <;> rfl
end Rw
namespace Rw
open PySem PySem.W En
/-- the same places; where one is not as it was it holds no refs -/
def Fl (h h' : AH) : Prop := h'.length = h.length ∧ ∀ (i : Nat) (o : AO), h'[i]? = some o → o.flat = true ∨ h[i]? = some o
theorem Fl.refl (h : AH) : Fl h h := ⟨rfl, fun _ _ e => Or.inr e⟩
theorem Fl.set {h h' : AH} {r : Nat} {o : AO} (f : Fl h h') (ho : o.flat = true) : Fl h (h'.set r o) := by
  refine ⟨by rw [List.length_set]; exact f.1, fun i p hp => ?_⟩
  rw [List.getElem?_set] at hp
  by_cases e : r = i
  · rw [if_pos e] at hp
    split at hp
    · left; injection hp with hp; rw [← hp]; exact ho
    · cases hp
  · rw [if_neg e] at hp
    exact f.2 i p hp
theorem Fl.app {h h' t t' : AH} (f : Fl h h') (g : Fl t t') : Fl (h ++ t) (h' ++ t') := by
  refine ⟨by rw [List.length_append, List.length_append, f.1, g.1], fun i o hi => ?_⟩
  rcases Nat.lt_or_ge i h.length with hl | hl
  · rw [List.getElem?_append_left (by rw [f.1]; exact hl)] at hi
    rw [List.getElem?_append_left hl]
    exact f.2 i o hi
  · rw [List.getElem?_append_right (by rw [f.1]; exact hl), f.1] at hi
    rw [List.getElem?_append_right hl]
    exact g.2 _ o hi
theorem Fl.cons {o o' : AO} {t t' : AH} (g : Fl t t') (ho : o'.flat = true) : Fl (o :: t) (o' :: t') := by
  refine ⟨by simp [g.1], fun i p hp => ?_⟩
  cases i with
  | zero => left; simp at hp; rw [← hp]; exact ho
  | succ i => simpa using g.2 i p (by simpa using hp)
theorem Fl.nil : Fl [] [] := Fl.refl []
theorem Fl.trans {a b c : AH} (f : Fl a b) (g : Fl b c) : Fl a c := ⟨g.1.trans f.1, fun i o e => (g.2 i o e).elim Or.inl fun e2 => f.2 i o e2⟩
theorem Fl.olds {h h' : AH} (f : Fl h h') : Rw.olds h h' = true := olds_of (by rw [f.1]; exact Nat.le_refl _) fun i o _ e => f.2 i o e
theorem Fl.olds_app {h h' : AH} (f : Fl h h') (t : AH) : Rw.olds h (h' ++ t) = true := olds_of (by rw [List.length_append, f.1]; omega) fun i o hi e => f.2 i o (by rwa [List.getElem?_append_left (by rw [f.1]; exact hi)] at e)
theorem gcS_fl {h h' : AH} {kill : List Nat} {ρ : St} (f : Fl h h') (hu : ∀ d : D, some d ∈ wipeS ρ kill → d.under h.length = true) : gcS h h' kill ρ = (wipeS ρ kill, h') := gcS_same f.1 f.olds hu
theorem gcS_fla {h h' t : AH} {kill : List Nat} {ρ : St} (f : Fl h h') (hu : ∀ d : D, some d ∈ wipeS ρ kill → d.under h.length = true) : gcS h (h' ++ t) kill ρ = (wipeS ρ kill, h') := gcS_app f.1 f.olds hu
theorem ret_fl {h h' : AH} {d : D} (f : Fl h h') (hd : d.flat = true) : R.ret h (.ok d h') = .ok d h' := by
  rw [ret_flat f.olds hd, List.take_of_length_le (by rw [f.1]; exact Nat.le_refl _)]
theorem ret_fla {h h' t : AH} {d : D} (f : Fl h h') (hd : d.flat = true) : R.ret h (.ok d (h' ++ t)) = .ok d h' := by
  rw [ret_flat (f.olds_app t) hd, List.take_append_of_le_length (by rw [f.1]; exact Nat.le_refl _), List.take_of_length_le (by rw [f.1]; exact Nat.le_refl _)]
theorem ret_fln {h h' t : AH} {k : Nat} {o : AO} (f : Fl h h') (ht : t[k]? = some o) (ho : o.flat = true) : R.ret h (.ok (.ref (h.length + k)) (h' ++ t)) = .ok (.ref h.length) (h' ++ [o]) := by
  rw [ret_ref (f.olds_app t) (r := h.length + k) (o := o) (by rw [← f.1]; exact (get_app h' t k).trans ht) (by omega) ho, List.take_append_of_le_length (by rw [f.1]; exact Nat.le_refl _), List.take_of_length_le (by rw [f.1]; exact Nat.le_refl _)]
theorem ret_fln0 {h h' t : AH} {o : AO} (f : Fl h h') (ht : t[0]? = some o) (ho : o.flat = true) : R.ret h (.ok (.ref h.length) (h' ++ t)) = .ok (.ref h.length) (h' ++ [o]) := ret_fln (k := 0) f ht ho
/-- places behind a heap as long as h -/
theorem fl_get {h h' : AH} (f : h'.length = h.length) (t : AH) (k : Nat) : (h' ++ t)[h.length + k]? = t[k]? := by rw [← f]; exact get_app h' t k
theorem fl_get0 {h h' : AH} (f : h'.length = h.length) (t : AH) : (h' ++ t)[h.length]? = t[0]? := fl_get f t 0
theorem fl_set {h h' : AH} (f : h'.length = h.length) (t : AH) (k : Nat) (o : AO) : (h' ++ t).set (h.length + k) o = h' ++ t.set k o := by rw [← f]; exact set_app h' t k o
theorem fl_set0 {h h' : AH} (f : h'.length = h.length) (t : AH) (o : AO) : (h' ++ t).set h.length o = h' ++ t.set 0 o := fl_set f t 0 o
theorem set_get {h : AH} {r : Nat} {o : AO} (e : h[r]? = some o) : h.set r o = h := by
  apply List.ext_getElem?
  intro i
  rw [List.getElem?_set]
  by_cases h1 : r = i
  · subst h1
    rw [if_pos rfl, if_pos (lt_of_get e)]; exact e.symm
  · rw [if_neg h1]
end Rw
namespace Rw
open PySem PySem.W En
theorem evS_fore {G : GE} {cl : Nat → List D → AH → R D} {tg : Tg} {it : CI} {body : CSs} {kill : List Nat} {ρ : St} {h h0 : AH} {xs : List D} {ws : List Nat} {I : List D → St → AH → Prop} (e : evI G cl it ρ h = .ok (xs, ws) h0) (hl : lk1 h0 ws = none)
    (hs : ∀ rem ρ h2, I rem ρ h2 → sameH h0 ws h2 = true)
    (hb : ∀ x rem ρ1 h2, I (x :: rem) ρ1 h2 → ∃ ρ2 ρ' h', asgD h2 tg x ρ1 = some ρ2 ∧ RS.gc h0 kill (evSs G cl body ρ2 h2) = .nx ρ' h' ∧ I rem ρ' h') (hi : I xs ρ h0) :
    ∃ ρ' h', evS G cl (.fore tg it body kill) ρ h = .nx ρ' h' ∧ I [] ρ' h' := by
  have hk : lockH ws h0 = h0 := by simp only [lockH, hl]
  obtain ⟨ρ', h', e1, e2⟩ := forGo_inv (sm := sameH h0 ws) (body := fun x ρ h => match asgD h tg x ρ with
          | some ρ1 => RS.gc h0 kill (evSs G cl body ρ1 h)
          | none => .bad) (I := I) hs (fun x rem ρ1 h2 hi => by
      obtain ⟨ρ2, ρ', h', a, b, c⟩ := hb x rem ρ1 h2 hi
      exact ⟨ρ', h', by simp only [a, b], c⟩) xs ρ h0 hi
  refine ⟨ρ', h', ?_, e2⟩
  unfold evS
  rw [e]
  show RS.unlock h0 ws (forGo (sameH (lockH ws h0) ws) _ xs ρ (lockH ws h0)) = _
  refine Eq.trans (congrArg (a₂ := .nx ρ' h') (RS.unlock h0 ws) ?_) ?_
  · rw [hk]; exact e1
  · simp only [RS.unlock, unlockH, hl]
theorem evSs_cons {G : GE} {cl : Nat → List D → AH → R D} {s : CS} {r : CSs} {ρ ρ1 : St} {h h1 : AH} (e : evS G cl s ρ h = .nx ρ1 h1) : evSs G cl (.cons s r) ρ h = evSs G cl r ρ1 h1 := by
  conv => lhs; unfold evSs
  rw [e]
theorem evS_set {G : GE} {cl : Nat → List D → AH → R D} {i : Nat} {e : CE} {ρ : St} {h h1 : AH} {d : D} (e1 : evE G cl e ρ h = .ok d h1) : evS G cl (.set i e) ρ h = .nx (ρ.set i (some d)) h1 := by
  unfold evS
  rw [e1]
theorem evS_ret {G : GE} {cl : Nat → List D → AH → R D} {e : CE} {ρ : St} {h h1 : AH} {d : D} (e1 : evE G cl e ρ h = .ok d h1) : evS G cl (.ret e) ρ h = .rt d h1 := by
  unfold evS
  rw [e1]
theorem evSs_ret {G : GE} {cl : Nat → List D → AH → R D} {e : CE} {r : CSs} {ρ : St} {h h1 : AH} {d : D} (e1 : evE G cl e ρ h = .ok d h1) : evSs G cl (.cons (.ret e) r) ρ h = .rt d h1 := by
  unfold evSs
  rw [evS_ret e1]
theorem whileGo_inv {c : St → AH → R D} {body : St → AH → RS} {I : Nat → St → AH → Prop} {Q : St → AH → Prop}
    (hb : ∀ k ρ h, I k ρ h → (c ρ h = .ok (.bl false) h ∧ Q ρ h) ∨ ∃ k' ρ' h', k = k' + 1 ∧ c ρ h = .ok (.bl true) h ∧ body ρ h = .nx ρ' h' ∧ I k' ρ' h') :
    ∀ (n k : Nat) (ρ : St) (h : AH), I k ρ h → k < n → ∃ ρ' h', whileGo c body n ρ h = .nx ρ' h' ∧ Q ρ' h'
  | 0, k, _, _, _, hk => absurd hk (by omega)
  | n + 1, k, ρ, h, hi, hk => by
    unfold whileGo
    rcases hb k ρ h hi with ⟨e, q⟩ | ⟨k', ρ', h', rfl, e, e2, i2⟩
    · rw [e]; exact ⟨_, _, rfl, q⟩
    · rw [e]
      simp only [e2]
      exact whileGo_inv hb n k' ρ' h' i2 (by omega)
theorem evS_whle {G : GE} {cl : Nat → List D → AH → R D} {c : CE} {body : CSs} {kill : List Nat} {ρ : St} {h : AH} {k : Nat} {I : Nat → St → AH → Prop} {Q : St → AH → Prop}
    (hb : ∀ k ρ h1, I k ρ h1 → (evE G cl c ρ h1 = .ok (.bl false) h1 ∧ Q ρ h1) ∨ ∃ k' ρ' h', k = k' + 1 ∧ evE G cl c ρ h1 = .ok (.bl true) h1 ∧ RS.gc h kill (evSs G cl body ρ h1) = .nx ρ' h' ∧ I k' ρ' h')
    (hi : I k ρ h) (hk : k < G.fuel) : ∃ ρ' h', evS G cl (.whle c body kill) ρ h = .nx ρ' h' ∧ Q ρ' h' := by
  obtain ⟨ρ', h', e, q⟩ := whileGo_inv (body := fun ρ h1 => RS.gc h kill (evSs G cl body ρ h1)) hb G.fuel k ρ h hi hk
  exact ⟨ρ', h', by unfold evS; exact e, q⟩
end Rw
namespace Rw
open PySem PySem.W En
section
variable {G : GE} {cl : Nat → List D → AH → R D}
theorem evI_q (a : CQ) (ρ : St) (h : AH) : evI G cl (.q a) ρ h = evW G cl .k a ρ h := rfl
theorem evI_enum (a : CQ) (ρ : St) (h : AH) : evI G cl (.enum a) ρ h = (evW G cl .q a ρ h).bind fun xw h => .ok (enumD 0 xw.1, xw.2) h := rfl
theorem evI_zip (a b : CQ) (ρ : St) (h : AH) : evI G cl (.zip a b) ρ h = (evW G cl .q a ρ h).bind fun xw h => (evW G cl .q b ρ h).bind fun yw h => .ok (pairsD xw.1 yw.1, xw.2 ++ yw.2) h := rfl
theorem evI_items {a : CE} {ρ : St} {h h' : AH} {n : Nat} {kvs : List (D × D)} {lk : Bool} (e : evE G cl a ρ h = .ok (.ref n) h') (hn : h'[n]? = some (.dct kvs lk)) : evI G cl (.items a) ρ h = .ok (kvs.map fun kv => .tup [kv.1, kv.2], [n]) h' := by
  unfold evI
  rw [e]
  simp only [bind_ok, dctN_ofV hn, opt_some, hn]
theorem evI_values {a : CE} {ρ : St} {h h' : AH} {n : Nat} {kvs : List (D × D)} {lk : Bool} (e : evE G cl a ρ h = .ok (.ref n) h') (hn : h'[n]? = some (.dct kvs lk)) : evI G cl (.values a) ρ h = .ok (kvs.map (·.2), [n]) h' := by
  unfold evI
  rw [e]
  simp only [bind_ok, dctN_ofV hn, opt_some, hn]
theorem small_nat {n : Nat} (h : n < 2 ^ 60) : small62 (n : Int) = true := by unfold small62; simp; omega
theorem small_int {i : Int} (h0 : -(2 ^ 60) ≤ i) (h : i < 2 ^ 60) : small62 i = true := by unfold small62; simp; omega
def rg1 (f : Int → Bool) (x : D) (h : AH) : R (List D × List Nat) := match x with
      | .int j => if f j then .ok (rangeD 0 j.toNat 1, []) h else .bad
      | _ => .bad
def rg2 (f : Int → Bool) (x y : D) (h : AH) : R (List D × List Nat) := match x, y with
      | .int i, .int j => if f i && f j then .ok (rangeD i (j - i).toNat 1, []) h else .bad
      | _, _ => .bad
def rg3 (f : Int → Bool) (x y z : D) (h : AH) : R (List D × List Nat) := match x, y, z with
      | .int i, .int j, .int (-1) => if f i && f j then .ok (rangeD i (i - j).toNat (-1), []) h else .bad
      | _, _, _ => .bad
theorem rg1_ok (f : Int → Bool) (j : Int) (h : AH) (hf : f j = true) : rg1 f (.int j) h = .ok (rangeD 0 j.toNat 1, []) h := by simp only [rg1, hf, ↓reduceIte]
theorem rg2_ok (f : Int → Bool) (i j : Int) (h : AH) (hi : f i = true) (hf : f j = true) : rg2 f (.int i) (.int j) h = .ok (rangeD i (j - i).toNat 1, []) h := by simp only [rg2, hf, hi, Bool.and_self, ↓reduceIte]
theorem rg3_ok (f : Int → Bool) (i j : Int) (h : AH) (hi : f i = true) (hf : f j = true) : rg3 f (.int i) (.int j) (.int (-1)) h = .ok (rangeD i (i - j).toNat (-1), []) h := by simp only [rg3, hf, hi, Bool.and_self, ↓reduceIte]
theorem evI_rg1 (a : CE) (ρ : St) (h : AH) : evI G cl (.rng1 a) ρ h = (evE G cl a ρ h).bind (rg1 small62) := rfl
theorem evI_rg2 (a b : CE) (ρ : St) (h : AH) : evI G cl (.rng2 a b) ρ h = (evE G cl a ρ h).bind fun x h => (evE G cl b ρ h).bind fun y h => rg2 small62 x y h := rfl
theorem evI_rg3 (a b c : CE) (ρ : St) (h : AH) : evI G cl (.rng3 a b c) ρ h = (evE G cl a ρ h).bind fun x h => (evE G cl b ρ h).bind fun y h => (evE G cl c ρ h).bind fun z h => rg3 small62 x y z h := rfl
theorem evI_rng1 {a : CE} {ρ : St} {h h' : AH} {n : Nat} (e : evE G cl a ρ h = .ok (.int (n : Int)) h') (hs : n < 2 ^ 60) : evI G cl (.rng1 a) ρ h = .ok ((List.range n).map fun i : Nat => D.int (i : Int), []) h' := by
  rw [evI_rg1, e, bind_ok, rg1_ok small62 n h' (small_nat hs), Int.toNat_natCast, rangeD_up]
theorem evI_rng2 {a b : CE} {ρ : St} {h h' h2 : AH} {i j : Int} (e : evE G cl a ρ h = .ok (.int i) h') (e2 : evE G cl b ρ h' = .ok (.int j) h2) (hi : small62 i = true) (hj : small62 j = true) : evI G cl (.rng2 a b) ρ h = .ok (rangeD i (j - i).toNat 1, []) h2 := by
  rw [evI_rg2, e, bind_ok, e2, bind_ok, rg2_ok small62 i j h2 hi hj]
theorem evI_rng3 {a b c : CE} {ρ : St} {h h' h2 h3 : AH} {i j : Int} (e : evE G cl a ρ h = .ok (.int i) h') (e2 : evE G cl b ρ h' = .ok (.int j) h2) (e3 : evE G cl c ρ h2 = .ok (.int (-1)) h3) (hi : small62 i = true) (hj : small62 j = true) : evI G cl (.rng3 a b c) ρ h = .ok (rangeD i (i - j).toNat (-1), []) h3 := by
  rw [evI_rg3, e, bind_ok, e2, bind_ok, e3, bind_ok, rg3_ok small62 i j h3 hi hj]
theorem evL_range {it : CI} {ρ : St} {h h' : AH} {xs : List D} {ws : List Nat} (e : evI G cl it ρ h = .ok (xs, ws) h') (hl : xs.length ≤ sizeLine) : evL G cl (.range it) ρ h = .ok xs h' := by
  unfold evL
  rw [e]
  exact if_pos hl
theorem evE_new {l : CL} {ρ : St} {h h' : AH} {xs : List D} (e : evL G cl l ρ h = .ok xs h') : evE G cl (.new l) ρ h = .ok (.ref h'.length) (h' ++ [AO.lst xs false]) := by
  unfold evE
  rw [e]; rfl
theorem evE_bqL {f : BQ} {l : CL} {ρ : St} {h h' : AH} {xs : List D} {d : D} (e : evL G cl l ρ h = .ok xs h') (e2 : bqD f xs = some d) : evE G cl (.bq f (.l l)) ρ h = .ok d h' := by
  unfold evE
  unfold evQ
  rw [e, bind_ok, e2]; rfl
theorem evE_bqE {f : BQ} {a : CE} {ρ : St} {h h' : AH} {xs : List D} {d x : D} (e : evE G cl a ρ h = .ok x h') (es : seqD .q h' x = some xs) (e2 : bqD f xs = some d) : evE G cl (.bq f (.e a)) ρ h = .ok d h' := by
  unfold evE
  unfold evQ
  rw [e, bind_ok]
  have k : seqD .k h' x = some xs := by
    cases x with
    | tup ys => simpa [seqD] using es
    | ref n =>
      simp only [seqD] at es ⊢
      split at es <;> simp_all
    | _ => simp [seqD] at es
  cases f <;> simp only [k, es, opt_some, bind_ok, e2]
/-- a list made by turns over what nobody else holds -/
theorem evL_comp {elt : CE} {tg : Tg} {it : CI} {ifs : CEs} {own : List Nat} {ρ : St} {h h0 : AH} {xs : List D} {ws : List Nat} {ys : List D} {h' : AH} (e : evI G cl it ρ h = .ok (xs, ws) h0) (hl : lk1 h0 ws = none)
    (hc : compGo (sameH h0 ws) (fun x h => match asgD h tg x (wipeS ρ own) with
        | some ρ1 => (evIfs G cl ifs ρ1 h).bind fun b h => if b then (evE G cl elt ρ1 h).bind fun y h => .ok [y] h else .ok [] h
        | none => .bad) xs h0 = .ok ys h') : evL G cl (.comp elt tg it ifs own) ρ h = .ok ys h' := by
  have hk : lockH ws h0 = h0 := by simp only [lockH, hl]
  unfold evL
  rw [e]
  show R.unlock h0 ws (R.calm (compGo (sameH (lockH ws h0) ws) _ xs (lockH ws h0))) = _
  refine Eq.trans (congrArg (a₂ := .ok ys h') (fun z => R.unlock h0 ws (R.calm z)) ?_) ?_
  · rw [hk]; exact hc
  · simp only [R.calm, R.unlock, unlockH, hl]
theorem evIfs_nil (ρ : St) (h : AH) : evIfs G cl .nil ρ h = .ok true h := rfl
end
end Rw
namespace Rw
open PySem PySem.W En
theorem compGo_invN {sm : AH → Bool} {el : D → AH → R (List D)} {I : Nat → AH → Prop} {P : D → Prop} (hs : ∀ k h, I k h → sm h = true) : ∀ {xs : List D}, (∀ x ∈ xs, ∀ k h, I (k + 1) h → ∃ y h', el x h = .ok [y] h' ∧ I k h' ∧ P y) → xs.length ≤ sizeLine → ∀ h, I xs.length h → ∃ ys h', compGo sm el xs h = .ok ys h' ∧ I 0 h' ∧ ys.length = xs.length ∧ ∀ y ∈ ys, P y
  | [], _, _, h, hi => ⟨[], h, by unfold compGo; rw [if_pos (hs _ h hi)], hi, rfl, fun y hy => by cases hy⟩
  | x :: xs, he, hl, h, hi => by
    obtain ⟨y, h1, e1, i1, p1⟩ := he x (List.mem_cons_self ..) _ h hi
    obtain ⟨ys, h2, e2, i2, l2, p2⟩ := compGo_invN hs (fun y hy => he y (List.mem_cons_of_mem _ hy)) (by simp at hl; omega) h1 i1
    refine ⟨y :: ys, h2, ?_, i2, by simp [l2], fun z hz => ?_⟩
    · unfold compGo
      rw [if_pos (hs _ h hi), e1, bind_ok, e2, bind_ok, if_pos (by simp at hl ⊢; omega)]
      rfl
    · rcases List.mem_cons.mp hz with e | e
      · rw [e]; exact p1
      · exact p2 z e
theorem asg_own (h : AH) (i : Nat) (d : D) (ρ : St) : asgD h (.nm i) d (wipeS ρ [i]) = some (ρ.set i (some d)) := by
  show some ((ρ.set i none).set i (some d)) = _
  rw [List.set_set]
theorem at_set {ρ : St} {i j : Nat} {d : D} {o : Option D} (hij : i ≠ j) : atS (ρ.set i o) j = atS ρ j := by
  unfold atS
  rw [List.getElem?_set_ne hij]
theorem at_self {ρ : St} {i : Nat} {d : D} (hi : i < ρ.length) : atS (ρ.set i (some d)) i = some d := by
  unfold atS
  rw [List.getElem?_set_self hi]; rfl
section
variable {G : GE} {cl : Nat → List D → AH → R D}
theorem evE_var {i : Nat} {ρ : St} {h : AH} {d : D} (e : atS ρ i = some d) : evE G cl (.var i) ρ h = .ok d h := by
  unfold evE
  rw [e]; rfl
theorem evE_call {f : Nat} {es : CEs} {ρ : St} {h h' h2 : AH} {xs : List D} {d : D} (e : evEs G cl es ρ h = .ok xs h') (e2 : cl f xs h' = .ok d h2) : evE G cl (.call f es) ρ h = .ok d h2 := by
  unfold evE
  rw [e]; exact e2
theorem evEs_1 {a : CE} {ρ : St} {h h' : AH} {x : D} (e : evE G cl a ρ h = .ok x h') : evEs G cl (.cons a .nil) ρ h = .ok [x] h' := by
  unfold evEs
  rw [e]
  unfold evEs
  rfl
theorem evEs_cons {a : CE} {r : CEs} {ρ : St} {h h' h2 : AH} {x : D} {xs : List D} (e : evE G cl a ρ h = .ok x h') (e2 : evEs G cl r ρ h' = .ok xs h2) : evEs G cl (.cons a r) ρ h = .ok (x :: xs) h2 := by
  unfold evEs
  rw [e, bind_ok, e2]; rfl
end
end Rw
namespace Rw
open PySem PySem.W En
section
variable {G : GE} {cl : Nat → List D → AH → R D}
theorem evE_cst (d : D) (ρ : St) (h : AH) : evE G cl (.cst d) ρ h = .ok d h := rfl
theorem evE_glb {i : Nat} {ρ : St} {h : AH} {d : D} (e : G.globs[i]? = some d) : evE G cl (.glb i) ρ h = .ok d h := by
  unfold evE
  rw [e]; rfl
theorem evE_bin {op : Operator} {a b : CE} {ρ : St} {h h1 h2 : AH} {x y d : D} (ea : evE G cl a ρ h = .ok x h1) (eb : evE G cl b ρ h1 = .ok y h2) (e : binD op x y = some d) : evE G cl (.bin op a b) ρ h = .ok d h2 := by
  unfold evE
  rw [ea, bind_ok, eb, bind_ok, e]; rfl
theorem evE_cmp {op : CmpOp} {a b : CE} {ρ : St} {h h1 h2 : AH} {x y : D} {v : Bool} (ea : evE G cl a ρ h = .ok x h1) (eb : evE G cl b ρ h1 = .ok y h2) (e : cmpD h2 op x y = some v) : evE G cl (.cmp op a b) ρ h = .ok (.bl v) h2 := by
  unfold evE
  rw [ea, bind_ok, eb, bind_ok, e]; rfl
theorem evE_cmpL {op : CmpOp} {a : CE} {l : CL} {ρ : St} {h h1 h2 : AH} {x : D} {ys : List D} {v : Bool} (ea : evE G cl a ρ h = .ok x h1) (eb : evL G cl l ρ h1 = .ok ys h2) (e : cmpD (h2 ++ [AO.lst ys false]) op x (.ref h2.length) = some v) : evE G cl (.cmpL op a l) ρ h = .ok (.bl v) h2 := by
  unfold evE
  rw [ea, bind_ok, eb, bind_ok, e]; rfl
theorem evE_ite {c a b : CE} {ρ : St} {h h1 : AH} {p : Bool} (e : evE G cl c ρ h = .ok (.bl p) h1) : evE G cl (.ite c a b) ρ h = if p = true then evE G cl a ρ h1 else evE G cl b ρ h1 := by
  conv => lhs; unfold evE
  rw [e]
  cases p <;> rfl
theorem evE_and {a b : CE} {ρ : St} {h h1 : AH} {p : Bool} (e : evE G cl a ρ h = .ok (.bl p) h1) : evE G cl (.and a b) ρ h = if p = true then evE G cl b ρ h1 else .ok (.bl false) h1 := by
  conv => lhs; unfold evE
  rw [e]
  cases p <;> rfl
theorem evE_or {a b : CE} {ρ : St} {h h1 : AH} {p : Bool} (e : evE G cl a ρ h = .ok (.bl p) h1) : evE G cl (.or a b) ρ h = if p = true then .ok (.bl true) h1 else evE G cl b ρ h1 := by
  conv => lhs; unfold evE
  rw [e]
  cases p <;> rfl
theorem evE_and2 {a b : CE} {ρ : St} {h h1 h2 : AH} {p q : Bool} (e : evE G cl a ρ h = .ok (.bl p) h1) (e2 : p = true → evE G cl b ρ h1 = .ok (.bl q) h2) (e3 : p = false → h1 = h2) : evE G cl (.and a b) ρ h = .ok (.bl (p && q)) h2 := by
  rw [evE_and e]
  cases p
  · rw [e3 rfl]; rfl
  · rw [if_pos rfl, e2 rfl]; rfl
theorem evE_or2 {a b : CE} {ρ : St} {h h1 h2 : AH} {p q : Bool} (e : evE G cl a ρ h = .ok (.bl p) h1) (e2 : p = false → evE G cl b ρ h1 = .ok (.bl q) h2) (e3 : p = true → h1 = h2) : evE G cl (.or a b) ρ h = .ok (.bl (p || q)) h2 := by
  rw [evE_or e]
  cases p
  · rw [if_neg (by decide), e2 rfl]; rfl
  · rw [e3 rfl]; rfl
theorem evE_not {a : CE} {ρ : St} {h h1 : AH} {p : Bool} (e : evE G cl a ρ h = .ok (.bl p) h1) : evE G cl (.not a) ρ h = .ok (.bl (!p)) h1 := by
  unfold evE
  rw [e]; rfl
theorem evE_ix {a i : CE} {ρ : St} {h h1 h2 : AH} {x y d : D} (ea : evE G cl a ρ h = .ok x h1) (eb : evE G cl i ρ h1 = .ok y h2) (e : ixD h2 x y = some d) : evE G cl (.ix a i) ρ h = .ok d h2 := by
  unfold evE
  rw [ea, bind_ok, eb, bind_ok, e]; rfl
theorem evE_tup {es : CEs} {ρ : St} {h h1 : AH} {xs : List D} (e : evEs G cl es ρ h = .ok xs h1) (hl : xs.length ≤ sizeLine) : evE G cl (.tup es) ρ h = .ok (.tup xs) h1 := by
  unfold evE
  rw [e]; exact if_pos hl
theorem evE_isi {a : CE} {t : ITy} {ρ : St} {h h1 : AH} {x : D} {b : Bool} (e : evE G cl a ρ h = .ok x h1) (e2 : isiD h1 x t = some b) : evE G cl (.isi a t) ρ h = .ok (.bl b) h1 := by
  unfold evE
  rw [e, bind_ok, e2]; rfl
theorem evE_append {o e : CE} {ρ : St} {h h1 h2 : AH} {n : Nat} {xs xs0 : List D} {lk : Bool} {y : D} (eo : evE G cl o ρ h = .ok (.ref n) h1) (h0 : h1[n]? = some (.lst xs0 lk)) (ee : evE G cl e ρ h1 = .ok y h2) (hn : h2[n]? = some (.lst xs false)) (hl : xs.length < sizeLine) : evE G cl (.append o e) ρ h = .ok .non (h2.set n (.lst (xs ++ [y]) false)) := by
  unfold evE
  rw [eo, bind_ok, lstN_ofV h0, opt_some, bind_ok, ee, bind_ok, hn]
  exact if_pos hl
theorem evS_expr {e : CE} {ρ : St} {h h1 : AH} {d : D} (e1 : evE G cl e ρ h = .ok d h1) : evS G cl (.expr e) ρ h = .nx ρ h1 := by
  unfold evS
  rw [e1]
theorem evS_aug {i : Nat} {op : Operator} {e : CE} {ρ : St} {h h1 : AH} {x y d : D} (e0 : atS ρ i = some x) (e1 : evE G cl e ρ h = .ok y h1) (e2 : augD op x y = some d) : evS G cl (.aug i op e) ρ h = .nx (ρ.set i (some d)) h1 := by
  unfold evS
  rw [e0, opt_some, bind_ok, e1, bind_ok, e2]; rfl
theorem evS_par {is : List Nat} {es : CEs} {ρ : St} {h h1 : AH} {ds : List D} (e1 : evEs G cl es ρ h = .ok ds h1) (hl : ds.length = is.length) : evS G cl (.par is es) ρ h = .nx (setS is ds ρ) h1 := by
  unfold evS
  rw [e1]
  exact if_pos hl
theorem evS_setIx {o i v : CE} {ρ : St} {h h1 h2 h3 h4 : AH} {x y z : D} (ev : evE G cl v ρ h = .ok z h1) (eo : evE G cl o ρ h1 = .ok x h2) (ei : evE G cl i ρ h2 = .ok y h3) (ep : evS.putD h3 x y z = .ok .non h4) : evS G cl (.setIx o i v) ρ h = .nx ρ h4 := by
  unfold evS
  rw [ev, bind_ok, eo, bind_ok, ei, bind_ok, ep]
theorem evS_ifT {c : CE} {a b : CSs} {ρ : St} {h h' : AH} (e : evE G cl c ρ h = .ok (.bl true) h') : evS G cl (.ife c a b) ρ h = evSs G cl a ρ h' := evS_ife G cl e
theorem evS_ifF {c : CE} {a b : CSs} {ρ : St} {h h' : AH} (e : evE G cl c ρ h = .ok (.bl false) h') : evS G cl (.ife c a b) ρ h = evSs G cl b ρ h' := evS_ife G cl e
/-- if c: (no way out of this) .. else nothing -/
theorem evS_no {c : CE} {a : CSs} {ρ : St} {h h' : AH} (e : evE G cl c ρ h = .ok (.bl false) h') : evS G cl (.ife c a .nil) ρ h = .nx ρ h' := by rw [evS_ifF e]; unfold evSs; rfl
theorem evSs_nil (ρ : St) (h : AH) : evSs G cl .nil ρ h = .nx ρ h := by unfold evSs; rfl
theorem evL_disp {es : CEs} {ρ : St} {h h1 : AH} {xs : List D} (e : evEs G cl es ρ h = .ok xs h1) (hl : xs.length ≤ sizeLine) : evL G cl (.disp es) ρ h = .ok xs h1 := by
  unfold evL
  rw [e]; exact if_pos hl
theorem evEs_nil (ρ : St) (h : AH) : evEs G cl .nil ρ h = .ok [] h := rfl
end
end Rw
namespace Rw
open PySem PySem.W En
theorem gc_fl {h h' : AH} {kill : List Nat} {ρ : St} (f : Fl h h') (hu : ∀ d : D, some d ∈ wipeS ρ kill → d.under h.length = true) : RS.gc h kill (.nx ρ h') = .nx (wipeS ρ kill) h' := by
  show RS.nx (gcS _ _ _ _).1 (gcS _ _ _ _).2 = _
  rw [gcS_fl f hu]
theorem gc_fla {h h' t : AH} {kill : List Nat} {ρ : St} (f : Fl h h') (hu : ∀ d : D, some d ∈ wipeS ρ kill → d.under h.length = true) : RS.gc h kill (.nx ρ (h' ++ t)) = .nx (wipeS ρ kill) h' := by
  show RS.nx (gcS _ _ _ _).1 (gcS _ _ _ _).2 = _
  rw [gcS_fla f hu]
theorem Fl.sets {h : AH} {r : Nat} {o o' : AO} (ho : o'.flat = true) : Fl (h.set r o) (h.set r o') := by
  refine ⟨by rw [List.length_set, List.length_set], fun i p hi => ?_⟩
  by_cases q : r = i
  · subst q; left
    rw [get_set (by have := lt_of_get hi; rwa [List.length_set] at this)] at hi
    injection hi with hi; rw [← hi]; exact ho
  · right
    rw [List.getElem?_set_ne q] at hi ⊢
    exact hi
end Rw
namespace Rw
open PySem PySem.W En
def StU (n : Nat) (ρ : St) : Prop := ∀ d : D, some d ∈ ρ → d.under n = true
theorem stU_nil (n : Nat) : StU n [] := fun _ h => by cases h
theorem stU_none {n : Nat} {ρ : St} (h : StU n ρ) : StU n (none :: ρ) := fun d hd => by
  rcases List.mem_cons.mp hd with e | e
  · cases e
  · exact h d e
theorem stU_some {n : Nat} {d : D} {ρ : St} (hd : d.under n = true) (h : StU n ρ) : StU n (some d :: ρ) := fun d' hd' => by
  rcases List.mem_cons.mp hd' with e | e
  · injection e with e; rw [e]; exact hd
  · exact h d' e
theorem under_ref {n k : Nat} (h : k < n) : (D.ref k).under n = true := decide_eq_true h
end Rw
namespace Rw
open PySem PySem.W En
theorem evEs_star {G : GE} {cl : Nat → List D → AH → R D} {a : CE} {r : CEs} {ρ : St} {h h' h2 : AH} {x : D} {ys xs : List D} (e : evE G cl a ρ h = .ok x h') (es : seqD .q h' x = some ys) (e2 : evEs G cl r ρ h' = .ok xs h2) : evEs G cl (.star (.e a) r) ρ h = .ok (ys ++ xs) h2 := by
  unfold evEs
  unfold evQ
  rw [e, bind_ok, es, opt_some, bind_ok, e2]; rfl
theorem evEs_starL {G : GE} {cl : Nat → List D → AH → R D} {l : CL} {r : CEs} {ρ : St} {h h' h2 : AH} {ys xs : List D} (e : evL G cl l ρ h = .ok ys h') (e2 : evEs G cl r ρ h' = .ok xs h2) : evEs G cl (.star (.l l) r) ρ h = .ok (ys ++ xs) h2 := by
  unfold evEs
  unfold evQ
  rw [e, bind_ok, e2]; rfl
end Rw
namespace Rw
open PySem PySem.W En
/-- one new object is still named, by some names -/
theorem liveR_one {n r : Nat} (hr : n ≤ r) : ∀ {ρ : St} {acc : List Nat}, (∀ d : D, some d ∈ ρ → d.under n = true ∨ d = .ref r) → acc = [] ∨ acc = [r] → (some (D.ref r) ∈ ρ ∨ acc = [r]) → liveR n ρ acc = [r]
  | [], acc, _, ha, hm => by
    rcases hm with h | h
    · cases h
    · rw [h]; rfl
  | none :: ρ, acc, h, ha, hm => by
    rw [liveR]
    · exact liveR_one hr (fun d hd => h d (List.mem_cons_of_mem _ hd)) ha (by
        rcases hm with h2 | h2
        · rcases List.mem_cons.mp h2 with e | e
          · cases e
          · exact Or.inl e
        · exact Or.inr h2)
    · intro r e; cases e
  | some d :: ρ, acc, h, ha, hm => by
    have h2 : ∀ d : D, some d ∈ ρ → d.under n = true ∨ d = .ref r := fun d hd => h d (List.mem_cons_of_mem _ hd)
    have h1 := h d (List.mem_cons_self ..)
    cases d with
    | ref k =>
      rw [liveR]
      by_cases hk : k = r
      · subst hk
        rcases ha with rfl | rfl
        · rw [if_pos (by simp [hr])]
          exact liveR_one hr h2 (Or.inr rfl) (Or.inr rfl)
        · rw [if_neg (by simp)]
          exact liveR_one hr h2 (Or.inr rfl) (Or.inr rfl)
      · have h3 : k < n := by
          rcases h1 with h1 | h1
          · exact of_decide_eq_true h1
          · injection h1 with h1; exact absurd h1 hk
        rw [if_neg (by simp; omega)]
        exact liveR_one hr h2 ha (by
          rcases hm with h4 | h4
          · rcases List.mem_cons.mp h4 with e | e
            · injection e with e; injection e with e; exact absurd e.symm hk
            · exact Or.inl e
          · exact Or.inr h4)
    | _ =>
      rw [liveR]
      · exact liveR_one hr h2 ha (by
          rcases hm with h4 | h4
          · rcases List.mem_cons.mp h4 with e | e
            · cases e
            · exact Or.inl e
          · exact Or.inr h4)
      · intro r e; cases e
theorem gc_one {h h1 t : AH} {kill : List Nat} {ρ ρ1 ρ2 : St} {k : Nat} {o : AO} (f : Fl h h1) (ht : t[k]? = some o) (ho : o.flat = true) (hw : wipeS ρ kill = ρ1) (hu : ∀ d : D, some d ∈ ρ1 → d.under h.length = true ∨ d = .ref (h.length + k)) (hm : some (D.ref (h.length + k)) ∈ ρ1)
    (h2 : ρ1.map (·.bind (renD h.length [h.length + k])) = ρ2) : RS.gc h kill (.nx ρ (h1 ++ t)) = .nx ρ2 (h1 ++ [o]) := by
  show RS.nx (gcS _ _ _ _).1 (gcS _ _ _ _).2 = _
  have e : gcS h (h1 ++ t) kill ρ = (ρ2, h1 ++ [o]) := by
    unfold gcS
    simp only [f.olds_app, if_true, hw]
    rw [liveR_one (by omega) hu (Or.inl rfl) (Or.inl hm)]
    simp only [List.mapM_cons, List.mapM_nil]
    rw [fl_get f.1, ht]
    show (if _ then _ else _) = _
    rw [if_pos (by show ([o].all AO.flat) = true; simp [ho])]
    unfold renS
    rw [h2, List.take_append_of_le_length (by rw [f.1]; exact Nat.le_refl _), List.take_of_length_le (by rw [f.1]; exact Nat.le_refl _)]
  rw [e]
end Rw
set_option Elab.async false
set_option linter.all false
set_option maxRecDepth 100000
set_option maxHeartbeats 4000000
namespace Rw
open PySem PySem.W En
/-! ## natural numbers, rows of them -/
instance : DatumOrd Nat where
  toD n := .int n
  plain _ := rfl
  eqv a b := by
    simp only [PyData.eqv]
    rw [beq_decide]
    exact decide_eq_decide.mpr (by omega)
  depth := 0
  depth_le _ := Nat.le_refl _
  lt a b := decide (a < b)
  alike a b := by show PySem.W.alike (.int a) (.int b) = true; simp only [PySem.W.alike]
  notNone a := fun e => by cases e
  lt_eq a b := (dataLt_int a b).trans (decide_eq_decide.mpr (by omega))
instance : En Nat where
  enc n := .int n
  pd h a k hk := by cases k with | zero => cases hk | succ k => rfl
  toP _ := rfl
  data _ := rfl
  flat _ := rfl
  lay _ := rfl
theorem nk_nats (xs : List Nat) : (xs.map (enc : Nat → D)).mapM (D.nk 7) = some (xs.map fun n : Nat => NestedKey.num n) := by
  rw [mapM_someV (g := fun d => match d with | .int i => NestedKey.num i | _ => .none) (fun x hx => by
    obtain ⟨a, _, e⟩ := List.mem_map.mp hx
    rw [← e]; rfl), List.map_map]
  rfl
instance : Ky Nat where
  t := false
  k n := .num n
  key _ := rfl
  inj a b h := by injection h with h; omega
instance : Ky (Tup Nat) where
  t := true
  k t := .tup (t.items.map fun n : Nat => .num n)
  key t := by
    show (((t.items.map enc).mapM (D.nk 7)).map NestedKey.tup).map _ = _
    rw [nk_nats]; rfl
  inj a b h := by
    have : a.items.map (fun n : Nat => NestedKey.num n) = b.items.map fun n : Nat => NestedKey.num n := by injection h
    have := List.map_inj_right (f := fun n : Nat => NestedKey.num n) (fun x y e => by injection e with e; omega) |>.mp this
    cases a; cases b; exact congrArg Tup.mk this
/-! ### rising rows -/
def insN (x : Nat) : List Nat → List Nat
  | [] => [x]
  | y :: ys => if x < y then x :: y :: ys else if x = y then y :: ys else y :: insN x ys
def setN : List Nat → List Nat
  | [] => []
  | x :: xs => insN x (setN xs)
def Asc (xs : List Nat) : Prop := xs.Pairwise (· < ·)
theorem insN_mem (x z : Nat) : ∀ ys : List Nat, z ∈ insN x ys ↔ z = x ∨ z ∈ ys
  | [] => by simp [insN]
  | y :: ys => by
    unfold insN
    split
    · simp
    · split
      · rename_i h; subst h; simp
      · rw [List.mem_cons, insN_mem x z ys, List.mem_cons]
        constructor
        · rintro (h | h | h) <;> simp [h]
        · rintro (h | h | h) <;> simp [h]
theorem setN_mem (z : Nat) : ∀ xs : List Nat, z ∈ setN xs ↔ z ∈ xs
  | [] => by simp [setN]
  | x :: xs => by simp [setN, insN_mem, setN_mem z xs]
theorem insN_asc (x : Nat) : ∀ {ys : List Nat}, Asc ys → Asc (insN x ys)
  | [], _ => by simp [insN, Asc]
  | y :: ys, h => by
    have h2 := List.pairwise_cons.mp h
    unfold insN
    split
    · rename_i hx
      exact List.pairwise_cons.mpr ⟨fun z hz => by
        rcases List.mem_cons.mp hz with e | e
        · omega
        · have := h2.1 z e; omega, h⟩
    · split
      · exact h
      · refine List.pairwise_cons.mpr ⟨fun z hz => ?_, insN_asc x h2.2⟩
        rcases (insN_mem x z ys).mp hz with e | e
        · omega
        · exact h2.1 z e
theorem setN_asc : ∀ xs : List Nat, Asc (setN xs)
  | [] => by simp [setN, Asc]
  | x :: xs => insN_asc x (setN_asc xs)
theorem asc_eq : ∀ {xs ys : List Nat}, Asc xs → Asc ys → (∀ z, z ∈ xs ↔ z ∈ ys) → xs = ys
  | [], [], _, _, _ => rfl
  | [], y :: ys, _, _, h => absurd ((h y).mpr (List.mem_cons_self ..)) (by simp)
  | x :: xs, [], _, _, h => absurd ((h x).mp (List.mem_cons_self ..)) (by simp)
  | x :: xs, y :: ys, h1, h2, h => by
    have a1 := List.pairwise_cons.mp h1
    have a2 := List.pairwise_cons.mp h2
    have e : x = y := by
      rcases List.mem_cons.mp ((h x).mp (List.mem_cons_self ..)) with e | e
      · exact e
      · rcases List.mem_cons.mp ((h y).mpr (List.mem_cons_self ..)) with e2 | e2
        · exact e2.symm
        · have := a2.1 x e
          have := a1.1 y e2
          omega
    subst e
    rw [asc_eq a1.2 a2.2 fun z => ?_]
    have hz := h z
    rw [List.mem_cons, List.mem_cons] at hz
    constructor
    · intro hm
      rcases hz.mp (Or.inr hm) with e | e
      · have := a1.1 z hm; omega
      · exact e
    · intro hm
      rcases hz.mpr (Or.inr hm) with e | e
      · have := a2.1 z hm; omega
      · exact e
theorem insU_nat (x : Nat) : ∀ ys : List Nat, insU (x : Int) (ys.map fun n : Nat => (n : Int)) = (insN x ys).map fun n : Nat => (n : Int)
  | [] => rfl
  | y :: ys => by
    show (if (x : Int) < y then _ else if (x : Int) = y then _ else _) = _
    unfold insN
    by_cases h1 : x < y
    · rw [if_pos h1, if_pos (by omega)]; rfl
    · rw [if_neg h1, if_neg (by omega)]
      by_cases h2 : x = y
      · rw [if_pos h2, if_pos (by omega)]; rfl
      · rw [if_neg h2, if_neg (by omega), insU_nat x ys]; rfl
theorem setI_nat : ∀ xs : List Nat, setI (xs.map fun n : Nat => (n : Int)) = (setN xs).map fun n : Nat => (n : Int)
  | [] => rfl
  | x :: xs => by
    show insU (x : Int) (setI (xs.map _)) = _
    rw [setI_nat xs, insU_nat]; rfl
theorem asc_nd {xs : List Nat} (h : Asc xs) : xs.Nodup := List.Pairwise.imp (fun h => by omega) h
theorem insO_asc (x : Nat) : ∀ {ys : List Nat}, Asc ys → x ∉ ys → Asc (insO x ys)
  | [], _, _ => by simp [insO, Asc]
  | y :: ys, h, hx => by
    have h2 := List.pairwise_cons.mp h
    have hx2 : x ≠ y ∧ x ∉ ys := by simpa using hx
    unfold insO
    show Asc (if decide (y < x) = true then _ else _)
    by_cases h1 : y < x
    · rw [if_pos (by simpa using h1)]
      refine List.pairwise_cons.mpr ⟨fun z hz => ?_, insO_asc x h2.2 hx2.2⟩
      rcases (insO_mem x z ys).mp hz with e | e
      · omega
      · exact h2.1 z e
    · rw [if_neg (by simpa using h1)]
      exact List.pairwise_cons.mpr ⟨fun z hz => by
        rcases List.mem_cons.mp hz with e | e
        · omega
        · have := h2.1 z e; omega, h⟩
theorem sortO_asc : ∀ {xs : List Nat}, xs.Nodup → Asc (sortO xs)
  | [], _ => by simp [sortO, Asc]
  | x :: xs, h => by
    have h2 := List.nodup_cons.mp h
    exact insO_asc x (sortO_asc h2.2) fun hm => h2.1 ((sortO_mem x xs).mp hm)
theorem sortO_set {xs ys : List Nat} (hn : xs.Nodup) (h : ∀ z, z ∈ xs ↔ z ∈ ys) : sortO xs = setN ys := asc_eq (sortO_asc hn) (setN_asc ys) fun z => by rw [sortO_mem, setN_mem, h z]
theorem insN_len (x : Nat) : ∀ ys : List Nat, (insN x ys).length ≤ ys.length + 1
  | [] => by simp [insN]
  | y :: ys => by
    unfold insN
    split
    · simp
    · split
      · simp
      · have := insN_len x ys; simp; omega
theorem setN_len : ∀ xs : List Nat, (setN xs).length ≤ xs.length
  | [] => Nat.le_refl _
  | x :: xs => by
    have := setN_len xs
    have := insN_len x (setN xs)
    show (insN x (setN xs)).length ≤ xs.length + 1
    omega
theorem setN_lt {m : Nat} {xs : List Nat} (h : ∀ x ∈ xs, x < m) : (setN xs).length ≤ m := by
  have : (setN xs).length ≤ (List.range m).length := (asc_nd (setN_asc xs)).length_le_of_subset fun z hz => List.mem_range.mpr (h z ((setN_mem z xs).mp hz))
  rwa [List.length_range] at this
/-- as long as the row: no two alike -/
theorem setN_full {xs : List Nat} : (setN xs).length = xs.length ↔ xs.Nodup := by
  constructor
  · induction xs with
    | nil => intro _; exact List.nodup_nil
    | cons x xs ih =>
      intro h
      have h1 := setN_len xs
      have h2 := insN_len x (setN xs)
      have h3 : (insN x (setN xs)).length = xs.length + 1 := h
      refine List.nodup_cons.mpr ⟨fun hm => ?_, ih (by omega)⟩
      have hm2 := (setN_mem x xs).mpr hm
      have h4 : insN x (setN xs) = setN xs := asc_eq (insN_asc x (setN_asc xs)) (setN_asc xs) fun z => by
        rw [insN_mem]
        constructor
        · rintro (e | e)
          · rw [e]; exact hm2
          · exact e
        · exact Or.inr
      rw [h4] at h3
      omega
  · intro h
    have h1 := setN_len xs
    have h2 : xs.length ≤ (setN xs).length := h.length_le_of_subset fun z hz => (setN_mem z xs).mpr hz
    omega
/-! ### all rising rows below m -/
def subs : List Nat → List (List Nat)
  | [] => [[]]
  | x :: xs => subs xs ++ (subs xs).map (x :: ·)
theorem subs_len : ∀ xs : List Nat, (subs xs).length = 2 ^ xs.length
  | [] => rfl
  | x :: xs => by
    show (subs xs ++ (subs xs).map _).length = _
    rw [List.length_append, List.length_map, subs_len xs, List.length_cons, Nat.pow_succ]
    omega
theorem subs_mem : ∀ {us xs : List Nat}, Asc us → Asc xs → (∀ z ∈ xs, z ∈ us) → xs ∈ subs us
  | [], [], _, _, _ => by simp [subs]
  | [], x :: xs, _, _, h => absurd (h x (List.mem_cons_self ..)) (by simp)
  | u :: us, [], hu, _, _ => by
    have := subs_mem (us := us) (xs := []) (List.pairwise_cons.mp hu).2 (by simp [Asc]) (by simp)
    simp [subs, this]
  | u :: us, x :: xs, hu, hx, h => by
    have a1 := List.pairwise_cons.mp hu
    have a2 := List.pairwise_cons.mp hx
    show _ ∈ subs us ++ (subs us).map (u :: ·)
    rw [List.mem_append]
    by_cases e : x = u
    · subst e
      right
      refine List.mem_map.mpr ⟨xs, subs_mem a1.2 a2.2 fun z hz => ?_, rfl⟩
      rcases List.mem_cons.mp (h z (List.mem_cons_of_mem _ hz)) with e | e
      · have := a2.1 z hz; omega
      · exact e
    · left
      have hx2 : x ∈ us := by
        rcases List.mem_cons.mp (h x (List.mem_cons_self ..)) with e2 | e2
        · exact absurd e2 e
        · exact e2
      refine subs_mem a1.2 hx fun z hz => ?_
      rcases List.mem_cons.mp (h z hz) with e2 | e2
      · have h1 := a1.1 x hx2
        rcases List.mem_cons.mp hz with e3 | e3
        · omega
        · have := a2.1 z e3; omega
      · exact e2
theorem range_asc (m : Nat) : Asc (List.range m) := by
  unfold Asc
  exact List.pairwise_lt_range
end Rw
namespace Rw
open PySem PySem.W En
section
variable {α β : Type} [DecidableEq α] [Ky α]
theorem aput_old {a : α} {b : β} : ∀ {kvs : List (α × β)}, a ∈ kvs.map (·.1) → (aput kvs a b).map (·.1) = kvs.map (·.1)
  | [], h => by cases h
  | (k', v') :: r, h => by
    unfold aput
    by_cases e : k' = a
    · rw [if_pos e]; rfl
    · rw [if_neg e, List.map_cons, List.map_cons, aput_old (kvs := r) (by
        rcases List.mem_cons.mp h with q | q
        · exact absurd q.symm e
        · exact q)]
theorem aput_keys {a : α} {b : β} {kvs : List (α × β)} (hn : (kvs.map (·.1)).Nodup) : ((aput kvs a b).map (·.1)).Nodup ∧ ∀ z, z ∈ (aput kvs a b).map (·.1) ↔ z ∈ kvs.map (·.1) ∨ z = a := by
  by_cases h : a ∈ kvs.map (·.1)
  · rw [aput_old h]
    exact ⟨hn, fun z => ⟨Or.inl, fun e => e.elim id fun e => by rw [e]; exact h⟩⟩
  · rw [aput_new h, List.map_append]
    refine ⟨List.nodup_append.mpr ⟨hn, by simp, fun x hx y hy e => h ?_⟩, fun z => by simp⟩
    simp at hy
    rw [← hy, ← e]; exact hx
def aputs (f : α → β) (xs : List α) (acc : List (α × β)) : List (α × β) := xs.foldl (fun acc x => aput acc x (f x)) acc
theorem aputs_keys {f : α → β} : ∀ {xs : List α} {acc : List (α × β)}, (acc.map (·.1)).Nodup → ((aputs f xs acc).map (·.1)).Nodup ∧ ∀ z, z ∈ (aputs f xs acc).map (·.1) ↔ z ∈ acc.map (·.1) ∨ z ∈ xs
  | [], acc, h => ⟨h, fun z => by simp [aputs]⟩
  | x :: xs, acc, h => by
    have h1 := aput_keys (a := x) (b := f x) h
    have h2 := aputs_keys (f := f) (xs := xs) h1.1
    refine ⟨h2.1, fun z => (h2.2 z).trans ?_⟩
    rw [h1.2, List.mem_cons, or_assoc]
theorem dputs_en (g : β → D) (f : α → β) : ∀ (xs : List α) (acc : List (α × β)), (xs.map fun x => D.tup [enc x, g (f x)]).foldl (fun acc p => dput acc (pairFst p) (pairSnd p)) (encD g acc) = encD g (aputs f xs acc)
  | [], _ => rfl
  | x :: xs, acc => by
    rw [List.map_cons, List.foldl_cons]
    show List.foldl _ (dput (encD g acc) (enc x) (g (f x))) _ = _
    rw [dput_en, dputs_en g f xs]
    rfl
end
theorem evD_comp {G : GE} {cl : Nat → List D → AH → R D} {k v : CE} {tg : Tg} {it : CI} {ifs : CEs} {own : List Nat} {ρ : St} {h h0 : AH} {xs : List D} {ws : List Nat} {ps : List D} {h' : AH} (e : evI G cl it ρ h = .ok (xs, ws) h0) (hl : lk1 h0 ws = none)
    (hc : compGo (sameH h0 ws) (fun x h => match asgD h tg x (wipeS ρ own) with
        | some ρ1 => (evIfs G cl ifs ρ1 h).bind fun b h => if b then ((evE G cl k ρ1 h).bind fun y h => (evE G cl v ρ1 h).bind fun z h => .ok (D.tup [y, z]) h).bind fun y h => .ok [y] h else .ok [] h
        | none => .bad) xs h0 = .ok ps h') (hk : (ps.map pairFst).all flatK = true) : evD G cl (.comp k v tg it ifs own) ρ h = .ok (ps.foldl (fun acc p => dput acc (pairFst p) (pairSnd p)) []) h' := by
  have hk2 : lockH ws h0 = h0 := by simp only [lockH, hl]
  unfold evD
  rw [e]
  show (R.unlock h0 ws (R.calm (compGo (sameH (lockH ws h0) ws) _ xs (lockH ws h0)))).bind _ = _
  have e2 : R.unlock h0 ws (R.calm (compGo (sameH (lockH ws h0) ws) (fun x h => match asgD h tg x (wipeS ρ own) with
        | some ρ1 => (evIfs G cl ifs ρ1 h).bind fun b h => if b then ((evE G cl k ρ1 h).bind fun y h => (evE G cl v ρ1 h).bind fun z h => .ok (D.tup [y, z]) h).bind fun y h => .ok [y] h else .ok [] h
        | none => .bad) xs (lockH ws h0))) = .ok ps h' := by
    rw [hk2, hc]
    simp only [R.calm, R.unlock, unlockH, hl]
  refine Eq.trans (congrArg (fun z => R.bind z _) e2) ?_
  exact if_pos hk
end Rw
set_option linter.all false
set_option autoImplicit false
/-! ## walks through lots, plain -/
namespace PBfs
variable {L : Type} [DecidableEq L]
/-- rows: what each letter makes of a lot -/
def add (w : List Nat) (F : List (L × List Nat)) (p : Nat × L) : List (L × List Nat) := if p.2 ∈ F.map (·.1) then F else F ++ [(p.2, w ++ [p.1])]
def goals (rows : List (L → L)) (x : L) : List (Nat × L) := rows.zipIdx.map fun q => (q.2, q.1 x)
def step (rows : List (L → L)) (F : List (L × List Nat)) (x : L) (w : List Nat) : List (L × List Nat) := (goals rows x).foldl (add w) F
def bfs (rows : List (L → L)) : Nat → List (L × List Nat) → Nat → Option (List (L × List Nat))
  | 0, _, _ => none
  | n + 1, F, i => match F[i]? with
    | none => some F
    | some (x, w) => bfs rows n (step rows F x w) (i + 1)
theorem add_pre (w : List Nat) (F : List (L × List Nat)) (p : Nat × L) : F <+: add w F p := by
  unfold add
  split
  · exact List.prefix_refl _
  · exact List.prefix_append _ _
theorem fold_pre (w : List Nat) : ∀ (ps : List (Nat × L)) (F : List (L × List Nat)), F <+: ps.foldl (add w) F
  | [], F => List.prefix_refl _
  | p :: ps, F => (add_pre w F p).trans (fold_pre w ps _)
theorem step_pre (rows : List (L → L)) (F : List (L × List Nat)) (x : L) (w : List Nat) : F <+: step rows F x w := fold_pre w _ _
theorem add_mem (w : List Nat) (F : List (L × List Nat)) (p : Nat × L) : p.2 ∈ (add w F p).map (·.1) := by
  unfold add
  split
  · assumption
  · simp
theorem fold_mem (w : List Nat) : ∀ (ps : List (Nat × L)) (F : List (L × List Nat)), ∀ p ∈ ps, p.2 ∈ (ps.foldl (add w) F).map (·.1)
  | [], F => by simp
  | q :: ps, F => by
    intro p hp
    rcases List.mem_cons.mp hp with e | e
    · subst e
      have := ((fold_pre w ps (add w F p)).map (·.1)).subset
      exact this (add_mem w F p)
    · exact fold_mem w ps _ p e
theorem add_nd {w : List Nat} {F : List (L × List Nat)} {p : Nat × L} (h : (F.map (·.1)).Nodup) : ((add w F p).map (·.1)).Nodup := by
  unfold add
  split
  · exact h
  · rename_i hn
    rw [List.map_append, List.nodup_append]
    refine ⟨h, by simp, fun a ha b hb => ?_⟩
    simp at hb
    subst hb
    exact fun e => hn (by rw [← e]; exact ha)
theorem fold_nd {w : List Nat} : ∀ {ps : List (Nat × L)} {F : List (L × List Nat)}, (F.map (·.1)).Nodup → ((ps.foldl (add w) F).map (·.1)).Nodup
  | [], F, h => h
  | p :: ps, F, h => fold_nd (ps := ps) (add_nd h)
/-- what holds of all lots that come in holds of all -/
theorem fold_all {P : L × List Nat → Prop} {w : List Nat} : ∀ {ps : List (Nat × L)} {F : List (L × List Nat)}, (∀ q ∈ F, P q) → (∀ p ∈ ps, P (p.2, w ++ [p.1])) → ∀ q ∈ ps.foldl (add w) F, P q
  | [], F, h, _ => h
  | p :: ps, F, h, hp => by
    refine fold_all (ps := ps) (fun q hq => ?_) fun q hq => hp q (List.mem_cons_of_mem _ hq)
    unfold add at hq
    split at hq
    · exact h q hq
    · rcases List.mem_append.mp hq with e | e
      · exact h q e
      · rw [List.mem_singleton.mp e]; exact hp p (List.mem_cons_self ..)
theorem step_mem (rows : List (L → L)) (F : List (L × List Nat)) (x : L) (w : List Nat) : ∀ r ∈ rows, r x ∈ (step rows F x w).map (·.1) := by
  intro r hr
  obtain ⟨j, hj, e⟩ := List.getElem_of_mem hr
  refine fold_mem w _ F (j, r x) (List.mem_map.mpr ⟨(r, j), ?_, rfl⟩)
  rw [List.mem_zipIdx_iff_getElem?]
  rw [List.getElem?_eq_getElem hj, e]
theorem goals_of {rows : List (L → L)} {x : L} {p : Nat × L} (h : p ∈ goals rows x) : ∃ r, rows[p.1]? = some r ∧ p.2 = r x := by
  obtain ⟨q, hq, e⟩ := List.mem_map.mp h
  rw [List.mem_zipIdx_iff_getElem?] at hq
  exact ⟨q.1, by rw [← e]; exact hq, by rw [← e]⟩
/-- all that is asked of a finished walk -/
theorem bfs_ok {rows : List (L → L)} {P : L × List Nat → Prop} (hP : ∀ x w, P (x, w) → ∀ j r, rows[j]? = some r → P (r x, w ++ [j])) : ∀ {n : Nat} {F R : List (L × List Nat)} {i : Nat}, bfs rows n F i = some R → (F.map (·.1)).Nodup → (∀ q ∈ F, P q) →
    (∀ q ∈ F.take i, ∀ r ∈ rows, r q.1 ∈ F.map (·.1)) → F <+: R ∧ (R.map (·.1)).Nodup ∧ (∀ q ∈ R, P q) ∧ ∀ q ∈ R, ∀ r ∈ rows, r q.1 ∈ R.map (·.1)
  | 0, F, R, i, h, _, _, _ => by cases h
  | n + 1, F, R, i, h, nd, hF, hc => by
    unfold bfs at h
    cases e : F[i]? with
    | none =>
      rw [e] at h
      cases h
      have : F.length ≤ i := List.getElem?_eq_none_iff.mp e
      rw [List.take_of_length_le this] at hc
      exact ⟨List.prefix_refl _, nd, hF, hc⟩
    | some q =>
      obtain ⟨x, w⟩ := q
      rw [e] at h
      have pre := step_pre rows F x w
      have hi : i < F.length := (List.getElem?_eq_some_iff.mp e).1
      have hx := hF _ (List.mem_of_getElem? e)
      obtain ⟨a, b, c, d⟩ := bfs_ok (n := n) hP h (fold_nd nd) (fold_all hF fun p hp => by
        obtain ⟨r, e1, e2⟩ := goals_of hp
        rw [e2]
        exact hP x w hx _ _ e1) (fun q hq r hr => by
          have e3 : (step rows F x w).take (i + 1) = F.take (i + 1) := by
            obtain ⟨t, ht⟩ := pre
            rw [← ht, List.take_append_of_le_length (by omega)]
          rw [e3, List.take_add_one, e] at hq
          rcases List.mem_append.mp hq with hq | hq
          · exact (pre.map (·.1)).subset (hc q hq r hr)
          · simp at hq
            subst hq
            exact step_mem rows F x w r hr)
      exact ⟨pre.trans a, b, c, d⟩
/-- it comes to an end: the lots are no more than those of U -/
theorem bfs_end {rows : List (L → L)} {U : List L} (hU : ∀ x ∈ U, ∀ r ∈ rows, r x ∈ U) : ∀ {n : Nat} {F : List (L × List Nat)} {i : Nat}, (F.map (·.1)).Nodup → (∀ q ∈ F, q.1 ∈ U) → i ≤ F.length → U.length - i < n → ∃ R, bfs rows n F i = some R
  | 0, F, i, _, _, _, h => by omega
  | n + 1, F, i, nd, hF, hi, h => by
    unfold bfs
    cases e : F[i]? with
    | none => exact ⟨F, rfl⟩
    | some q =>
      obtain ⟨x, w⟩ := q
      have hi2 : i < F.length := (List.getElem?_eq_some_iff.mp e).1
      have hl : (F.map (·.1)).length ≤ U.length := nd.length_le_of_subset fun y hy => by
        obtain ⟨q, hq, e⟩ := List.mem_map.mp hy
        rw [← e]; exact hF q hq
      rw [List.length_map] at hl
      refine bfs_end hU (n := n) (fold_nd nd) (fold_all (P := fun q => q.1 ∈ U) hF fun p hp => ?_) ?_ (by omega)
      · obtain ⟨r, e1, e2⟩ := goals_of hp
        show p.2 ∈ U
        rw [e2]
        exact hU x (hF _ (List.mem_of_getElem? e)) r (List.mem_of_getElem? e1)
      · have := (step_pre rows F x w).length_le
        omega
/-! ### new names -/
def mv (ρ : L → L) (F : List (L × List Nat)) : List (L × List Nat) := F.map fun q => (ρ q.1, q.2)
theorem mv_keys (ρ : L → L) (F : List (L × List Nat)) : (mv ρ F).map (·.1) = (F.map (·.1)).map ρ := by simp [mv]
theorem add_mv {ρ : L → L} {P : L → Prop} (inj : ∀ x y, P x → P y → ρ x = ρ y → x = y) {w : List Nat} {F : List (L × List Nat)} {p : Nat × L} (hF : ∀ q ∈ F, P q.1) (hp : P p.2) : add w (mv ρ F) (p.1, ρ p.2) = mv ρ (add w F p) := by
  unfold add
  have : ρ p.2 ∈ (mv ρ F).map (·.1) ↔ p.2 ∈ F.map (·.1) := by
    rw [mv_keys]
    constructor
    · intro h
      obtain ⟨x, hx, e⟩ := List.mem_map.mp h
      obtain ⟨q, hq, e2⟩ := List.mem_map.mp hx
      rw [← inj x p.2 (by rw [← e2]; exact hF q hq) hp e]; exact hx
    · exact fun h => List.mem_map.mpr ⟨_, h, rfl⟩
  by_cases h : p.2 ∈ F.map (·.1)
  · rw [if_pos (this.mpr h), if_pos h]
  · rw [if_neg fun z => h (this.mp z), if_neg h]
    simp [mv]
theorem fold_mv {ρ : L → L} {P : L → Prop} (inj : ∀ x y, P x → P y → ρ x = ρ y → x = y) {w : List Nat} : ∀ {ps : List (Nat × L)} {F : List (L × List Nat)}, (∀ q ∈ F, P q.1) → (∀ p ∈ ps, P p.2) → (ps.map fun p => (p.1, ρ p.2)).foldl (add w) (mv ρ F) = mv ρ (ps.foldl (add w) F)
  | [], F, _, _ => rfl
  | p :: ps, F, hF, hp => by
    rw [List.map_cons, List.foldl_cons, List.foldl_cons, add_mv inj hF (hp p (List.mem_cons_self ..))]
    refine fold_mv inj (ps := ps) (fun q hq => ?_) fun q hq => hp q (List.mem_cons_of_mem _ hq)
    unfold add at hq
    split at hq
    · exact hF q hq
    · rcases List.mem_append.mp hq with e | e
      · exact hF q e
      · rw [List.mem_singleton.mp e]; exact hp p (List.mem_cons_self ..)
theorem goals_mv {rows rows' : List (L → L)} {ρ : L → L} {x : L} (h : ∀ j : Nat, (rows'[j]?).map (fun (r : L → L) => r (ρ x)) = (rows[j]?).map fun (r : L → L) => ρ (r x)) : goals rows' (ρ x) = (goals rows x).map fun p => (p.1, ρ p.2) := by
  unfold goals
  apply List.ext_getElem?
  intro j
  have hj := h j
  simp only [List.getElem?_map, List.getElem?_zipIdx]
  cases e1 : rows'[j]? with
  | none =>
    rw [e1] at hj
    cases e2 : rows[j]? with
    | none => rfl
    | some r => rw [e2] at hj; cases hj
  | some r' =>
    rw [e1] at hj
    cases e2 : rows[j]? with
    | none => rw [e2] at hj; cases hj
    | some r =>
      rw [e2] at hj
      simp only [Option.map_some, Option.some.injEq] at hj
      simp [hj]
theorem bfs_mv {rows rows' : List (L → L)} {ρ : L → L} {P : L → Prop} (inj : ∀ x y, P x → P y → ρ x = ρ y → x = y) (hP : ∀ x, P x → ∀ r ∈ rows, P (r x)) (h : ∀ x, P x → ∀ j : Nat, (rows'[j]?).map (fun (r : L → L) => r (ρ x)) = (rows[j]?).map fun (r : L → L) => ρ (r x)) :
    ∀ {n : Nat} {F : List (L × List Nat)} {i : Nat}, (∀ q ∈ F, P q.1) → bfs rows' n (mv ρ F) i = (bfs rows n F i).map (mv ρ)
  | 0, F, i, _ => rfl
  | n + 1, F, i, hF => by
    unfold bfs
    have e0 : (mv ρ F)[i]? = (F[i]?).map fun q => (ρ q.1, q.2) := by simp [mv]
    rw [e0]
    cases e : F[i]? with
    | none => rfl
    | some q =>
      obtain ⟨x, w⟩ := q
      have hx : P x := hF _ (List.mem_of_getElem? e)
      have hg : ∀ p ∈ goals rows x, P p.2 := fun p hp => by
        obtain ⟨r, e1, e2⟩ := goals_of hp
        rw [e2]; exact hP x hx r (List.mem_of_getElem? e1)
      show bfs rows' n (step rows' (mv ρ F) (ρ x) w) (i + 1) = (bfs rows n (step rows F x w) (i + 1)).map (mv ρ)
      have : step rows' (mv ρ F) (ρ x) w = mv ρ (step rows F x w) := by
        unfold step
        rw [goals_mv (h x hx), fold_mv inj hF hg]
      rw [this]
      exact bfs_mv inj hP h (n := n) (fold_all (P := fun q => P q.1) hF fun p hp => hg p hp)
end PBfs
set_option Elab.async false
set_option linter.all false
set_option maxRecDepth 100000
set_option maxHeartbeats 4000000
namespace K78
open PySem PySem.Spec PyProof.Rows L2 Rw
abbrev PW : Program := PySem.Challenge.pw_roomwide_k78_whole_lots_ranks_and_cerny
def top (i : Nat) : Stmt := PW.main.body.getD i (.Pass ⟨0, 0, 0, 0⟩)
def c_is_number_from : CSs := (.cons (.ret (.and (.isi (.var 0) .int) (.and (.not (.isi (.var 0) .bool)) (.chn .LtE .LtE (.var 1) (.var 0) (.var 2))))) .nil)
def d_is_number_from : DI := ⟨"is_number_from", ["value", "low", "high"], ["value", "low", "high"], defArgs (top 6), defBody (top 6), defScope (top 6), c_is_number_from⟩
theorem b_is_number_from : bdOk d_is_number_from := fun _ _ _ _ _ _ us hl => match us, hl with | [_, _, _], _ => rfl
def c_ask_number : CSs := (.cons (.ife (.not (.call 0 (.cons (.var 0) (.cons (.var 1) (.cons (.var 2) .nil))))) (.cons .never .nil) .nil) .nil)
def d_ask_number : DI := ⟨"ask_number", ["number", "low", "high"], ["number", "low", "high"], defArgs (top 7), defBody (top 7), defScope (top 7), c_ask_number⟩
theorem b_ask_number : bdOk d_ask_number := fun _ _ _ _ _ _ us hl => match us, hl with | [_, _, _], _ => rfl
def c_led_by : CSs := (.cons (.ret (.bq .tuple (.l (.sorted (.d (.comp (.ix (.var 0) (.var 2)) (.cst (.bl true)) (.nm 2) (.q (.e (.var 1))) .nil [2])))))) .nil)
def d_led_by : DI := ⟨"led_by", ["letter", "lot"], ["letter", "lot", "room"], defArgs (top 12), defBody (top 12), defScope (top 12), c_led_by⟩
theorem b_led_by : bdOk d_led_by := fun _ _ _ _ _ _ us hl => match us, hl with | [_, _], _ => rfl
def l_led_along_1 : CSs := (.cons (.set 2 (.new (.comp (.ix (.ix (.var 0) (.var 4)) (.var 3)) (.nm 3) (.q (.e (.var 2))) .nil [3]))) .nil)
def c_led_along : CSs := (.cons (.set 2 (.new (.comp (.var 3) (.nm 3) (.rng1 (.bq .len (.e (.ix (.var 0) (.cst (.int 0)))))) .nil [3]))) (.cons (.fore (.nm 4) (.q (.e (.var 1))) l_led_along_1 [4]) (.cons (.ret (.var 2)) .nil)))
def d_led_along : DI := ⟨"led_along", ["levers", "word"], ["levers", "word", "found", "room", "at"], defArgs (top 13), defBody (top 13), defScope (top 13), c_led_along⟩
theorem b_led_along : bdOk d_led_along := fun _ _ _ _ _ _ us hl => match us, hl with | [_, _], _ => rfl
def l_words_to_lots_1 : CSs := (.cons (.set 9 (.call 2 (.cons (.var 8) (.cons (.var 6) .nil)))) (.cons (.ife (.cmp .NotIn (.var 9) (.var 3)) (.cons (.setIx (.var 3) (.var 9) (.tup (.star (.e (.ix (.var 3) (.var 6))) (.cons (.var 7) .nil)))) (.cons (.expr (.append (.var 4) (.var 9))) .nil)) .nil) .nil))
def l_words_to_lots_2 : CSs := (.cons (.set 6 (.ix (.var 4) (.var 5))) (.cons (.aug 5 .Add (.cst (.int 1))) (.cons (.fore (.tp [7, 8]) (.enum (.e (.var 0))) l_words_to_lots_1 [7, 8, 9]) .nil)))
def c_words_to_lots : CSs := (.cons (.set 1 (.bq .tuple (.l (.comp (.var 2) (.nm 2) (.rng1 (.bq .len (.e (.ix (.var 0) (.cst (.int 0)))))) .nil [2])))) (.cons (.par [3, 4, 5] (.cons (.newd (.disp (.cons (.var 1) (.tup .nil) .nil))) (.cons (.new (.disp (.cons (.var 1) .nil))) (.cons (.cst (.int 0)) .nil)))) (.cons (.whle (.cmp .Lt (.var 5) (.bq .len (.e (.var 4)))) l_words_to_lots_2 [6, 7, 8, 9]) (.cons (.ret (.var 3)) .nil))))
def d_words_to_lots : DI := ⟨"words_to_lots", ["levers"], ["levers", "whole", "room", "found", "waiting", "at", "lot", "number", "letter", "goal"], defArgs (top 14), defBody (top 14), defScope (top 14), c_words_to_lots⟩
theorem b_words_to_lots : bdOk d_words_to_lots := fun _ _ _ _ _ _ us hl => match us, hl with | [_], _ => rfl
def c_least_together : CSs := (.cons (.set 1 (.call 4 (.cons (.var 0) .nil))) (.cons (.set 2 (.new (.comp (.tup (.cons (.bq .len (.e (.var 4))) (.cons (.var 4) .nil))) (.tp [3, 4]) (.items (.var 1)) (.cons (.cmp .Eq (.bq .len (.e (.var 3))) (.cst (.int 1))) .nil) [3, 4]))) (.cons (.ret (.ite (.cmpL .NotEq (.var 2) (.disp .nil)) (.ix (.bq .min (.e (.var 2))) (.cst (.int 1))) (.cst .non))) .nil)))
def d_least_together : DI := ⟨"least_together", ["levers"], ["levers", "words", "some", "lot", "word"], defArgs (top 15), defBody (top 15), defScope (top 15), c_least_together⟩
theorem b_least_together : bdOk d_least_together := fun _ _ _ _ _ _ us hl => match us, hl with | [_], _ => rfl
def c_is_letter : CSs := (.cons (.ret (.and (.isi (.var 0) .tuple) (.and (.cmp .Eq (.bq .len (.e (.var 0))) (.var 1)) (.bq .all (.l (.comp (.call 0 (.cons (.var 2) (.cons (.cst (.int 0)) (.cons (.bin .Sub (.var 1) (.cst (.int 1))) .nil)))) (.nm 2) (.q (.e (.var 0))) .nil [2])))))) .nil)
def d_is_letter : DI := ⟨"is_letter", ["value", "many"], ["value", "many", "one"], defArgs (top 16), defBody (top 16), defScope (top 16), c_is_letter⟩
theorem b_is_letter : bdOk d_is_letter := fun _ _ _ _ _ _ us hl => match us, hl with | [_, _], _ => rfl
def c_are_levers : CSs := (.cons (.ife (.or (.not (.isi (.var 0) .tuple)) (.or (.not (.chn .LtE .LtE (.cst (.int 1)) (.bq .len (.e (.var 0))) (.glb 0))) (.not (.isi (.ix (.var 0) (.cst (.int 0))) .tuple)))) (.cons (.ret (.cst (.bl false))) .nil) .nil) (.cons (.ife (.not (.chn .LtE .LtE (.cst (.int 1)) (.bq .len (.e (.ix (.var 0) (.cst (.int 0))))) (.glb 1))) (.cons (.ret (.cst (.bl false))) .nil) .nil) (.cons (.ret (.bq .all (.l (.comp (.call 6 (.cons (.var 1) (.cons (.bq .len (.e (.ix (.var 0) (.cst (.int 0))))) .nil))) (.nm 1) (.q (.e (.var 0))) .nil [1])))) .nil)))
def d_are_levers : DI := ⟨"are_levers", ["value"], ["value", "letter"], defArgs (top 17), defBody (top 17), defScope (top 17), c_are_levers⟩
theorem b_are_levers : bdOk d_are_levers := fun _ _ _ _ _ _ us hl => match us, hl with | [_], _ => rfl
def c_is_word_of : CSs := (.cons (.ret (.and (.isi (.var 1) .tuple) (.bq .all (.l (.comp (.call 0 (.cons (.var 2) (.cons (.cst (.int 0)) (.cons (.bin .Sub (.bq .len (.e (.var 0))) (.cst (.int 1))) .nil)))) (.nm 2) (.q (.e (.var 1))) .nil [2]))))) .nil)
def d_is_word_of : DI := ⟨"is_word_of", ["levers", "value"], ["levers", "value", "at"], defArgs (top 18), defBody (top 18), defScope (top 18), c_is_word_of⟩
theorem b_is_word_of : bdOk d_is_word_of := fun _ _ _ _ _ _ us hl => match us, hl with | [_, _], _ => rfl
def c_ask_levers : CSs := (.cons (.ife (.not (.call 7 (.cons (.var 0) .nil))) (.cons .never .nil) .nil) .nil)
def d_ask_levers : DI := ⟨"ask_levers", ["levers"], ["levers"], defArgs (top 19), defBody (top 19), defScope (top 19), c_ask_levers⟩
theorem b_ask_levers : bdOk d_ask_levers := fun _ _ _ _ _ _ us hl => match us, hl with | [_], _ => rfl
def c_led : CSs := (.cons (.expr (.call 9 (.cons (.var 0) .nil))) (.cons (.ife (.or (.not (.call 8 (.cons (.var 0) (.cons (.var 1) .nil)))) (.cmp .Gt (.bq .len (.e (.var 1))) (.glb 2))) (.cons .never .nil) .nil) (.cons (.ret (.bq .tuple (.e (.call 3 (.cons (.var 0) (.cons (.var 1) .nil)))))) .nil)))
def d_led : DI := ⟨"led", ["levers", "word"], ["levers", "word"], defArgs (top 20), defBody (top 20), defScope (top 20), c_led⟩
theorem b_led : bdOk d_led := fun _ _ _ _ _ _ us hl => match us, hl with | [_, _], _ => rfl
def c_least_word : CSs := (.cons (.expr (.call 9 (.cons (.var 0) .nil))) (.cons (.ret (.call 5 (.cons (.var 0) .nil))) .nil))
def d_least_word : DI := ⟨"least_word", ["levers"], ["levers"], defArgs (top 21), defBody (top 21), defScope (top 21), c_least_word⟩
theorem b_least_word : bdOk d_least_word := fun _ _ _ _ _ _ us hl => match us, hl with | [_], _ => rfl
def c_lots_come_to : CSs := (.cons (.expr (.call 9 (.cons (.var 0) .nil))) (.cons (.ret (.bq .tuple (.l (.sorted (.e (.call 4 (.cons (.var 0) .nil))))))) .nil))
def d_lots_come_to : DI := ⟨"lots_come_to", ["levers"], ["levers"], defArgs (top 22), defBody (top 22), defScope (top 22), c_lots_come_to⟩
theorem b_lots_come_to : bdOk d_lots_come_to := fun _ _ _ _ _ _ us hl => match us, hl with | [_], _ => rfl
def c_rank : CSs := (.cons (.expr (.call 9 (.cons (.var 0) .nil))) (.cons (.ret (.bq .min (.l (.comp (.bq .len (.e (.var 1))) (.nm 1) (.q (.e (.call 4 (.cons (.var 0) .nil)))) .nil [1])))) .nil))
def d_rank : DI := ⟨"rank", ["levers"], ["levers", "lot"], defArgs (top 23), defBody (top 23), defScope (top 23), c_rank⟩
theorem b_rank : bdOk d_rank := fun _ _ _ _ _ _ us hl => match us, hl with | [_], _ => rfl
def c_cerny_levers : CSs := (.cons (.expr (.call 1 (.cons (.var 0) (.cons (.cst (.int 2)) (.cons (.glb 1) .nil))))) (.cons (.set 1 (.bq .tuple (.l (.comp (.bin .Mod (.bin .Add (.var 2) (.cst (.int 1))) (.var 0)) (.nm 2) (.rng1 (.var 0)) .nil [2])))) (.cons (.ret (.tup (.cons (.var 1) (.cons (.tup (.star (.l (.comp (.var 2) (.nm 2) (.rng1 (.bin .Sub (.var 0) (.cst (.int 1)))) .nil [2])) (.cons (.cst (.int 0)) .nil))) .nil)))) .nil)))
def d_cerny_levers : DI := ⟨"cerny_levers", ["many"], ["many", "turned", "room"], defArgs (top 24), defBody (top 24), defScope (top 24), c_cerny_levers⟩
theorem b_cerny_levers : bdOk d_cerny_levers := fun _ _ _ _ _ _ us hl => match us, hl with | [_], _ => rfl
def c__law_crock : CSs := (.cons (.set 2 (.ite (.cmp .Lt (.var 1) (.bq .len (.e (.var 0)))) (.b1 .int (.ix (.var 0) (.var 1))) (.bin .Add (.bin .Mult (.cst (.int 967)) (.var 1)) (.cst (.int 83))))) (.cons (.set 3 (.bin .Mod (.b1 .int (.b1 .abs (.var 2))) (.bin .Pow (.bin .Pow (.cst (.int 10)) (.cst (.int 58))) (.cst (.int 5))))) (.cons (.ret (.new (.disp (.cons (.b2 .max (.cst (.int 0)) (.bin .Sub (.var 3) (.bin .Pow (.cst (.int 10)) (.cst (.int 17))))) (.cons (.bin .Add (.bin .Add (.bin .Add (.bin .Mult (.bin .Mod (.b1 .int (.var 3)) (.cst (.int 2305843009213693907))) (.cst (.int 101))) (.bin .Mult (.cst (.int 1171)) (.var 1))) (.bin .Mult (.cst (.int 43)) (.b1 .int (.cmp .Lt (.var 2) (.cst (.int 0)))))) (.cst (.int 19))) (.cons (.cst (.int 0)) .nil)))))) .nil)))
def d__law_crock : DI := ⟨"_law_crock", ["script", "spot"], ["script", "spot", "cell", "great"], defArgs (top 26), defBody (top 26), defScope (top 26), c__law_crock⟩
theorem b__law_crock : bdOk d__law_crock := fun _ _ _ _ _ _ us hl => match us, hl with | [_, _], _ => rfl
def c__law_ladle : CSs := (.cons (.ife (.cmp .Gt (.ix (.var 0) (.cst (.int 0))) (.cst (.int 0))) (.cons (.set 2 (.bin .Mod (.b1 .int (.ix (.var 0) (.cst (.int 0)))) (.var 1))) (.cons (.setIx (.var 0) (.cst (.int 0)) (.bin .FloorDiv (.ix (.var 0) (.cst (.int 0))) (.var 1))) (.cons (.ret (.var 2)) .nil))) .nil) (.cons (.setIx (.var 0) (.cst (.int 2)) (.bin .Add (.ix (.var 0) (.cst (.int 2))) (.cst (.int 1)))) (.cons (.set 3 (.bin .Mod (.b1 .int (.bin .Add (.ix (.var 0) (.cst (.int 1))) (.bin .Mult (.cst (.int 86028121)) (.ix (.var 0) (.cst (.int 2)))))) (.cst (.int 2305843009213693951)))) (.cons (.set 4 (.bin .Add (.bin .Mult (.bin .Mod (.b1 .int (.bin .Add (.bin .Mult (.var 3) (.var 3)) (.bin .Mult (.cst (.int 271)) (.ix (.var 0) (.cst (.int 2)))))) (.cst (.int 2305843009213693921))) (.cst (.int 5915587277))) (.var 3))) (.cons (.ret (.bin .Mod (.b1 .int (.bin .FloorDiv (.var 4) (.cst (.int 65543)))) (.var 1))) .nil)))))
def d__law_ladle : DI := ⟨"_law_ladle", ["crock", "total"], ["crock", "total", "found", "one", "two"], defArgs (top 27), defBody (top 27), defScope (top 27), c__law_ladle⟩
theorem b__law_ladle : bdOk d__law_ladle := fun _ _ _ _ _ _ us hl => match us, hl with | [_, _], _ => rfl
def l__law_mixed_1 : CSs := (.cons (.set 4 (.call 16 (.cons (.var 0) (.cons (.bin .Add (.var 3) (.cst (.int 1))) .nil)))) (.cons (.parIx (.var 2) (.var 3) (.var 2) (.var 4) (.ix (.var 2) (.var 4)) (.ix (.var 2) (.var 3))) .nil))
def c__law_mixed : CSs := (.cons (.set 2 (.new (.range (.rng1 (.var 1))))) (.cons (.fore (.nm 3) (.rng3 (.bin .Sub (.var 1) (.cst (.int 1))) (.cst (.int 0)) (.neg (.cst (.int 1)))) l__law_mixed_1 [3, 4]) (.cons (.ret (.var 2)) .nil)))
def d__law_mixed : DI := ⟨"_law_mixed", ["crock", "many"], ["crock", "many", "line", "room", "other"], defArgs (top 28), defBody (top 28), defScope (top 28), c__law_mixed⟩
theorem b__law_mixed : bdOk d__law_mixed := fun _ _ _ _ _ _ us hl => match us, hl with | [_, _], _ => rfl
def l__law_levers_1 : CSs := (.cons (.set 5 (.call 16 (.cons (.var 0) (.cons (.cst (.int 3)) .nil)))) (.cons (.set 6 (.new (.comp (.call 16 (.cons (.var 0) (.cons (.var 2) .nil))) (.nm 7) (.rng1 (.var 2)) .nil [7]))) (.cons (.ife (.cmp .Eq (.var 5) (.cst (.int 0))) (.cons (.set 6 (.call 17 (.cons (.var 0) (.cons (.var 2) .nil)))) .nil) .nil) (.cons (.ife (.cmp .Eq (.var 5) (.cst (.int 1))) (.cons (.set 6 (.new (.comp (.ite (.cmp .Gt (.call 16 (.cons (.var 0) (.cons (.cst (.int 3)) .nil))) (.cst (.int 0))) (.var 7) (.call 16 (.cons (.var 0) (.cons (.var 2) .nil)))) (.nm 7) (.rng1 (.var 2)) .nil [7]))) .nil) .nil) (.cons (.expr (.append (.var 3) (.bq .tuple (.e (.var 6))))) .nil)))))
def c__law_levers : CSs := (.cons (.par [2, 3] (.cons (.bin .Add (.cst (.int 1)) (.call 16 (.cons (.var 0) (.cons (.var 1) .nil)))) (.cons (.new (.disp .nil)) .nil))) (.cons (.fore (.nm 4) (.rng1 (.bin .Add (.cst (.int 1)) (.call 16 (.cons (.var 0) (.cons (.cst (.int 3)) .nil))))) l__law_levers_1 [4, 5, 6]) (.cons (.ret (.bq .tuple (.e (.var 3)))) .nil)))
def d__law_levers : DI := ⟨"_law_levers", ["crock", "most"], ["crock", "most", "many", "found", "letter", "kind", "row", "room"], defArgs (top 29), defBody (top 29), defScope (top 29), c__law_levers⟩
theorem b__law_levers : bdOk d__law_levers := fun _ _ _ _ _ _ us hl => match us, hl with | [_, _], _ => rfl
def l__law_least_words_1 : CSs := (.cons (.set 8 (.bq .tuple (.l (.sortedS (.l (.comp (.ix (.var 7) (.var 9)) (.nm 9) (.q (.e (.var 5))) .nil [9])))))) (.cons (.ife (.cmp .NotIn (.var 8) (.var 2)) (.cons (.setIx (.var 2) (.var 8) (.bin .Add (.ix (.var 2) (.var 5)) (.tup (.cons (.var 6) .nil)))) (.cons (.expr (.append (.var 3) (.var 8))) .nil)) .nil) .nil))
def l__law_least_words_2 : CSs := (.cons (.par [5, 4] (.cons (.ix (.var 3) (.var 4)) (.cons (.bin .Add (.var 4) (.cst (.int 1))) .nil))) (.cons (.fore (.tp [6, 7]) (.enum (.e (.var 0))) l__law_least_words_1 [6, 7, 8]) .nil))
def c__law_least_words : CSs := (.cons (.set 1 (.bq .tuple (.l (.range (.rng1 (.bq .len (.e (.ix (.var 0) (.cst (.int 0)))))))))) (.cons (.par [2, 3, 4] (.cons (.newd (.disp (.cons (.var 1) (.tup .nil) .nil))) (.cons (.new (.disp (.cons (.var 1) .nil))) (.cons (.cst (.int 0)) .nil)))) (.cons (.whle (.cmp .Lt (.var 4) (.bq .len (.e (.var 3)))) l__law_least_words_2 [5, 6, 7, 8]) (.cons (.ret (.var 2)) .nil))))
def d__law_least_words : DI := ⟨"_law_least_words", ["levers"], ["levers", "every", "found", "waiting", "at", "lot", "letter", "row", "goal", "room"], defArgs (top 30), defBody (top 30), defScope (top 30), c__law_least_words⟩
theorem b__law_least_words : bdOk d__law_least_words := fun _ _ _ _ _ _ us hl => match us, hl with | [_], _ => rfl
def l__law_right_1 : CSs := (.cons (.ife (.cmp .NotEq (.lenS (.l (.comp (.ix (.var 6) (.var 7)) (.nm 7) (.q (.e (.var 5))) .nil [7]))) (.var 4)) (.cons (.ret (.cst (.bl false))) .nil) .nil) .nil)
def l__law_right_2 : CSs := (.cons (.fore (.nm 6) (.q (.e (.var 1))) l__law_right_1 []) .nil)
def l__law_right_3 : CSs := (.cons (.setIx (.var 11) (.ix (.var 9) (.var 7)) (.ix (.var 9) (.ix (.var 6) (.var 7)))) .nil)
def l__law_right_4 : CSs := (.cons (.set 11 (.new (.rep (.disp (.cons (.cst (.int 0)) .nil)) (.var 2)))) (.cons (.fore (.nm 7) (.rng1 (.var 2)) l__law_right_3 []) (.cons (.expr (.append (.var 10) (.bq .tuple (.e (.var 11))))) .nil)))
def c__law_right : CSs := (.cons (.set 1 (.call 18 (.cons (.var 0) (.cons (.cst (.int 5)) .nil)))) (.cons (.par [2, 3] (.cons (.bq .len (.e (.ix (.var 1) (.cst (.int 0))))) (.cons (.call 19 (.cons (.var 1) .nil)) .nil))) (.cons (.set 4 (.bq .min (.l (.comp (.bq .len (.e (.var 5))) (.nm 5) (.q (.e (.var 3))) .nil [5])))) (.cons (.ife (.or (.cmp .NotEq (.call 12 (.cons (.var 1) .nil)) (.bq .tuple (.l (.sorted (.e (.var 3)))))) (.cmp .NotEq (.call 13 (.cons (.var 1) .nil)) (.var 4))) (.cons (.ret (.cst (.bl false))) .nil) .nil) (.cons (.ife (.cmp .NotEq (.cmp .Eq (.var 4) (.cst (.int 1))) (.cmp .IsNot (.call 11 (.cons (.var 1) .nil)) (.cst .non))) (.cons (.ret (.cst (.bl false))) .nil) .nil) (.cons (.fore (.nm 5) (.q (.l (.comp (.var 5) (.nm 5) (.q (.e (.var 3))) (.cons (.cmp .Eq (.bq .len (.e (.var 5))) (.var 4)) .nil) [5]))) l__law_right_2 []) (.cons (.set 8 (.new (.comp (.var 6) (.nm 6) (.q (.e (.var 1))) (.cons (.cmp .Eq (.lenS (.e (.var 6))) (.var 2)) .nil) [6]))) (.cons (.ife (.cmp .NotEq (.cmp .Eq (.var 4) (.var 2)) (.cmp .Eq (.bq .len (.e (.var 8))) (.bq .len (.e (.var 1))))) (.cons (.ret (.cst (.bl false))) .nil) .nil) (.cons (.set 9 (.call 17 (.cons (.var 0) (.cons (.var 2) .nil)))) (.cons (.set 10 (.new (.disp .nil))) (.cons (.fore (.nm 6) (.q (.e (.var 1))) l__law_right_4 [6, 11]) (.cons (.set 12 (.new (.sorted (.l (.comp (.bq .tuple (.l (.sorted (.l (.comp (.ix (.var 9) (.var 7)) (.nm 7) (.q (.e (.var 5))) .nil [7]))))) (.nm 5) (.q (.e (.var 3))) .nil [5]))))) (.cons (.ife (.or (.cmp .NotEq (.call 12 (.cons (.bq .tuple (.e (.var 10))) .nil)) (.bq .tuple (.e (.var 12)))) (.and (.cmp .Is (.call 11 (.cons (.bq .tuple (.e (.var 10))) .nil)) (.cst .non)) (.cmp .Eq (.var 4) (.cst (.int 1))))) (.cons (.ret (.cst (.bl false))) .nil) .nil) (.cons (.ife (.and (.cmp .Eq (.var 4) (.cst (.int 1))) (.cmp .NotEq (.bq .len (.e (.call 11 (.cons (.bq .tuple (.e (.var 10))) .nil)))) (.bq .len (.e (.call 11 (.cons (.var 1) .nil)))))) (.cons (.ret (.cst (.bl false))) .nil) .nil) (.cons (.ife (.cmp .Lt (.bq .len (.e (.var 1))) (.cst (.int 4))) (.cons (.set 13 (.bin .Add (.var 1) (.tup (.cons (.bq .tuple (.l (.comp (.call 16 (.cons (.var 0) (.cons (.var 2) .nil))) (.nm 7) (.rng1 (.var 2)) .nil [7]))) .nil)))) (.cons (.ife (.or (.cmp .Gt (.call 13 (.cons (.var 13) .nil)) (.var 4)) (.cmpL .NotEq (.new (.comp (.var 5) (.nm 5) (.q (.e (.var 3))) (.cons (.cmp .NotIn (.var 5) (.call 12 (.cons (.var 13) .nil))) .nil) [5])) (.disp .nil))) (.cons (.ret (.cst (.bl false))) .nil) .nil) .nil)) .nil) (.cons (.set 14 (.bin .Add (.cst (.int 2)) (.call 16 (.cons (.var 0) (.cons (.cst (.int 6)) .nil))))) (.cons (.set 15 (.call 14 (.cons (.var 14) .nil))) (.cons (.set 16 (.bq .tuple (.l (.comp (.bin .Mod (.b1 .int (.bin .Add (.var 7) (.cst (.int 1)))) (.var 14)) (.nm 7) (.rng1 (.var 14)) .nil [7])))) (.cons (.ife (.cmp .NotEq (.var 15) (.tup (.cons (.var 16) (.cons (.bq .tuple (.l (.catL (.range (.rng1 (.bin .Sub (.var 14) (.cst (.int 1))))) (.l (.disp (.cons (.cst (.int 0)) .nil)))))) .nil)))) (.cons (.ret (.cst (.bl false))) .nil) .nil) (.cons (.set 17 (.call 11 (.cons (.var 15) .nil))) (.cons (.ret (.and (.cmp .Eq (.bq .len (.e (.var 17))) (.bin .Mult (.bin .Sub (.var 14) (.cst (.int 1))) (.bin .Sub (.var 14) (.cst (.int 1))))) (.cmp .Eq (.lenS (.e (.call 10 (.cons (.var 15) (.cons (.var 17) .nil))))) (.cst (.int 1))))) .nil)))))))))))))))))))))
def d__law_right : DI := ⟨"_law_right", ["crock"], ["crock", "levers", "many", "words", "few", "lot", "row", "room", "plain", "names", "other", "line", "led_lots", "more", "size", "told", "turn", "word"], defArgs (top 31), defBody (top 31), defScope (top 31), c__law_right⟩
theorem b__law_right : bdOk d__law_right := fun _ _ _ _ _ _ us hl => match us, hl with | [_], _ => rfl
def l_law_1 : CSs := (.cons (.ife (.not (.call 20 (.cons (.var 2) .nil))) (.cons (.ret (.cst (.bl false))) .nil) .nil) .nil)
def l_law_2 : CSs := (.cons (.set 2 (.call 15 (.cons (.var 0) (.cons (.var 1) .nil)))) (.cons (.fore (.nm 3) (.rng1 (.cst (.int 4))) l_law_1 [3]) .nil))
def c_law : CSs := (.cons (.fore (.nm 1) (.rng1 (.b2 .max (.cst (.int 1)) (.b2 .min (.cst (.int 3)) (.bq .len (.e (.var 0)))))) l_law_2 [1, 2, 3]) (.cons (.par [4, 5] (.cons (.tup (.cons (.tup (.cons (.cst (.int 1)) (.cons (.cst (.int 2)) (.cons (.cst (.int 0)) .nil)))) (.cons (.tup (.cons (.cst (.int 0)) (.cons (.cst (.int 1)) (.cons (.cst (.int 0)) .nil)))) .nil))) (.cons (.tup (.cons (.tup (.cons (.cst (.int 1)) (.cons (.cst (.int 0)) .nil))) .nil)) .nil))) (.cons (.ife (.cmp .NotEq (.call 12 (.cons (.var 4) .nil)) (.tup (.cons (.tup (.cons (.cst (.int 0)) .nil)) (.cons (.tup (.cons (.cst (.int 0)) (.cons (.cst (.int 1)) .nil))) (.cons (.tup (.cons (.cst (.int 0)) (.cons (.cst (.int 1)) (.cons (.cst (.int 2)) .nil)))) (.cons (.tup (.cons (.cst (.int 0)) (.cons (.cst (.int 2)) .nil))) (.cons (.tup (.cons (.cst (.int 1)) .nil)) (.cons (.tup (.cons (.cst (.int 1)) (.cons (.cst (.int 2)) .nil))) (.cons (.tup (.cons (.cst (.int 2)) .nil)) .nil))))))))) (.cons (.ret (.cst (.bl false))) .nil) .nil) (.cons (.ret (.cmpL .Eq (.new (.disp (.cons (.call 13 (.cons (.var 4) .nil)) (.cons (.call 13 (.cons (.var 5) .nil)) (.cons (.call 12 (.cons (.var 5) .nil)) (.cons (.cmp .Eq (.call 14 (.cons (.cst (.int 3)) .nil)) (.var 4)) .nil)))))) (.disp (.cons (.cst (.int 1)) (.cons (.cst (.int 2)) (.cons (.tup (.cons (.tup (.cons (.cst (.int 0)) (.cons (.cst (.int 1)) .nil))) .nil)) (.cons (.cst (.bl true)) .nil))))))) .nil))))
def d_law : DI := ⟨"law", ["script"], ["script", "spot", "crock", "turn", "pull", "swap"], defArgs (top 32), defBody (top 32), defScope (top 32), c_law⟩
theorem b_law : bdOk d_law := fun _ _ _ _ _ _ us hl => match us, hl with | [_], _ => rfl
def ds : List DI := [d_is_number_from, d_ask_number, d_led_by, d_led_along, d_words_to_lots, d_least_together, d_is_letter, d_are_levers, d_is_word_of, d_ask_levers, d_led, d_least_word, d_lots_come_to, d_rank, d_cerny_levers, d__law_crock, d__law_ladle, d__law_mixed, d__law_levers, d__law_least_words, d__law_right, d_law]
def globs : List Str := ["MOST_LETTERS", "MOST_LED_ROOMS", "MOST_WORD"]
def gv : List D := [(.int 4), (.int 7), (.int 60)]
def G : GE := { globs := gv, fns := ds.map fun d => ⟨d.ps.length, d.N.length, d.core⟩, fuel := 1000000 }
theorem bd : ∀ d ∈ ds, bdOk d := (List.forall_mem_cons.mpr ⟨b_is_number_from, (List.forall_mem_cons.mpr ⟨b_ask_number, (List.forall_mem_cons.mpr ⟨b_led_by, (List.forall_mem_cons.mpr ⟨b_led_along, (List.forall_mem_cons.mpr ⟨b_words_to_lots, (List.forall_mem_cons.mpr ⟨b_least_together, (List.forall_mem_cons.mpr ⟨b_is_letter, (List.forall_mem_cons.mpr ⟨b_are_levers, (List.forall_mem_cons.mpr ⟨b_is_word_of, (List.forall_mem_cons.mpr ⟨b_ask_levers, (List.forall_mem_cons.mpr ⟨b_led, (List.forall_mem_cons.mpr ⟨b_least_word, (List.forall_mem_cons.mpr ⟨b_lots_come_to, (List.forall_mem_cons.mpr ⟨b_rank, (List.forall_mem_cons.mpr ⟨b_cerny_levers, (List.forall_mem_cons.mpr ⟨b__law_crock, (List.forall_mem_cons.mpr ⟨b__law_ladle, (List.forall_mem_cons.mpr ⟨b__law_mixed, (List.forall_mem_cons.mpr ⟨b__law_levers, (List.forall_mem_cons.mpr ⟨b__law_least_words, (List.forall_mem_cons.mpr ⟨b__law_right, (List.forall_mem_cons.mpr ⟨b_law, (by intro d h; cases h)⟩)⟩)⟩)⟩)⟩)⟩)⟩)⟩)⟩)⟩)⟩)⟩)⟩)⟩)⟩)⟩)⟩)⟩)⟩)⟩)⟩)⟩)
def names : List Str := ["__name__", "RoomError", "NoHouse", "LackError", "NoNumber", "is_number_from", "ask_number", "MOST_LETTERS", "MOST_LED_ROOMS", "MOST_WORD", "led_by", "led_along", "words_to_lots", "least_together", "is_letter", "are_levers", "is_word_of", "ask_levers", "led", "least_word", "lots_come_to", "rank", "cerny_levers", "_law_crock", "_law_ladle", "_law_mixed", "_law_levers", "_law_least_words", "_law_right", "law"]
-- law is number 21; top 32 of 33
end K78
set_option Elab.async false
set_option linter.all false
set_option maxRecDepth 100000
set_option maxHeartbeats 4000000
namespace K78
open PySem PySem.W Rw
theorem w_num (n : Nat) (h : AH) (v lo hi : Int) : callF G (n + 1) 0 [.int v, .int lo, .int hi] h = .ok (.bl (decide (lo ≤ v ∧ v ≤ hi))) h := by
  rw [callF_succ (F := ⟨3, 3, c_is_number_from⟩) rfl rfl]
  by_cases h1 : lo ≤ v <;> by_cases h2 : v ≤ hi <;> simp [evSs, evS, evE, evEs, evL, evQ, evI_q, evI_enum, evW, evIfs, evD, evPairs, startS, atS, setS, wipeS, bind_ok, opt_some, RS.fin, binD_add, binD_addT, binD_sub, binD_mul, binD_div, binD_mod, binD_pow, augD_add, augD_sub, augD_mul, b1_int, b1_intb, b1_abs, b2_max, b2_min, cmp_lt, cmp_gt, cmp_le, cmp_ge, cmp_eq, cmp_ne, cmp_inV, cmp_nin, cmp_is, cmp_isn, cmpEq_int, cmpEq_bl, isi_ii, isi_ib, isi_tt, bq_len, bq_tuple, seq_tup, seq_tupk, ix_tup, refsOf_ref, refsOf_tup, partD_non, partD_int, asg_nm, asg_tp, cmpIn_tup, L2.atI, L2.ixN, ret_same, flat_non, flat_bl, flat_int, flat_tup, flats_nil, flats_cons, flat_lst, flat_dct, flats_ints, sameH_nil, lockH_nil, unlockH_nil, R.calm, R.unlock, RS.unlock, RS.gc, c_is_number_from, h1, h2]
theorem w_asknum (n : Nat) (h : AH) (v lo hi : Int) (h1 : lo ≤ v) (h2 : v ≤ hi) : callF G (n + 2) 1 [.int v, .int lo, .int hi] h = .ok .non h := by
  rw [callF_succ (F := ⟨3, 3, c_ask_number⟩) rfl rfl]
  simp [evSs, evS, evE, evEs, evL, evQ, evI_q, evI_enum, evW, evIfs, evD, evPairs, startS, atS, setS, wipeS, bind_ok, opt_some, RS.fin, binD_add, binD_addT, binD_sub, binD_mul, binD_div, binD_mod, binD_pow, augD_add, augD_sub, augD_mul, b1_int, b1_intb, b1_abs, b2_max, b2_min, cmp_lt, cmp_gt, cmp_le, cmp_ge, cmp_eq, cmp_ne, cmp_inV, cmp_nin, cmp_is, cmp_isn, cmpEq_int, cmpEq_bl, isi_ii, isi_ib, isi_tt, bq_len, bq_tuple, seq_tup, seq_tupk, ix_tup, refsOf_ref, refsOf_tup, partD_non, partD_int, asg_nm, asg_tp, cmpIn_tup, L2.atI, L2.ixN, ret_same, flat_non, flat_bl, flat_int, flat_tup, flats_nil, flats_cons, flat_lst, flat_dct, flats_ints, sameH_nil, lockH_nil, unlockH_nil, R.calm, R.unlock, RS.unlock, RS.gc, c_ask_number, w_num, h1, h2]
/-- the crock at r -/
def cr (a b c : Int) : AO := .lst [.int a, .int b, .int c] false
theorem log_lt {a : Int} {k : Nat} (h0 : 0 ≤ a) (h1 : a < 2 ^ k) (hk : 0 < k) : a.natAbs.log2 < k := by
  by_cases e : a.natAbs = 0
  · rw [e]; simpa using hk
  · rw [Nat.log2_lt e]
    have : (a.natAbs : Int) < 2 ^ k := by omega
    exact_mod_cast this
theorem w_ladle (n : Nat) (h : AH) (r : Nat) (a b c t : Int) (e : h[r]? = some (cr a b c)) (ht : 0 < t) (ht2 : t ≤ 64) (hc : 0 ≤ c) (hc2 : c < 100000) (hb : 0 ≤ b) (hb2 : b < 2 ^ 80) :
    ∃ x a' c', 0 ≤ x ∧ x < t ∧ 0 ≤ c' ∧ c' ≤ c + 1 ∧ callF G (n + 1) 16 [.ref r, .int t] h = .ok (.int x) (h.set r (cr a' b c')) := by
  have hl := lt_of_get e
  by_cases ha : 0 < a
  · refine ⟨a % t, a / t, c, Int.emod_nonneg _ (by omega), Int.emod_lt_of_pos _ ht, hc, by omega, ?_⟩
    rw [callF_succ (F := ⟨2, 5, c__law_ladle⟩) rfl rfl]
    have hl : t.natAbs.log2 < 9000 := Nat.lt_trans (log_lt (k := 7) (by omega) (by omega) (by omega)) (by omega)
    simp [evSs, evS, evE, evEs, evL, evQ, evI_q, evI_enum, evW, evIfs, evD, evPairs, startS, atS, setS, wipeS, bind_ok, opt_some, RS.fin, binD_add, binD_addT, binD_sub, binD_mul, binD_div, binD_mod, binD_pow, augD_add, augD_sub, augD_mul, b1_int, b1_intb, b1_abs, b2_max, b2_min, cmp_lt, cmp_gt, cmp_le, cmp_ge, cmp_eq, cmp_ne, cmp_inV, cmp_nin, cmp_is, cmp_isn, cmpEq_int, cmpEq_bl, isi_ii, isi_ib, isi_tt, bq_len, bq_tuple, seq_tup, seq_tupk, ix_tup, refsOf_ref, refsOf_tup, partD_non, partD_int, asg_nm, asg_tp, cmpIn_tup, L2.atI, L2.ixN, ret_same, flat_non, flat_bl, flat_int, flat_tup, flats_nil, flats_cons, flat_lst, flat_dct, flats_ints, sameH_nil, lockH_nil, unlockH_nil, R.calm, R.unlock, RS.unlock, RS.gc, c__law_ladle, ix_lst e, putD_lst e, ha, ht, hl]
    rw [ret_set rfl rfl]
    try rfl
  · let one : Int := (b + 86028121 * (c + 1)) % 2305843009213693951
    have o0 : 0 ≤ one := Int.emod_nonneg _ (by omega)
    have o1 : one < 2305843009213693951 := Int.emod_lt_of_pos _ (by omega)
    have o2 : 0 ≤ (one * one + 271 * (c + 1)) % 2305843009213693921 := Int.emod_nonneg _ (by omega)
    have o3 : (one * one + 271 * (c + 1)) % 2305843009213693921 < 2305843009213693921 := Int.emod_lt_of_pos _ (by omega)
    let x : Int := (((one * one + 271 * (c + 1)) % 2305843009213693921 * 5915587277 + one) / 65543) % t
    refine ⟨x, a, c + 1, Int.emod_nonneg _ (by omega), Int.emod_lt_of_pos _ ht, by omega, by omega, ?_⟩
    rw [callF_succ (F := ⟨2, 5, c__law_ladle⟩) rfl rfl]
    have l1 : (c + 1).natAbs.log2 < 20 := log_lt (by omega) (by omega) (by omega)
    have l2 : one.natAbs.log2 < 64 := log_lt o0 (by omega) (by omega)
    have l3 : ((one * one + 271 * (c + 1)) % 2305843009213693921).natAbs.log2 < 64 := log_lt o2 (by omega) (by omega)
    have k1 : Nat.log2 86028121 = 26 := by rfl
    have k2 : Nat.log2 271 = 8 := by rfl
    have k3 : Nat.log2 5915587277 = 32 := by rfl
    have k4 : Nat.log2 65543 < 9000 := by rw [show Nat.log2 65543 = 16 by rfl]; omega
    have m1 : Nat.log2 86028121 + (c + 1).natAbs.log2 ≤ 900000 := by omega
    have m2 : one.natAbs.log2 + one.natAbs.log2 ≤ 900000 := by omega
    have m3 : Nat.log2 271 + (c + 1).natAbs.log2 ≤ 900000 := by omega
    have m4 : ((one * one + 271 * (c + 1)) % 2305843009213693921).natAbs.log2 + Nat.log2 5915587277 ≤ 900000 := by omega
    simp only [one] at m2 m4
    simp [evSs, evS, evE, evEs, evL, evQ, evI_q, evI_enum, evW, evIfs, evD, evPairs, startS, atS, setS, wipeS, bind_ok, opt_some, RS.fin, binD_add, binD_addT, binD_sub, binD_mul, binD_div, binD_mod, binD_pow, augD_add, augD_sub, augD_mul, b1_int, b1_intb, b1_abs, b2_max, b2_min, cmp_lt, cmp_gt, cmp_le, cmp_ge, cmp_eq, cmp_ne, cmp_inV, cmp_nin, cmp_is, cmp_isn, cmpEq_int, cmpEq_bl, isi_ii, isi_ib, isi_tt, bq_len, bq_tuple, seq_tup, seq_tupk, ix_tup, refsOf_ref, refsOf_tup, partD_non, partD_int, asg_nm, asg_tp, cmpIn_tup, L2.atI, L2.ixN, ret_same, flat_non, flat_bl, flat_int, flat_tup, flats_nil, flats_cons, flat_lst, flat_dct, flats_ints, sameH_nil, lockH_nil, unlockH_nil, R.calm, R.unlock, RS.unlock, RS.gc, c__law_ladle, ix_lst (i := 0) e, ix_lst (i := 1) e, ix_lst (i := 2) e, putD_lst e, ha, ht, m1, m2, m3, m4, k4, ix_lst (List.getElem?_set_self hl), x, one]
    rw [ret_set rfl rfl]
    try rfl
end K78
set_option Elab.async false
set_option linter.all false
set_option maxRecDepth 100000
set_option maxHeartbeats 4000000
set_option exponentiation.threshold 5000
namespace K78
open PySem PySem.W Rw
def great (cell : Int) : Int := (if cell < 0 then -cell else cell) % (10 ^ 58) ^ 5
def crB (cell spot : Int) : Int := great cell % 2305843009213693907 * 101 + 1171 * spot + 43 * (if cell < 0 then 1 else 0) + 19
theorem log_mod (x m : Int) (hm : 0 < m) (hm2 : m < 2 ^ 64) (k : Nat) (hk : k ≤ 800000) : (x % m).natAbs.log2 + k ≤ 900000 := by
  have h1 := log_lt (k := 64) (Int.emod_nonneg x (by omega)) (Int.lt_trans (Int.emod_lt_of_pos x hm) hm2) (by omega)
  omega
theorem crB_ok (cell spot : Int) (h0 : 0 ≤ spot) (h2 : spot ≤ 2) : 0 ≤ crB cell spot ∧ crB cell spot < 2 ^ 80 := by
  have h1 := Int.emod_nonneg (great cell) (b := 2305843009213693907) (by omega)
  have h3 := Int.emod_lt_of_pos (great cell) (b := 2305843009213693907) (by omega)
  unfold crB
  split <;> omega
theorem w_crock (n : Nat) (h : AH) (ns : List Int) (spot : Nat) (e : h[0]? = some (.lst (ns.map D.int) true)) (hs : spot ≤ 2) :
    ∃ a b, 0 ≤ b ∧ b < 2 ^ 80 ∧ callF G (n + 1) 15 [.ref 0, .int spot] h = .ok (.ref h.length) (h ++ [cr a b 0]) := by
  have key : ∀ cell : Int, (ns[spot]? = some cell ∨ (ns[spot]? = none ∧ cell = 967 * spot + 83)) → callF G (n + 1) 15 [.ref 0, .int spot] h = .ok (.ref h.length) (h ++ [cr (if great cell - 10 ^ 17 > 0 then great cell - 10 ^ 17 else 0) (crB cell spot) 0]) := by
    intro cell hc
    have s1 : seqD .k h (.ref 0) = some (ns.map D.int) := by simp [seqD, e]
    have m1 : ((great cell) % 2305843009213693907).natAbs.log2 + Nat.log2 101 ≤ 900000 := log_mod _ _ (by omega) (by omega) _ (by rw [show Nat.log2 101 = 6 by rfl]; omega)
    have m0 : spot.log2 ≤ 1 := by
      have : spot = 0 ∨ spot = 1 ∨ spot = 2 := by omega
      rcases this with rfl | rfl | rfl <;> decide
    have m2 : Nat.log2 967 + spot.log2 ≤ 900000 := by
      rw [show Nat.log2 967 = 9 by rfl]; omega
    have m3 : Nat.log2 1171 + spot.log2 ≤ 900000 := by
      rw [show Nat.log2 1171 = 10 by rfl]; omega
    have m4 : Nat.log2 43 ≤ 900000 := by rw [show Nat.log2 43 = 5 by rfl]; omega
    have m6 : Nat.log2 43 + Nat.log2 1 ≤ 900000 := by rw [show Nat.log2 43 = 5 by rfl, show Nat.log2 1 = 0 by rfl]; omega
    have sz : 3 ≤ sizeLine := by decide
    have p1 : (Nat.log2 10 + 1) * 58 ≤ 100000000 := by rw [show Nat.log2 10 = 3 by rfl]; omega
    have p2 : (Nat.log2 10 + 1) * 17 ≤ 100000000 := by rw [show Nat.log2 10 = 3 by rfl]; omega
    have p3 : ((Nat.log2 (10 ^ 58)) + 1) * 5 ≤ 100000000 := by decide +kernel
    rw [callF_succ (F := ⟨2, 4, c__law_crock⟩) rfl rfl]
    have fin : ∀ cell : Int, R.ok (D.ref h.length) (h ++ [cr (if great cell - 10 ^ 17 > 0 then great cell - 10 ^ 17 else 0) (crB cell spot) 0]) = R.ret h (R.ok (D.ref h.length) (h ++ [cr (if great cell - 10 ^ 17 > 0 then great cell - 10 ^ 17 else 0) (crB cell spot) 0])) := fun cell => (ret_new (t := []) rfl).symm
    rw [fin]
    congr 1
    simp only [great] at m1
    rcases hc with hc | ⟨hc, rfl⟩
    · have hl := (List.getElem?_eq_some_iff.mp hc).1
      have ix0 : ixD h (.ref 0) (.int (spot : Int)) = some (.int cell) := by rw [ix_lst e]; exact atI_ok (by simp [hc])
      by_cases hn : cell < 0
      · simp [evSs, evS, evE, evEs, evL, evQ, evI_q, evI_enum, evW, evIfs, evD, evPairs, startS, atS, setS, wipeS, bind_ok, opt_some, RS.fin, binD_add, binD_addT, binD_sub, binD_mul, binD_div, binD_mod, binD_pow, augD_add, augD_sub, augD_mul, b1_int, b1_intb, b1_abs, b2_max, b2_min, cmp_lt, cmp_gt, cmp_le, cmp_ge, cmp_eq, cmp_ne, cmp_inV, cmp_nin, cmp_is, cmp_isn, cmpEq_int, cmpEq_bl, isi_ii, isi_ib, isi_tt, bq_len, bq_tuple, seq_tup, seq_tupk, ix_tup, refsOf_ref, refsOf_tup, partD_non, partD_int, asg_nm, asg_tp, cmpIn_tup, L2.atI, L2.ixN, ret_same, flat_non, flat_bl, flat_int, flat_tup, flats_nil, flats_cons, flat_lst, flat_dct, flats_ints, sameH_nil, lockH_nil, unlockH_nil, R.calm, R.unlock, RS.unlock, RS.gc, c__law_crock, s1, hl, hc, ix0, m1, m2, m3, m4, sz, p1, p2, p3, hn, cr, crB, great] at m1 ⊢
        simp [evSs, evS, evE, evEs, evL, evQ, evI_q, evI_enum, evW, evIfs, evD, evPairs, startS, atS, setS, wipeS, bind_ok, opt_some, RS.fin, binD_add, binD_addT, binD_sub, binD_mul, binD_div, binD_mod, binD_pow, augD_add, augD_sub, augD_mul, b1_int, b1_intb, b1_abs, b2_max, b2_min, cmp_lt, cmp_gt, cmp_le, cmp_ge, cmp_eq, cmp_ne, cmp_inV, cmp_nin, cmp_is, cmp_isn, cmpEq_int, cmpEq_bl, isi_ii, isi_ib, isi_tt, bq_len, bq_tuple, seq_tup, seq_tupk, ix_tup, refsOf_ref, refsOf_tup, partD_non, partD_int, asg_nm, asg_tp, cmpIn_tup, L2.atI, L2.ixN, ret_same, flat_non, flat_bl, flat_int, flat_tup, flats_nil, flats_cons, flat_lst, flat_dct, flats_ints, sameH_nil, lockH_nil, unlockH_nil, R.calm, R.unlock, RS.unlock, RS.gc, m1, m4, m6, sz]
      · simp [evSs, evS, evE, evEs, evL, evQ, evI_q, evI_enum, evW, evIfs, evD, evPairs, startS, atS, setS, wipeS, bind_ok, opt_some, RS.fin, binD_add, binD_addT, binD_sub, binD_mul, binD_div, binD_mod, binD_pow, augD_add, augD_sub, augD_mul, b1_int, b1_intb, b1_abs, b2_max, b2_min, cmp_lt, cmp_gt, cmp_le, cmp_ge, cmp_eq, cmp_ne, cmp_inV, cmp_nin, cmp_is, cmp_isn, cmpEq_int, cmpEq_bl, isi_ii, isi_ib, isi_tt, bq_len, bq_tuple, seq_tup, seq_tupk, ix_tup, refsOf_ref, refsOf_tup, partD_non, partD_int, asg_nm, asg_tp, cmpIn_tup, L2.atI, L2.ixN, ret_same, flat_non, flat_bl, flat_int, flat_tup, flats_nil, flats_cons, flat_lst, flat_dct, flats_ints, sameH_nil, lockH_nil, unlockH_nil, R.calm, R.unlock, RS.unlock, RS.gc, c__law_crock, s1, hl, hc, ix0, m1, m2, m3, m4, sz, p1, p2, p3, hn, cr, crB, great] at m1 ⊢
        simp [evSs, evS, evE, evEs, evL, evQ, evI_q, evI_enum, evW, evIfs, evD, evPairs, startS, atS, setS, wipeS, bind_ok, opt_some, RS.fin, binD_add, binD_addT, binD_sub, binD_mul, binD_div, binD_mod, binD_pow, augD_add, augD_sub, augD_mul, b1_int, b1_intb, b1_abs, b2_max, b2_min, cmp_lt, cmp_gt, cmp_le, cmp_ge, cmp_eq, cmp_ne, cmp_inV, cmp_nin, cmp_is, cmp_isn, cmpEq_int, cmpEq_bl, isi_ii, isi_ib, isi_tt, bq_len, bq_tuple, seq_tup, seq_tupk, ix_tup, refsOf_ref, refsOf_tup, partD_non, partD_int, asg_nm, asg_tp, cmpIn_tup, L2.atI, L2.ixN, ret_same, flat_non, flat_bl, flat_int, flat_tup, flats_nil, flats_cons, flat_lst, flat_dct, flats_ints, sameH_nil, lockH_nil, unlockH_nil, R.calm, R.unlock, RS.unlock, RS.gc, m1, m4, m6, sz]
    · have hl := List.getElem?_eq_none_iff.mp hc
      have hl2 : ¬ (spot : Int) < ns.length := by omega
      have hn : ¬ 967 * (spot : Int) + 83 < 0 := by omega
      simp [evSs, evS, evE, evEs, evL, evQ, evI_q, evI_enum, evW, evIfs, evD, evPairs, startS, atS, setS, wipeS, bind_ok, opt_some, RS.fin, binD_add, binD_addT, binD_sub, binD_mul, binD_div, binD_mod, binD_pow, augD_add, augD_sub, augD_mul, b1_int, b1_intb, b1_abs, b2_max, b2_min, cmp_lt, cmp_gt, cmp_le, cmp_ge, cmp_eq, cmp_ne, cmp_inV, cmp_nin, cmp_is, cmp_isn, cmpEq_int, cmpEq_bl, isi_ii, isi_ib, isi_tt, bq_len, bq_tuple, seq_tup, seq_tupk, ix_tup, refsOf_ref, refsOf_tup, partD_non, partD_int, asg_nm, asg_tp, cmpIn_tup, L2.atI, L2.ixN, ret_same, flat_non, flat_bl, flat_int, flat_tup, flats_nil, flats_cons, flat_lst, flat_dct, flats_ints, sameH_nil, lockH_nil, unlockH_nil, R.calm, R.unlock, RS.unlock, RS.gc, c__law_crock, s1, hl2, m1, m2, m3, m4, sz, p1, p2, p3, hn, cr, crB, great] at m1 ⊢
      simp [evSs, evS, evE, evEs, evL, evQ, evI_q, evI_enum, evW, evIfs, evD, evPairs, startS, atS, setS, wipeS, bind_ok, opt_some, RS.fin, binD_add, binD_addT, binD_sub, binD_mul, binD_div, binD_mod, binD_pow, augD_add, augD_sub, augD_mul, b1_int, b1_intb, b1_abs, b2_max, b2_min, cmp_lt, cmp_gt, cmp_le, cmp_ge, cmp_eq, cmp_ne, cmp_inV, cmp_nin, cmp_is, cmp_isn, cmpEq_int, cmpEq_bl, isi_ii, isi_ib, isi_tt, bq_len, bq_tuple, seq_tup, seq_tupk, ix_tup, refsOf_ref, refsOf_tup, partD_non, partD_int, asg_nm, asg_tp, cmpIn_tup, L2.atI, L2.ixN, ret_same, flat_non, flat_bl, flat_int, flat_tup, flats_nil, flats_cons, flat_lst, flat_dct, flats_ints, sameH_nil, lockH_nil, unlockH_nil, R.calm, R.unlock, RS.unlock, RS.gc, m1, m4, m6, sz]
  cases e2 : ns[spot]? with
  | none => exact ⟨_, _, (crB_ok _ _ (by omega) (by omega)).1, (crB_ok _ _ (by omega) (by omega)).2, key _ (Or.inr ⟨e2, rfl⟩)⟩
  | some cell => exact ⟨_, _, (crB_ok _ _ (by omega) (by omega)).1, (crB_ok _ _ (by omega) (by omega)).2, key cell (Or.inl e2)⟩
end K78
set_option Elab.async false
set_option linter.all false
set_option maxRecDepth 100000
set_option maxHeartbeats 4000000
namespace K78
open PySem PySem.W Rw
def nl (xs : List Nat) : List D := xs.map fun i : Nat => D.int (i : Int)
theorem flats_nl (xs : List Nat) : D.flats (nl xs) = true := flats_int2 _ xs
theorem flat_nl (xs : List Nat) : (AO.lst (nl xs) false).flat = true := flats_nl xs
theorem nl_len (xs : List Nat) : (nl xs).length = xs.length := by simp [nl]
theorem nl_get (xs : List Nat) (i : Nat) : (nl xs)[i]? = (xs[i]?).map fun i : Nat => D.int (i : Int) := by simp [nl]
theorem nl_set (xs : List Nat) (i v : Nat) : (nl xs).set i (.int (v : Int)) = nl (xs.set i v) := by simp [nl, List.map_set]
theorem w_mixed (n : Nat) (h : AH) (r : Nat) (a b c : Int) (many : Nat) (e : h[r]? = some (cr a b c)) (hm : 1 ≤ many) (hm2 : many ≤ 60) (hc : 0 ≤ c) (hc2 : c + many < 100000) (hb : 0 ≤ b) (hb2 : b < 2 ^ 80) :
    ∃ xs a' c', List.Perm xs (List.range many) ∧ 0 ≤ c' ∧ c' ≤ c + many ∧ callF G (n + 2) 17 [.ref r, .int many] h = .ok (.ref h.length) (h.set r (cr a' b c') ++ [AO.lst (nl xs) false]) := by
  have hr := lt_of_get e
  rw [callF_succ (F := ⟨2, 5, c__law_mixed⟩) rfl rfl]
  have sm1 : small62 ((many : Int) - 1) = true := small_int (by omega) (by omega)
  have sm0 : small62 0 = true := small_int (by omega) (by omega)
  have sz : many ≤ sizeLine := Nat.le_trans hm2 (by decide)
  have items : rangeD ((many : Int) - 1) ((many : Int) - 1 - 0).toNat (-1) = (List.range (many - 1)).map fun i : Nat => D.int ((many - 1 - i : Nat) : Int) := by
    unfold rangeD
    have : ((many : Int) - 1 - 0).toNat = many - 1 := by omega
    rw [this]
    refine List.map_congr_left fun i hi => ?_
    have := List.mem_range.mp hi
    exact congrArg D.int (by omega)
  have rg : rangeD 0 many 1 = nl (List.range many) := rangeD_up many
  let h0 : AH := h ++ [AO.lst (nl (List.range many)) false]
  have e1 : evS G (callF G (n + 1)) (.set 2 (.new (.range (.rng1 (.var 1))))) [some (.ref r), some (.int many), none, none, none] h = .nx [some (.ref r), some (.int many), some (.ref h.length), none, none] h0 := by
    exact evS_set (evE_new (evL_range (evI_rng1 rfl (by omega)) (by rw [nl_len, List.length_range]; exact sz)))
  have e2 : evI G (callF G (n + 1)) (.rng3 (.bin .Sub (.var 1) (.cst (.int 1))) (.cst (.int 0)) (.neg (.cst (.int 1)))) [some (.ref r), some (.int many), some (.ref h.length), none, none] h0 = .ok ((List.range (many - 1)).map fun i : Nat => D.int ((many - 1 - i : Nat) : Int), []) h0 := by
    rw [evI_rng3 (i := (many : Int) - 1) (j := 0) rfl rfl rfl sm1 sm0, items]
  obtain ⟨ρ3, h3, e3, _, rfl, xs, a', c', hp, hc3, hc4, rfl⟩ := evS_fore (tg := .nm 3) (body := l__law_mixed_1) (kill := [3, 4]) (I := fun rem ρ h2 => (∀ x ∈ rem, ∃ v : Nat, x = D.int (v : Int) ∧ v < many) ∧ ρ = [some (.ref r), some (.int many), some (.ref h.length), none, none] ∧ ∃ (xs : List Nat) (a' c' : Int), List.Perm xs (List.range many) ∧ 0 ≤ c' ∧ c' + rem.length ≤ c + (many - 1 : Nat) ∧ h2 = h.set r (cr a' b c') ++ [AO.lst (nl xs) false]) e2 rfl (fun _ _ _ _ => rfl) (by
      rintro x rem ρ h2 ⟨hx, rfl, xs, a', c', hp, hc0, hc1, rfl⟩
      obtain ⟨v, rfl, hv⟩ := hx x (List.mem_cons_self ..)
      have hlen : xs.length = many := by rw [hp.length_eq]; simp
      simp only [List.length_cons] at hc1
      obtain ⟨o, a2, c2, o0, o1, hc3, hc4, ec⟩ := w_ladle n (h.set r (cr a' b c') ++ [AO.lst (nl xs) false]) r a' b c' (v + 1) (by rw [get_old (by simpa using hr), get_set hr]) (by omega) (by omega) hc0 (by omega) hb hb2
      obtain ⟨o, rfl⟩ := Int.eq_ofNat_of_zero_le o0
      have ho : o < xs.length := by omega
      have hv2 : v < xs.length := by omega
      rw [set_old (by simpa using hr), List.set_set] at ec
      have ln : ∀ ys : List D, (h.set r (cr a2 b c2) ++ [AO.lst ys false])[h.length]? = some (.lst ys false) := fun ys => fl_get0 List.length_set _
      have st : ∀ (ys zs : List D), (h.set r (cr a2 b c2) ++ [AO.lst ys false]).set h.length (.lst zs false) = h.set r (cr a2 b c2) ++ [AO.lst zs false] := fun ys zs => fl_set0 List.length_set _ _
      have i1 : L2.atI (nl xs) (o : Int) = some (.int (xs[o] : Nat)) := atI_ok (by rw [nl_get, List.getElem?_eq_getElem ho]; rfl)
      have i2 : L2.atI (nl xs) (v : Int) = some (.int (xs[v] : Nat)) := atI_ok (by rw [nl_get, List.getElem?_eq_getElem hv2]; rfl)
      have j1 : L2.ixN (nl xs).length (v : Int) = some v := by unfold L2.ixN; rw [if_pos (by omega), if_pos (by rw [nl_len]; omega)]; rfl
      have j2 : L2.ixN (nl (xs.set v xs[o])).length (o : Int) = some o := by unfold L2.ixN; rw [if_pos (by omega), if_pos (by rw [nl_len]; simp; omega)]; rfl
      refine ⟨_, _, _, rfl, ?_, fun x hx2 => hx x (List.mem_cons_of_mem _ hx2), rfl, (xs.set v xs[o]).set o xs[v], a2, c2, (List.set_set_perm hv2 ho).trans hp, hc3, by omega, rfl⟩
      simp only [l__law_mixed_1, List.set_cons_succ, List.set_cons_zero, evSs, evS, evE, evEs, atS, List.getElem?_cons_succ, List.getElem?_cons_zero, Option.join_some, opt_some, bind_ok, binD_add, ec, ix_lst (ln _), i1, i2, putD_lst (ln _), j1, j2, nl_set, st, RS.gc]
      rw [gcS_fl (((Fl.refl h).set rfl).app (Fl.cons .nil (flat_nl _))) (by simp [wipeS, D.under]; omega)]
      simp [wipeS]) ⟨fun x hx => by
      obtain ⟨i, hi, rfl⟩ := List.mem_map.mp hx
      have := List.mem_range.mp hi
      exact ⟨_, rfl, by omega⟩, rfl, List.range many, a, c, List.Perm.refl _, hc, by rw [List.length_map, List.length_range]; omega, by rw [set_get e]⟩
  refine ⟨xs, a', c', hp, hc3, by simp at hc4; omega, ?_⟩
  rw [← ret_fln0 (t := [AO.lst (nl xs) false]) ((Fl.refl h).set rfl) rfl (flat_nl xs)]
  refine congrArg (R.ret h) ?_
  show RS.fin (evSs G (callF G (n + 1)) c__law_mixed [some (.ref r), some (.int many), none, none, none] h) = _
  unfold c__law_mixed
  rw [evSs_cons e1, evSs_cons e3, evSs_ret rfl]
  rfl
end K78
set_option Elab.async false
set_option linter.all false
set_option maxRecDepth 100000
set_option maxHeartbeats 4000000
namespace K78
open PySem PySem.W Rw
theorem nl_of {m : Nat} : ∀ {ys : List D}, (∀ y ∈ ys, ∃ v : Nat, y = D.int (v : Int) ∧ v < m) → ∃ vs : List Nat, ys = nl vs ∧ ∀ v ∈ vs, v < m
  | [], _ => ⟨[], rfl, by simp⟩
  | y :: ys, h => by
    obtain ⟨v, e, hv⟩ := h y (List.mem_cons_self ..)
    obtain ⟨vs, e2, hvs⟩ := nl_of fun z hz => h z (List.mem_cons_of_mem _ hz)
    exact ⟨v :: vs, by rw [e, e2]; rfl, by simpa using ⟨hv, hvs⟩⟩
/-- many drawn numbers -/
theorem w_row (n : Nat) (h : AH) (r : Nat) (a b c : Int) (many : Nat) (ρ : St) (h0 : atS ρ 0 = some (.ref r)) (h2 : atS ρ 2 = some (.int many)) (e : h[r]? = some (cr a b c)) (hm : 1 ≤ many) (hm2 : many ≤ 60) (hc : 0 ≤ c) (hc2 : c + many < 100000) (hb : 0 ≤ b) (hb2 : b < 2 ^ 80) :
    ∃ vs a' c', vs.length = many ∧ (∀ v ∈ vs, v < many) ∧ 0 ≤ c' ∧ c' ≤ c + many ∧ evL G (callF G (n + 1)) (.comp (.call 16 (.cons (.var 0) (.cons (.var 2) .nil))) (.nm 7) (.rng1 (.var 2)) .nil [7]) ρ h = .ok (nl vs) (h.set r (cr a' b c')) := by
  have hr := lt_of_get e
  have hlen : ((List.range many).map fun i : Nat => D.int (i : Int)).length = many := by rw [List.length_map, List.length_range]
  have sz : many ≤ sizeLine := Nat.le_trans hm2 (by decide)
  obtain ⟨ys, h3, ec, ⟨a', c', hc3, hc4, rfl⟩, hl, hp⟩ := compGo_invN (sm := sameH h []) (el := fun x h => match asgD h (.nm 7) x (wipeS ρ [7]) with
        | some ρ1 => (evIfs G (callF G (n + 1)) .nil ρ1 h).bind fun b h => if b then (evE G (callF G (n + 1)) (.call 16 (.cons (.var 0) (.cons (.var 2) .nil))) ρ1 h).bind fun y h => .ok [y] h else .ok [] h
        | none => .bad) (I := fun k h3 => ∃ a' c', 0 ≤ c' ∧ c' + k ≤ c + many ∧ h3 = h.set r (cr a' b c')) (P := fun y => ∃ v : Nat, y = D.int (v : Int) ∧ v < many) (xs := (List.range many).map fun i : Nat => D.int (i : Int)) (fun _ _ _ => rfl) (by
      rintro x _ k h3 ⟨a', c', hc0, hc1, rfl⟩
      obtain ⟨o, a2, c2, o0, o1, hc3, hc4, ec⟩ := w_ladle n (h.set r (cr a' b c')) r a' b c' many (get_set hr) (by omega) (by omega) hc0 (by omega) hb hb2
      obtain ⟨o, rfl⟩ := Int.eq_ofNat_of_zero_le o0
      rw [List.set_set] at ec
      refine ⟨_, _, ?_, ⟨a2, c2, hc3, by omega, rfl⟩, o, rfl, by omega⟩
      rw [asg_own]
      show (evE G _ _ _ _).bind _ = _
      rw [evE_call (evEs_cons (evE_var (by rw [at_set (d := x) (by decide)]; exact h0)) (evEs_1 (evE_var (by rw [at_set (d := x) (by decide)]; exact h2)))) ec]
      rfl) (by rw [hlen]; exact sz) h ⟨a, c, hc, by rw [hlen]; omega, (set_get e).symm⟩
  obtain ⟨vs, rfl, hvs⟩ := nl_of hp
  rw [hlen, nl_len] at hl
  exact ⟨vs, a', c', hl, hvs, hc3, by omega, evL_comp (evI_rng1 (evE_var h2) (by omega)) rfl ec⟩
theorem w_row2 (n : Nat) (h : AH) (r : Nat) (a b c : Int) (many : Nat) (ρ : St) (h0 : atS ρ 0 = some (.ref r)) (h2 : atS ρ 2 = some (.int many)) (h7 : 7 < ρ.length) (e : h[r]? = some (cr a b c)) (hm : 1 ≤ many) (hm2 : many ≤ 60) (hc : 0 ≤ c) (hc2 : c + 2 * many < 100000) (hb : 0 ≤ b) (hb2 : b < 2 ^ 80) :
    ∃ vs a' c', vs.length = many ∧ (∀ v ∈ vs, v < many) ∧ 0 ≤ c' ∧ c' ≤ c + 2 * many ∧ evL G (callF G (n + 1)) (.comp (.ite (.cmp .Gt (.call 16 (.cons (.var 0) (.cons (.cst (.int 3)) .nil))) (.cst (.int 0))) (.var 7) (.call 16 (.cons (.var 0) (.cons (.var 2) .nil)))) (.nm 7) (.rng1 (.var 2)) .nil [7]) ρ h = .ok (nl vs) (h.set r (cr a' b c')) := by
  have hr := lt_of_get e
  have hlen : ((List.range many).map fun i : Nat => D.int (i : Int)).length = many := by rw [List.length_map, List.length_range]
  have sz : many ≤ sizeLine := Nat.le_trans hm2 (by decide)
  obtain ⟨ys, h3, ec, ⟨a', c', hc3, hc4, rfl⟩, hl, hp⟩ := compGo_invN (sm := sameH h []) (el := fun x h => match asgD h (.nm 7) x (wipeS ρ [7]) with
        | some ρ1 => (evIfs G (callF G (n + 1)) .nil ρ1 h).bind fun b h => if b then (evE G (callF G (n + 1)) (.ite (.cmp .Gt (.call 16 (.cons (.var 0) (.cons (.cst (.int 3)) .nil))) (.cst (.int 0))) (.var 7) (.call 16 (.cons (.var 0) (.cons (.var 2) .nil)))) ρ1 h).bind fun y h => .ok [y] h else .ok [] h
        | none => .bad) (I := fun k h3 => ∃ a' c', 0 ≤ c' ∧ c' + 2 * k ≤ c + 2 * many ∧ h3 = h.set r (cr a' b c')) (P := fun y => ∃ v : Nat, y = D.int (v : Int) ∧ v < many) (xs := (List.range many).map fun i : Nat => D.int (i : Int)) (fun _ _ _ => rfl) (by
      rintro x hx k h3 ⟨a', c', hc0, hc1, rfl⟩
      obtain ⟨o, a2, c2, o0, o1, hc3, hc4, ec⟩ := w_ladle n (h.set r (cr a' b c')) r a' b c' 3 (get_set hr) (by omega) (by omega) hc0 (by omega) hb hb2
      rw [List.set_set] at ec
      obtain ⟨i, hi, rfl⟩ := List.mem_map.mp hx
      have hi := List.mem_range.mp hi
      have c1 : evE G (callF G (n + 1)) (.call 16 (.cons (.var 0) (.cons (.cst (.int 3)) .nil))) (ρ.set 7 (some (.int (i : Int)))) (h.set r (cr a' b c')) = .ok (.int o) (h.set r (cr a2 b c2)) :=
        evE_call (evEs_cons (evE_var (by rw [at_set (d := .non) (by decide)]; exact h0)) (evEs_1 rfl)) ec
      by_cases h3 : 0 < o
      · refine ⟨_, _, ?_, ⟨a2, c2, hc3, by omega, rfl⟩, i, rfl, hi⟩
        rw [asg_own]
        show (evE G _ _ _ _).bind _ = _
        rw [evE_ite (evE_cmp c1 (evE_cst _ _ _) (cmp_gt _ _ _)), decide_eq_true h3, if_pos rfl, evE_var (at_self h7)]
        rfl
      · obtain ⟨p, a4, c4, p0, p1, hc5, hc6, ec2⟩ := w_ladle n (h.set r (cr a2 b c2)) r a2 b c2 many (get_set hr) (by omega) (by omega) hc3 (by omega) hb hb2
        obtain ⟨p, rfl⟩ := Int.eq_ofNat_of_zero_le p0
        rw [List.set_set] at ec2
        have d1 : evE G (callF G (n + 1)) (.call 16 (.cons (.var 0) (.cons (.var 2) .nil))) (ρ.set 7 (some (.int (i : Int)))) (h.set r (cr a2 b c2)) = .ok (.int p) (h.set r (cr a4 b c4)) :=
          evE_call (evEs_cons (evE_var (by rw [at_set (d := .non) (by decide)]; exact h0)) (evEs_1 (evE_var (by rw [at_set (d := .non) (by decide)]; exact h2)))) ec2
        refine ⟨_, _, ?_, ⟨a4, c4, hc5, by omega, rfl⟩, p, rfl, by omega⟩
        rw [asg_own]
        show (evE G _ _ _ _).bind _ = _
        rw [evE_ite (evE_cmp c1 (evE_cst _ _ _) (cmp_gt _ _ _)), decide_eq_false h3, if_neg (by decide), d1]
        rfl) (by rw [hlen]; exact sz) h ⟨a, c, hc, by rw [hlen]; omega, (set_get e).symm⟩
  obtain ⟨vs, rfl, hvs⟩ := nl_of hp
  rw [hlen, nl_len] at hl
  exact ⟨vs, a', c', hl, hvs, hc3, by omega, evL_comp (evI_rng1 (evE_var h2) (by omega)) rfl ec⟩
end K78
set_option Elab.async false
set_option linter.all false
set_option maxRecDepth 100000
set_option maxHeartbeats 4000000
namespace K78
open PySem PySem.W Rw
def tl (xs : List Nat) : D := .tup (nl xs)
def rowsD (rows : List (List Nat)) : D := .tup (rows.map tl)
theorem flats_tl (rows : List (List Nat)) : D.flats (rows.map tl) = true := flats_of fun x hx => by
  obtain ⟨r, _, rfl⟩ := List.mem_map.mp hx
  exact flats_nl r
theorem rg_len (m : Nat) : ((List.range m).map fun i : Nat => D.int (i : Int)).length = m := by rw [List.length_map, List.length_range]
def okRows (m : Nat) (rows : List (List Nat)) : Prop := ∀ r ∈ rows, r.length = m ∧ ∀ v ∈ r, v < m
theorem w_levers (n : Nat) (h : AH) (r : Nat) (a b c : Int) (e : h[r]? = some (cr a b c)) (hc : 0 ≤ c) (hc2 : c + 100 < 100000) (hb : 0 ≤ b) (hb2 : b < 2 ^ 80) :
    ∃ (m : Nat) (rows : List (List Nat)) (a' c' : Int), 1 ≤ m ∧ m ≤ 5 ∧ 1 ≤ rows.length ∧ rows.length ≤ 3 ∧ okRows m rows ∧ 0 ≤ c' ∧ c' ≤ c + 100 ∧ callF G (n + 3) 18 [.ref r, .int 5] h = .ok (rowsD rows) (h.set r (cr a' b c')) := by
  have hr := lt_of_get e
  obtain ⟨m, a1, c1, m0, m1, hc3, hc4, e1⟩ := w_ladle (n + 1) h r a b c 5 e (by omega) (by omega) hc (by omega) hb hb2
  obtain ⟨m, rfl⟩ := Int.eq_ofNat_of_zero_le m0
  have f1 : (h.set r (cr a1 b c1)).length = h.length := List.length_set
  have g1 : (h.set r (cr a1 b c1) ++ [AO.lst [] false])[r]? = some (cr a1 b c1) := by rw [get_old (by rw [f1]; exact hr), get_set hr]
  obtain ⟨k, a2, c2, k0, k1, hc5, hc6, e2⟩ := w_ladle (n + 1) (h.set r (cr a1 b c1) ++ [AO.lst [] false]) r a1 b c1 3 g1 (by omega) (by omega) hc3 (by omega) hb hb2
  obtain ⟨k, rfl⟩ := Int.eq_ofNat_of_zero_le k0
  rw [set_old (by rw [f1]; exact hr), List.set_set] at e2
  have s1 : evS G (callF G (n + 2)) (.par [2, 3] (.cons (.bin .Add (.cst (.int 1)) (.call 16 (.cons (.var 0) (.cons (.var 1) .nil)))) (.cons (.new (.disp .nil)) .nil))) [some (.ref r), some (.int 5), none, none, none, none, none, none] h = .nx [some (.ref r), some (.int 5), some (.int (1 + m : Nat)), some (.ref h.length), none, none, none, none] (h.set r (cr a1 b c1) ++ [AO.lst [] false]) := by
    rw [evS_par (evEs_cons (evE_bin (evE_cst _ _ _) (evE_call (evEs_cons rfl (evEs_1 rfl)) e1) (binD_add _ _)) (evEs_1 (evE_new (evL_disp (evEs_nil _ _) (Nat.zero_le _))))) rfl]
    rw [f1]
    simp [setS]
  have i1 : evI G (callF G (n + 2)) (.rng1 (.bin .Add (.cst (.int 1)) (.call 16 (.cons (.var 0) (.cons (.cst (.int 3)) .nil))))) [some (.ref r), some (.int 5), some (.int (1 + m : Nat)), some (.ref h.length), none, none, none, none] (h.set r (cr a1 b c1) ++ [AO.lst [] false]) = .ok ((List.range (1 + k)).map fun i : Nat => D.int (i : Int), []) (h.set r (cr a2 b c2) ++ [AO.lst [] false]) :=
    evI_rng1 (n := 1 + k) (evE_bin (evE_cst _ _ _) (evE_call (evEs_cons rfl (evEs_1 rfl)) e2) (by rw [binD_add]; simp)) (by omega)
  obtain ⟨ρ3, h3, e3, rfl, rows, a', c', hl, hok, hc7, hc8, rfl⟩ := evS_fore (tg := .nm 4) (body := l__law_levers_1) (kill := [4, 5, 6]) (I := fun rem ρ h2 => ρ = [some (.ref r), some (.int 5), some (.int (1 + m : Nat)), some (.ref h.length), none, none, none, none] ∧ ∃ (rows : List (List Nat)) (a' c' : Int), rows.length + rem.length = 1 + k ∧ okRows (1 + m) rows ∧ 0 ≤ c' ∧ c' + 30 * rem.length ≤ c + 95 ∧ h2 = h.set r (cr a' b c') ++ [AO.lst (rows.map tl) false]) i1 rfl (fun _ _ _ _ => rfl) (by
      rintro x rem ρ h2 ⟨rfl, rows, a', c', hl, hok, hc0, hc1, rfl⟩
      simp only [List.length_cons] at hl hc1
      have F : ∀ X : AO, (h.set r X).length = h.length := fun X => List.length_set
      have GX : ∀ (X : Int) (Y : Int) (t : AH), (h.set r (cr X b Y) ++ t)[r]? = some (cr X b Y) := fun X Y t => by rw [get_old (by rw [F]; exact hr), get_set hr]
      have SX : ∀ (X Y : AO) (t : AH), (h.set r X ++ t).set r Y = h.set r Y ++ t := fun X Y t => by rw [set_old (by rw [F]; exact hr), List.set_set]
      have LX : ∀ (X : AO) (t : AH), (h.set r X ++ t).length = h.length + t.length := fun X t => by rw [List.length_append, F]
      obtain ⟨kd, a3, c3, d0, d1, hc9, hc10, e4⟩ := w_ladle (n + 1) _ r a' b c' 3 (GX a' c' [AO.lst (rows.map tl) false]) (by omega) (by omega) hc0 (by omega) hb hb2
      rw [SX] at e4
      obtain ⟨vs, a4, c4, vl, vb, hc11, hc12, e5⟩ := w_row (n + 1) _ r a3 b c3 (1 + m) [some (.ref r), some (.int 5), some (.int (1 + m : Nat)), some (.ref h.length), some x, some (.int kd), none, none] rfl rfl (GX a3 c3 [AO.lst (rows.map tl) false]) (by omega) (by omega) hc9 (by omega) hb hb2
      rw [SX] at e5
      -- the row, one way or another
      have hw : ∃ (xs : List Nat) (a5 c5 : Int) (j : Nat) (junk : AH), xs.length = 1 + m ∧ (∀ v ∈ xs, v < 1 + m) ∧ 0 ≤ c5 ∧ c5 ≤ c4 + 2 * (1 + m) ∧ junk[j]? = some (AO.lst (nl xs) false) ∧
          evSs G (callF G (n + 2)) l__law_levers_1 [some (.ref r), some (.int 5), some (.int (1 + m : Nat)), some (.ref h.length), some x, none, none, none] (h.set r (cr a' b c') ++ [AO.lst (rows.map tl) false]) =
          evSs G (callF G (n + 2)) (.cons (.expr (.append (.var 3) (.bq .tuple (.e (.var 6))))) .nil) [some (.ref r), some (.int 5), some (.int (1 + m : Nat)), some (.ref h.length), some x, some (.int kd), some (.ref (h.length + (1 + j))), none] (h.set r (cr a5 b c5) ++ (AO.lst (rows.map tl) false :: junk)) := by
        have st1 : evS G (callF G (n + 2)) (.set 5 (.call 16 (.cons (.var 0) (.cons (.cst (.int 3)) .nil)))) [some (.ref r), some (.int 5), some (.int (1 + m : Nat)), some (.ref h.length), some x, none, none, none] (h.set r (cr a' b c') ++ [AO.lst (rows.map tl) false]) = .nx [some (.ref r), some (.int 5), some (.int (1 + m : Nat)), some (.ref h.length), some x, some (.int kd), none, none] (h.set r (cr a3 b c3) ++ [AO.lst (rows.map tl) false]) :=
          evS_set (evE_call (evEs_cons rfl (evEs_1 rfl)) e4)
        have st2 := evS_set (i := 6) (evE_new e5)
        rw [LX, List.append_assoc] at st2
        unfold l__law_levers_1
        by_cases q0 : kd = 0
        · subst q0
          obtain ⟨xs, a5, c5, hp, hc13, hc14, e6⟩ := w_mixed n _ r a4 b c4 (1 + m) (GX a4 c4 ([AO.lst (rows.map tl) false] ++ [AO.lst (nl vs) false])) (by omega) (by omega) hc11 (by omega) hb hb2
          rw [SX, LX] at e6
          refine ⟨xs, a5, c5, 1, [AO.lst (nl vs) false, AO.lst (nl xs) false], by rw [hp.length_eq]; simp, fun v hv => List.mem_range.mp (hp.mem_iff.mp hv), hc13, by omega, rfl, ?_⟩
          rw [evSs_cons st1, evSs_cons st2]
          have i1 := evS_ifT (G := G) (cl := callF G (n + 2)) (a := .cons (.set 6 (.call 17 (.cons (.var 0) (.cons (.var 2) .nil)))) .nil) (b := .nil) (evE_cmp (op := .Eq) (a := .var 5) (b := .cst (.int 0)) (ρ := [some (.ref r), some (.int 5), some (.int (1 + m : Nat)), some (.ref h.length), some x, some (.int 0), some (.ref (h.length + 1)), none]) (h := h.set r (cr a4 b c4) ++ ([AO.lst (rows.map tl) false] ++ [AO.lst (nl vs) false])) rfl (evE_cst _ _ _) (by rw [cmp_eq, cmpEq_int]; rfl))
          rw [evSs_cons (evS_set (evE_call (evEs_cons rfl (evEs_1 rfl)) e6)), evSs_nil] at i1
          refine (evSs_cons i1).trans ?_
          refine (evSs_cons (evS_no (evE_cmp rfl (evE_cst _ _ _) (by rw [cmp_eq, cmpEq_int]; rfl)))).trans ?_
          rw [List.append_assoc]
          rfl
        · have n0 : ∀ (ρ : St) (hh : AH), atS ρ 5 = some (.int kd) → evS G (callF G (n + 2)) (.ife (.cmp .Eq (.var 5) (.cst (.int 0))) (.cons (.set 6 (.call 17 (.cons (.var 0) (.cons (.var 2) .nil)))) .nil) .nil) ρ hh = .nx ρ hh := fun ρ hh hρ => evS_no (evE_cmp (evE_var hρ) (evE_cst _ _ _) (by rw [cmp_eq, cmpEq_int, decide_eq_false q0]))
          by_cases q1 : kd = 1
          · subst q1
            obtain ⟨xs, a5, c5, xl, xb, hc13, hc14, e6⟩ := w_row2 (n + 1) _ r a4 b c4 (1 + m) [some (.ref r), some (.int 5), some (.int (1 + m : Nat)), some (.ref h.length), some x, some (.int 1), some (.ref (h.length + 1)), none] rfl rfl (by simp) (GX a4 c4 ([AO.lst (rows.map tl) false] ++ [AO.lst (nl vs) false])) (by omega) (by omega) hc11 (by omega) hb hb2
            rw [SX] at e6
            have st3 := evS_set (i := 6) (evE_new e6)
            rw [LX] at st3
            refine ⟨xs, a5, c5, 1, [AO.lst (nl vs) false, AO.lst (nl xs) false], xl, xb, hc13, by omega, rfl, ?_⟩
            rw [evSs_cons st1, evSs_cons st2, evSs_cons (n0 _ _ rfl)]
            have i1 := evS_ifT (G := G) (cl := callF G (n + 2)) (a := .cons (.set 6 (.new (.comp (.ite (.cmp .Gt (.call 16 (.cons (.var 0) (.cons (.cst (.int 3)) .nil))) (.cst (.int 0))) (.var 7) (.call 16 (.cons (.var 0) (.cons (.var 2) .nil)))) (.nm 7) (.rng1 (.var 2)) .nil [7]))) .nil) (b := .nil) (evE_cmp (op := .Eq) (a := .var 5) (b := .cst (.int 1)) (ρ := [some (.ref r), some (.int 5), some (.int (1 + m : Nat)), some (.ref h.length), some x, some (.int 1), some (.ref (h.length + 1)), none]) (h := h.set r (cr a4 b c4) ++ ([AO.lst (rows.map tl) false] ++ [AO.lst (nl vs) false])) rfl (evE_cst _ _ _) (by rw [cmp_eq, cmpEq_int]; rfl))
            rw [evSs_cons st3, evSs_nil] at i1
            refine (evSs_cons i1).trans ?_
            rw [List.append_assoc]
            rfl
          · refine ⟨vs, a4, c4, 0, [AO.lst (nl vs) false], vl, vb, hc11, by omega, rfl, ?_⟩
            rw [evSs_cons st1, evSs_cons st2, evSs_cons (n0 _ _ rfl)]
            refine (evSs_cons (evS_no (evE_cmp rfl (evE_cst _ _ _) (by rw [cmp_eq, cmpEq_int, decide_eq_false q1])))).trans ?_
            rfl
      obtain ⟨xs, a5, c5, j, junk, xl, xb, hc13, hc14, hj, ew⟩ := hw
      refine ⟨_, [some (.ref r), some (.int 5), some (.int (1 + m : Nat)), some (.ref h.length), none, none, none, none], h.set r (cr a5 b c5) ++ [AO.lst ((rows ++ [xs]).map tl) false], rfl, ?_, rfl, rows ++ [xs], a5, c5, by simp; omega, ?_, hc13, by omega, rfl⟩
      rotate_left
      · intro w hw
        rcases List.mem_append.mp hw with q | q
        · exact hok w q
        · rw [List.mem_singleton.mp q]; exact ⟨xl, xb⟩
      refine Eq.trans (congrArg (RS.gc _ _) (ew.trans (evSs_cons (evS_expr (evE_append (n := h.length) (xs := rows.map tl) (y := tl xs) rfl (fl_get0 (F _) _) (evE_bqE (evE_var rfl) (seq_lst ?_) (bq_tuple _)) (fl_get0 (F _) _) ?_))))) ?_
      · rw [fl_get (F _), Nat.add_comm]; exact hj
      · rw [List.length_map]
        have : (5 : Nat) < sizeLine := by decide
        omega
      rw [evSs_nil]
      rw [fl_set0 (F _)]
      have hh : h.set r (cr a5 b c5) ++ (AO.lst (rows.map tl) false :: junk).set 0 (AO.lst (rows.map tl ++ [tl xs]) false) = (h.set r (cr a5 b c5) ++ [AO.lst ((rows ++ [xs]).map tl) false]) ++ junk := by simp
      rw [hh, gc_fla ((Fl.sets rfl).app (Fl.cons (o' := AO.lst ((rows ++ [xs]).map tl) false) .nil (flats_tl _))) (by simp [wipeS, D.under]; omega)]
      rfl) ⟨rfl, [], a2, c2, by simp, by intro _ hx; (cases hx), hc5, by rw [rg_len]; omega, rfl⟩
  simp only [List.length_nil, Nat.add_zero] at hl
  simp only [List.length_nil] at hc8
  refine ⟨1 + m, rows, a', c', by omega, by omega, by omega, by omega, hok, hc7, by omega, ?_⟩
  rw [callF_succ (F := ⟨2, 8, c__law_levers⟩) rfl rfl]
  have fin := ret_fla (h := h) (h' := h.set r (cr a' b c')) (t := [AO.lst (rows.map tl) false]) (d := rowsD rows) ((Fl.refl h).set rfl) (flats_tl rows)
  rw [← fin]
  refine congrArg (R.ret h) ?_
  show RS.fin (evSs G (callF G (n + 2)) c__law_levers [some (.ref r), some (.int 5), none, none, none, none, none, none] h) = _
  unfold c__law_levers
  rw [evSs_cons s1, evSs_cons e3, evSs_ret (evE_bqE (evE_var rfl) (seq_lst (fl_get0 List.length_set _)) (bq_tuple _))]
  rfl
end K78
set_option Elab.async false
set_option linter.all false
set_option maxRecDepth 100000
set_option maxHeartbeats 4000000
namespace K78
open PySem PySem.W Rw En PBfs
abbrev Lot := Tup Nat
theorem enc_lot (l : Lot) : (enc l : D) = tl l.items := rfl
def img (row : List Nat) (l : Lot) : Lot := ⟨setN (l.items.map fun i => row.getD i 0)⟩
def fns (rows : List (List Nat)) : List (Lot → Lot) := rows.map img
def okL (m : Nat) (l : Lot) : Prop := Asc l.items ∧ (∀ v ∈ l.items, v < m) ∧ l.items ≠ []
theorem at_row {row : List Nat} {i m : Nat} (hl : row.length = m) (hi : i < m) : L2.atI (nl row) (i : Int) = some (.int ((row.getD i 0 : Nat) : Int)) := by
  refine atI_ok ?_
  rw [nl_get, List.getElem?_eq_getElem (by omega)]
  simp [List.getD, List.getElem?_eq_getElem (show i < row.length by omega)]
theorem w_led_by (n : Nat) (h : AH) (m : Nat) (row lot : List Nat) (hl : row.length = m) (hm : m ≤ 60) (hv : ∀ v ∈ lot, v < m) (hz : lot.length ≤ 60) : callF G (n + 1) 2 [tl row, tl lot] h = .ok (tl (img row ⟨lot⟩).items) h := by
  have sz : lot.length ≤ sizeLine := Nat.le_trans hz (by decide)
  rw [callF_succ (F := ⟨2, 3, c_led_by⟩) rfl rfl]
  have fin := ret_same (h := h) (d := tl (img row ⟨lot⟩).items) (flats_nl _)
  rw [← fin]
  refine congrArg (R.ret h) ?_
  show RS.fin (evSs G (callF G n) c_led_by [some (tl row), some (tl lot), none] h) = _
  let ims := lot.map fun i => row.getD i 0
  have c1 : compGo (sameH h []) (fun x h => match asgD h (.nm 2) x (wipeS [some (tl row), some (tl lot), none] [2]) with
        | some ρ1 => (evIfs G (callF G n) .nil ρ1 h).bind fun b h => if b then ((evE G (callF G n) (.ix (.var 0) (.var 2)) ρ1 h).bind fun y h => (evE G (callF G n) (.cst (.bl true)) ρ1 h).bind fun z h => .ok (D.tup [y, z]) h).bind fun y h => .ok [y] h else .ok [] h
        | none => .bad) (nl lot) h = .ok (lot.map fun i => D.tup [.int ((row.getD i 0 : Nat) : Int), .bl true]) h := by
    refine compGo_map (e := fun i : Nat => D.int (i : Int)) rfl (fun i hi => ?_) sz
    rw [asg_own]
    show ((evE G _ (.ix (.var 0) (.var 2)) [some (tl row), some (tl lot), some (.int (i : Int))] h).bind _).bind _ = _
    rw [evE_ix (x := tl row) (y := .int (i : Int)) rfl rfl (at_row hl (hv i hi))]
    rfl
  have k1 : ((lot.map fun i => D.tup [.int ((row.getD i 0 : Nat) : Int), .bl true]).map pairFst).all flatK = true := by
    rw [List.map_map, List.all_map, List.all_eq_true]
    intro i _; rfl
  have d1 := evD_comp (G := G) (cl := callF G n) (k := .ix (.var 0) (.var 2)) (v := .cst (.bl true)) (tg := .nm 2) (it := .q (.e (.var 1))) (ifs := .nil) (own := [2]) (ρ := [some (tl row), some (tl lot), none]) (h := h) (h0 := h) (xs := nl lot) (ws := []) rfl rfl c1 k1
  have d2 : ((lot.map fun i => D.tup [.int ((row.getD i 0 : Nat) : Int), .bl true]).foldl (fun acc p => dput acc (pairFst p) (pairSnd p)) []) = encD D.bl (aputs (fun _ => true) ims []) := by
    have := dputs_en (α := Nat) D.bl (fun _ => true) ims []
    rw [← this, List.map_map]
    rfl
  rw [d2] at d1
  have ks := aputs_keys (α := Nat) (f := fun _ => true) (xs := ims) (acc := []) List.nodup_nil
  have kl : ((aputs (fun _ => true) ims []).map (·.1)).length ≤ sizeLine := Nat.le_trans (ks.1.length_le_of_subset fun z hz => by simpa using (ks.2 z).mp hz) (by simp [ims]; exact sz)
  have s1 := sortD_en ((aputs (fun _ => true) ims []).map (·.1)) (by decide) kl (Or.inr fun x _ ys e => by cases e)
  rw [sortO_set ks.1 (ys := ims) (fun z => by simpa using ks.2 z)] at s1
  have q1 : evL G (callF G n) (.sorted (.d (.comp (.ix (.var 0) (.var 2)) (.cst (.bl true)) (.nm 2) (.q (.e (.var 1))) .nil [2]))) [some (tl row), some (tl lot), none] h = .ok (nl (setN ims)) h := by
    unfold evL
    unfold evQ
    rw [if_pos rfl, d1, bind_ok, bind_ok]
    have : (encD D.bl (aputs (fun _ => true) ims [])).map (·.1) = ((aputs (fun _ => true) ims []).map (·.1)).map enc := by simp [encD]
    rw [this, s1]; rfl
  unfold c_led_by
  rw [evSs_ret (evE_bqL q1 (bq_tuple _))]
  rfl
/-- found, waiting -/
def hp (h : AH) (F : List (Lot × List Nat)) : AH := h ++ [AO.dct (encD tl F) false, AO.lst ((F.map (·.1)).map enc) false]
theorem hp_len (h : AH) (F : List (Lot × List Nat)) : (hp h F).length = h.length + 2 := by simp [hp]
theorem hp_dflat (F : List (Lot × List Nat)) : (AO.dct (encD tl F) false).flat = true := by
  rw [flat_dct, Bool.and_eq_true]
  constructor
  · refine flats_of fun d hd => ?_
    obtain ⟨kv, hkv, rfl⟩ := List.mem_map.mp hd
    obtain ⟨q, _, rfl⟩ := List.mem_map.mp hkv
    exact flats_nl _
  · refine flats_of fun d hd => ?_
    obtain ⟨kv, hkv, rfl⟩ := List.mem_map.mp hd
    obtain ⟨q, _, rfl⟩ := List.mem_map.mp hkv
    exact flats_nl _
theorem hp_fl (h : AH) (F F' : List (Lot × List Nat)) : Fl (hp h F) (hp h F') := by
  have h1 : (AO.lst ((F'.map (·.1)).map (enc : Lot → D)) false).flat = true := flats_map _
  exact (Fl.refl h).app (Fl.cons (Fl.cons .nil h1) (hp_dflat F'))
theorem w_add (n : Nat) (h : AH) (ρ : St) (fi wi gi : Nat) (ve : CE) (F : List (Lot × List Nat)) (g : Lot) (w : List Nat) (j : Nat) (hf : atS ρ fi = some (.ref h.length)) (hw : atS ρ wi = some (.ref (h.length + 1))) (hg : atS ρ gi = some (enc g)) (hl : F.length < 1000)
    (hv : evE G (callF G n) ve ρ (hp h F) = .ok (tl (w ++ [j])) (hp h F)) :
    evS G (callF G n) (.ife (.cmp .NotIn (.var gi) (.var fi)) (.cons (.setIx (.var fi) (.var gi) ve) (.cons (.expr (.append (.var wi) (.var gi))) .nil)) .nil) ρ (hp h F) = .nx ρ (hp h (add w F (j, g))) := by
  have D0 : (hp h F)[h.length]? = some (AO.dct (encD tl F) false) := (get_app0 h _).trans rfl
  have D1 : ∀ o p : AO, (h ++ [o, p])[h.length + 1]? = some p := fun o p => (get_app h _ 1).trans rfl
  have sz : (1000 : Nat) < sizeLine := by decide
  have hn : cmpD (hp h F) .NotIn (enc g) (.ref h.length) = some (!decide (g ∈ F.map (·.1))) := by
    rw [cmp_nin, cmpIn_dct D0, fits_en, if_pos rfl, dget_en, Option.isSome_map, aget_isSome]
    rfl
  by_cases hm : g ∈ F.map (·.1)
  · rw [decide_eq_true hm] at hn
    rw [evS_no (evE_cmp (evE_var hg) (evE_var hf) hn)]
    unfold add
    rw [if_pos hm]
  · rw [decide_eq_false hm] at hn
    rw [evS_ifT (evE_cmp (evE_var hg) (evE_var hf) hn)]
    unfold add
    rw [if_neg hm]
    have p1 : evS.putD (hp h F) (.ref h.length) (enc g) (tl (w ++ [j])) = .ok .non (h ++ [AO.dct (encD tl (F ++ [(g, w ++ [j])])) false, AO.lst ((F.map (·.1)).map enc) false]) := by
      rw [putD_dct D0, fits_en, dput_en, aput_new hm, if_pos]
      · unfold hp
        rw [set_app0]; rfl
      · rw [Bool.true_and, decide_eq_true_eq]
        simp only [encD, List.length_map]; omega
    refine (evSs_cons (evS_setIx hv (evE_var hf) (evE_var hg) p1)).trans ?_
    refine (evSs_cons (evS_expr (evE_append (n := h.length + 1) (evE_var hw) (D1 _ _) (evE_var hg) (D1 _ _) (by simp only [List.length_map]; omega)))).trans ?_
    rw [evSs_nil, set_app]
    unfold hp
    simp
theorem lots_len {m : Nat} {F : List (Lot × List Nat)} (hm : m ≤ 7) (nd : (F.map (·.1)).Nodup) (hF : ∀ q ∈ F, okL m q.1) : F.length ≤ 128 := by
  have h1 : (F.map (·.1)).length ≤ ((subs (List.range m)).map (Tup.mk (α := Nat))).length := nd.length_le_of_subset fun z hz => by
    obtain ⟨q, hq, rfl⟩ := List.mem_map.mp hz
    have := hF q hq
    exact List.mem_map.mpr ⟨q.1.items, subs_mem (range_asc m) this.1 fun z hz => List.mem_range.mpr (this.2.1 z hz), rfl⟩
  rw [List.length_map, List.length_map, subs_len, List.length_range] at h1
  have : 2 ^ m ≤ 2 ^ 7 := Nat.pow_le_pow_right (by omega) hm
  omega
theorem img_ok {m : Nat} {row : List Nat} {x : Lot} (hr : row.length = m ∧ ∀ v ∈ row, v < m) (hx : okL m x) : okL m (img row x) := by
  have hv : ∀ v ∈ (x.items.map fun i => row.getD i 0), v < m := fun v hv => by
    obtain ⟨i, hi, rfl⟩ := List.mem_map.mp hv
    have : i < row.length := by rw [hr.1]; exact hx.2.1 i hi
    rw [List.getD, List.getElem?_eq_getElem this]
    exact hr.2 _ (List.getElem_mem this)
  refine ⟨setN_asc _, fun v h => hv v ((setN_mem v _).mp h), fun e => ?_⟩
  cases hc : x.items with
  | nil => exact hx.2.2 hc
  | cons a r =>
    have : row.getD a 0 ∈ setN (x.items.map fun i => row.getD i 0) := (setN_mem _ _).mpr (by rw [hc]; simp)
    have e2 : setN (x.items.map fun i => row.getD i 0) = [] := e
    rw [e2] at this
    cases this
theorem okL_len {m : Nat} {x : Lot} (hx : okL m x) : x.items.length ≤ m := by
  have : x.items.length ≤ (List.range m).length := (asc_nd hx.1).length_le_of_subset fun z hz => List.mem_range.mpr (hx.2.1 z hz)
  rwa [List.length_range] at this
def whole (m : Nat) : Lot := ⟨List.range m⟩
theorem whole_ok {m : Nat} (hm : 1 ≤ m) : okL m (whole m) := ⟨range_asc m, fun v h => List.mem_range.mp h, fun e => by
  have : (List.range m).length = 0 := by
    have e2 : List.range m = [] := e
    rw [e2]; rfl
  rw [List.length_range] at this; omega⟩
theorem goals_rows (rows : List (List Nat)) (x : Lot) : goals (fns rows) x = rows.zipIdx.map fun p => (p.2, img p.1 x) := by
  unfold goals fns
  rw [List.zipIdx_map, List.map_map]
  rfl
/-- the walk through the lots comes to an end -/
theorem bfs_some {m : Nat} {rows : List (List Nat)} (hm : m ≤ 7) (hm1 : 1 ≤ m) (hr : okRows m rows) : ∃ Rr, bfs (fns rows) 200 [(whole m, [])] 0 = some Rr := by
  have h1 : ((subs (List.range m)).map (Tup.mk (α := Nat))).length ≤ 128 := by
    rw [List.length_map, subs_len, List.length_range]
    have : 2 ^ m ≤ 2 ^ 7 := Nat.pow_le_pow_right (by omega) hm
    omega
  haveI dec : ∀ x : Lot, Decidable (okL m x) := fun x => Classical.propDecidable _
  have U : ∀ x : Lot, x ∈ ((subs (List.range m)).map (Tup.mk (α := Nat))).filter (fun x => decide (okL m x)) ↔ okL m x := fun x => by
    rw [List.mem_filter, decide_eq_true_eq]
    exact ⟨fun h => h.2, fun h => ⟨List.mem_map.mpr ⟨x.items, subs_mem (range_asc m) h.1 fun z hz => List.mem_range.mpr (h.2.1 z hz), rfl⟩, h⟩⟩
  have h2 := List.length_filter_le (fun x => decide (okL m x)) ((subs (List.range m)).map (Tup.mk (α := Nat)))
  refine bfs_end (U := ((subs (List.range m)).map (Tup.mk (α := Nat))).filter fun x => decide (okL m x)) (fun x hx r hr2 => ?_) (by simp) (fun q hq => ?_) (by simp) (by omega)
  · obtain ⟨row, hrow, rfl⟩ := List.mem_map.mp hr2
    exact (U _).mpr (img_ok (hr row hrow) ((U x).mp hx))
  · rw [List.mem_singleton.mp hq]; exact (U _).mpr (whole_ok hm1)
theorem fold_ok {m : Nat} {w : List Nat} {ps : List (Nat × Lot)} {F : List (Lot × List Nat)} (hF : ∀ q ∈ F, okL m q.1) (hp : ∀ p ∈ ps, okL m p.2) : ∀ q ∈ ps.foldl (add w) F, okL m q.1 := fold_all (P := fun q => okL m q.1) hF hp
def wl (F : List (Lot × List Nat)) : Prop := ∀ q ∈ F, q.2.length ≤ F.length
theorem add_wl {w : List Nat} {F : List (Lot × List Nat)} {p : Nat × Lot} (h : wl F) (hw : w.length ≤ F.length) : wl (add w F p) ∧ w.length ≤ (add w F p).length := by
  unfold add
  split
  · exact ⟨h, hw⟩
  · refine ⟨fun q hq => ?_, by simp; omega⟩
    rw [List.length_append]
    rcases List.mem_append.mp hq with e | e
    · have := h q e
      simp; omega
    · rw [List.mem_singleton.mp e]; simp; omega
theorem fold_wl {w : List Nat} : ∀ {ps : List (Nat × Lot)} {F : List (Lot × List Nat)}, wl F → w.length ≤ F.length → wl (ps.foldl (add w) F)
  | [], _, h, _ => h
  | p :: ps, F, h, hw => fold_wl (ps := ps) (add_wl (p := p) h hw).1 (add_wl (p := p) h hw).2
/-- one turn of the walk, whatever its names: items of enumerate, one after another -/
theorem w_turn (n : Nat) (h hb : AH) (S : St) (body : CSs) (kill : List Nat) (tg : Tg) (rows : List (List Nat)) (m : Nat) (x : Lot) (w : List Nat) (hm : m ≤ 7) (hr : okRows m rows) (hx : okL m x) (F : List (Lot × List Nat)) (nd : (F.map (·.1)).Nodup) (hF : ∀ q ∈ F, okL m q.1) (hxw : (x, w) ∈ F) (hwl : wl F)
    (it : CI) (ei : evI G (callF G n) it S (hp h F) = .ok (rows.zipIdx.map fun p => D.tup [.int (p.2 : Int), tl p.1], []) (hp h F))
    (hS : ∀ d : D, some d ∈ S → d.under (h.length + 2) = true)
    (hbody : ∀ (j : Nat) (row : List Nat) (F' : List (Lot × List Nat)), row ∈ rows → (F'.map (·.1)).Nodup → (∀ q ∈ F', okL m q.1) → (x, w) ∈ F' → w.length ≤ 128 →
      ∃ ρ2 ρ3, asgD (hp h F') tg (.tup [.int (j : Int), tl row]) S = some ρ2 ∧ evSs G (callF G n) body ρ2 (hp h F') = .nx ρ3 (hp h (add w F' (j, img row x))) ∧ wipeS ρ3 kill = S) :
    evS G (callF G n) (.fore tg it body kill) S (hp h F) = .nx S (hp h (step (fns rows) F x w)) := by
  obtain ⟨ρ', h', e, rfl, ps, F', e1, _, e3, _, _, _, _, rfl⟩ := evS_fore (tg := tg) (body := body) (kill := kill) (I := fun rem ρ h2 => ρ = S ∧ ∃ (ps : List (List Nat × Nat)) (F' : List (Lot × List Nat)), rem = (ps.map fun p => D.tup [.int (p.2 : Int), tl p.1]) ∧ (∀ p ∈ ps, p.1 ∈ rows) ∧ (ps.map fun p => (p.2, img p.1 x)).foldl (add w) F' = step (fns rows) F x w ∧ (F'.map (·.1)).Nodup ∧ (∀ q ∈ F', okL m q.1) ∧ (x, w) ∈ F' ∧ wl F' ∧ h2 = hp h F') ei rfl (fun _ _ _ _ => rfl) (by
      rintro y rem ρ h2 ⟨rfl, ps, F', e1, e2, e3, e4, e5, e6, e7, rfl⟩
      cases ps with
      | nil => cases e1
      | cons p ps =>
        rw [List.map_cons, List.cons.injEq] at e1
        obtain ⟨rfl, rfl⟩ := e1
        have hp1 := e2 p (List.mem_cons_self ..)
        obtain ⟨ρ2, ρ3, b1, b2, b3⟩ := hbody p.2 p.1 F' hp1 e4 e5 e6 (Nat.le_trans (e7 _ e6) (lots_len hm e4 e5))
        have nd2 := add_nd (w := w) (p := (p.2, img p.1 x)) e4
        have ok2 : ∀ q ∈ add w F' (p.2, img p.1 x), okL m q.1 := fold_ok (ps := [(p.2, img p.1 x)]) e5 (fun q hq => by rw [List.mem_singleton.mp hq]; exact img_ok (hr _ hp1) hx)
        refine ⟨ρ2, _, hp h (add w F' (p.2, img p.1 x)), b1, ?_, rfl, ps, _, rfl, fun q hq => e2 q (List.mem_cons_of_mem _ hq), e3, nd2, ok2, (add_pre w F' _).subset e6, (add_wl e7 (e7 _ e6)).1, rfl⟩
        rw [b2, gc_fl (hp_fl h _ _) (by rw [b3, hp_len]; exact hS), b3]) ⟨rfl, rows.zipIdx, F, rfl, fun p hp => by
        rw [List.mem_zipIdx_iff_getElem?] at hp
        exact List.mem_of_getElem? hp, by rw [← goals_rows]; rfl, nd, hF, hxw, hwl, rfl⟩
  have : ps = [] := by
    cases ps with
    | nil => rfl
    | cons _ _ => cases e1
  subst this
  rw [e, ← e3]; rfl
/-- the state of words_to_lots: levers, whole, -, found, waiting, at, -, -, -, - -/
theorem w_words (n : Nat) (h : AH) (rows : List (List Nat)) (m : Nat) (hm : m ≤ 7) (hm1 : 1 ≤ m) (hr : okRows m rows) (hr1 : rows ≠ []) (Rr : List (Lot × List Nat)) (hR : bfs (fns rows) 200 [(whole m, [])] 0 = some Rr) :
    callF G (n + 2) 4 [rowsD rows] h = .ok (.ref h.length) (h ++ [AO.dct (encD tl Rr) false]) := by
  rw [callF_succ (F := ⟨1, 10, c_words_to_lots⟩) rfl rfl]
  have fin := ret_fln0 (h := h) (h' := h) (t := [AO.dct (encD tl Rr) false, AO.lst ((Rr.map (·.1)).map enc) false]) (Fl.refl h) rfl (hp_dflat Rr)
  rw [← fin]
  refine congrArg (R.ret h) ?_
  show RS.fin (evSs G (callF G (n + 1)) c_words_to_lots [some (rowsD rows), none, none, none, none, none, none, none, none, none] h) = _
  obtain ⟨r0, rs, rfl⟩ := List.exists_cons_of_ne_nil hr1
  have l0 : r0.length = m := (hr r0 (List.mem_cons_self ..)).1
  have sz : m ≤ sizeLine := Nat.le_trans hm (by decide)
  have c1 : compGo (sameH h []) (fun x h => match asgD h (.nm 2) x (wipeS [some (rowsD (r0 :: rs)), none, none, none, none, none, none, none, none, none] [2]) with
        | some ρ1 => (evIfs G (callF G (n + 1)) .nil ρ1 h).bind fun b h => if b then (evE G (callF G (n + 1)) (.var 2) ρ1 h).bind fun y h => .ok [y] h else .ok [] h
        | none => .bad) ((List.range m).map fun i : Nat => D.int (i : Int)) h = .ok (nl (List.range m)) h := by
    refine compGo_map (e := fun i : Nat => D.int (i : Int)) rfl (fun i hi => ?_) (by rw [List.length_range]; exact sz)
    rw [asg_own]
    rfl
  have s1 : evS G (callF G (n + 1)) (.set 1 (.bq .tuple (.l (.comp (.var 2) (.nm 2) (.rng1 (.bq .len (.e (.ix (.var 0) (.cst (.int 0)))))) .nil [2])))) [some (rowsD (r0 :: rs)), none, none, none, none, none, none, none, none, none] h = .nx [some (rowsD (r0 :: rs)), some (enc (whole m)), none, none, none, none, none, none, none, none] h := by
    refine evS_set (evE_bqL (evL_comp (evI_rng1 (n := m) (evE_bqE (evE_ix (x := rowsD (r0 :: rs)) rfl (evE_cst _ _ _) (d := tl r0) (atI_ok (i := 0) (xs := (r0 :: rs).map tl) rfl)) rfl ?_) (by omega)) rfl c1) (bq_tuple _))
    rw [bq_len, nl_len, l0]
  have s2 : evS G (callF G (n + 1)) (.par [3, 4, 5] (.cons (.newd (.disp (.cons (.var 1) (.tup .nil) .nil))) (.cons (.new (.disp (.cons (.var 1) .nil))) (.cons (.cst (.int 0)) .nil)))) [some (rowsD (r0 :: rs)), some (enc (whole m)), none, none, none, none, none, none, none, none] h = .nx [some (rowsD (r0 :: rs)), some (enc (whole m)), none, some (.ref h.length), some (.ref (h.length + 1)), some (.int (0 : Nat)), none, none, none, none] (hp h [(whole m, [])]) := by
    have k1 : keysOk (List.map (·.1) [(enc (whole m), D.tup [])]) = true := by
      have := fits_en (α := Lot) (fun _ : Unit => D.non) [(whole m, ())] (whole m)
      simp only [keysOk, List.map_cons, List.map_nil, List.all_cons, List.all_nil, Bool.and_true]
      exact this
    have d1 : evD G (callF G (n + 1)) (.disp (.cons (.var 1) (.tup .nil) .nil)) [some (rowsD (r0 :: rs)), some (enc (whole m)), none, none, none, none, none, none, none, none] h = .ok (encD tl [(whole m, [])]) h := by
      unfold evD
      have : evPairs G (callF G (n + 1)) (.cons (.var 1) (.tup .nil) .nil) [some (rowsD (r0 :: rs)), some (enc (whole m)), none, none, none, none, none, none, none, none] h = .ok [(enc (whole m), D.tup [])] h := rfl
      rw [this, bind_ok, k1]
      rfl
    have n1 : evE G (callF G (n + 1)) (.newd (.disp (.cons (.var 1) (.tup .nil) .nil))) [some (rowsD (r0 :: rs)), some (enc (whole m)), none, none, none, none, none, none, none, none] h = .ok (.ref h.length) (h ++ [AO.dct (encD tl [(whole m, [])]) false]) := by
      unfold evE
      rw [d1]; rfl
    rw [evS_par (evEs_cons n1 (evEs_cons (evE_new (evL_disp (evEs_1 (evE_var rfl)) (show 1 ≤ sizeLine by decide))) (evEs_1 (evE_cst _ _ _)))) rfl]
    simp only [setS, List.set_cons_succ, List.set_cons_zero, List.length_append, List.length_cons, List.length_nil, List.append_assoc]
    rfl
  obtain ⟨ρ', h', e3, i, rfl, rfl⟩ := evS_whle (G := G) (cl := callF G (n + 1)) (c := .cmp .Lt (.var 5) (.bq .len (.e (.var 4)))) (body := l_words_to_lots_2) (kill := [6, 7, 8, 9]) (ρ := [some (rowsD (r0 :: rs)), some (enc (whole m)), none, some (.ref h.length), some (.ref (h.length + 1)), some (.int (0 : Nat)), none, none, none, none]) (h := hp h [(whole m, [])]) (k := 200)
    (I := fun k ρ h1 => ∃ F i, ρ = [some (rowsD (r0 :: rs)), some (enc (whole m)), none, some (.ref h.length), some (.ref (h.length + 1)), some (.int (i : Nat)), none, none, none, none] ∧ h1 = hp h F ∧ bfs (fns (r0 :: rs)) k F i = some Rr ∧ (F.map (·.1)).Nodup ∧ (∀ q ∈ F, okL m q.1) ∧ wl F)
    (Q := fun ρ h1 => ∃ i : Nat, ρ = [some (rowsD (r0 :: rs)), some (enc (whole m)), none, some (.ref h.length), some (.ref (h.length + 1)), some (.int (i : Nat)), none, none, none, none] ∧ h1 = hp h Rr) (by
      rintro k ρ h1 ⟨F, i, rfl, rfl, hb, nd, ok, hwl⟩
      have D0 : ∀ F, (hp h F)[h.length]? = some (AO.dct (encD tl F) false) := fun F => (get_app0 h _).trans rfl
      have D1 : ∀ F, (hp h F)[h.length + 1]? = some (AO.lst ((F.map (·.1)).map enc) false) := fun F => (get_app h _ 1).trans rfl
      have cnd : evE G (callF G (n + 1)) (.cmp .Lt (.var 5) (.bq .len (.e (.var 4)))) [some (rowsD (r0 :: rs)), some (enc (whole m)), none, some (.ref h.length), some (.ref (h.length + 1)), some (.int (i : Nat)), none, none, none, none] (hp h F) = .ok (.bl (decide ((i : Int) < F.length))) (hp h F) := by
        refine evE_cmp rfl (evE_bqE (evE_var rfl) (seq_lst (D1 F)) (bq_len _)) ?_
        rw [cmp_lt]; simp
      cases k with
      | zero => cases hb
      | succ k =>
        unfold bfs at hb
        cases hi : F[i]? with
        | none =>
          left
          rw [hi] at hb
          cases hb
          have := List.getElem?_eq_none_iff.mp hi
          rw [cnd, decide_eq_false (by omega)]
          exact ⟨rfl, i, rfl, rfl⟩
        | some xw =>
          obtain ⟨x, w⟩ := xw
          rw [hi] at hb
          right
          have hi2 := (List.getElem?_eq_some_iff.mp hi).1
          have hxw := List.mem_of_getElem? hi
          refine ⟨k, _, _, rfl, by rw [cnd, decide_eq_true (by omega)], ?_, step (fns (r0 :: rs)) F x w, i + 1, rfl, rfl, hb, fold_nd nd, fold_ok ok fun p hp => ?_, fold_wl hwl (hwl _ hxw)⟩
          · unfold l_words_to_lots_2
            have t1 : evS G (callF G (n + 1)) (.set 6 (.ix (.var 4) (.var 5))) [some (rowsD (r0 :: rs)), some (enc (whole m)), none, some (.ref h.length), some (.ref (h.length + 1)), some (.int (i : Nat)), none, none, none, none] (hp h F) = .nx [some (rowsD (r0 :: rs)), some (enc (whole m)), none, some (.ref h.length), some (.ref (h.length + 1)), some (.int (i : Nat)), some (enc x), none, none, none] (hp h F) := by
              refine evS_set (evE_ix (evE_var rfl) (evE_var rfl) ?_)
              rw [ix_lst (D1 F)]
              exact atI_ok (by simp [hi])
            have t2 : evS G (callF G (n + 1)) (.aug 5 .Add (.cst (.int 1))) [some (rowsD (r0 :: rs)), some (enc (whole m)), none, some (.ref h.length), some (.ref (h.length + 1)), some (.int (i : Nat)), some (enc x), none, none, none] (hp h F) = .nx [some (rowsD (r0 :: rs)), some (enc (whole m)), none, some (.ref h.length), some (.ref (h.length + 1)), some (.int (i + 1 : Nat)), some (enc x), none, none, none] (hp h F) :=
              evS_aug rfl (evE_cst _ _ _) (augD_add _ _)
            rw [evSs_cons t1, evSs_cons t2]
            have t3 := w_turn (n + 1) h h [some (rowsD (r0 :: rs)), some (enc (whole m)), none, some (.ref h.length), some (.ref (h.length + 1)), some (.int (i + 1 : Nat)), some (enc x), none, none, none] l_words_to_lots_1 [7, 8, 9] (.tp [7, 8]) (r0 :: rs) m x w hm hr (ok _ hxw) F nd ok hxw hwl (.enum (.e (.var 0))) (by
              show R.ok (enumD 0 ((r0 :: rs).map tl), []) _ = _
              rw [enumD_map]) (by
              repeat' first | exact stU_nil _ | refine stU_none ?_ | refine stU_some ?_ ?_
              all_goals first | rfl | exact under_ref (by omega) | exact under_flat _ _ (En.flat _) | exact under_flat _ _ (flats_tl _)) (by
              intro j row F' hrow nd' ok' hxw' hw128
              have ld := w_led_by n (hp h F') m row x.items (hr row hrow).1 (by omega) (ok _ hxw).2.1 (by have := okL_len (show okL m x from ok _ hxw); omega)
              have len := lots_len hm nd' ok'
              refine ⟨_, [some (rowsD (r0 :: rs)), some (enc (whole m)), none, some (.ref h.length), some (.ref (h.length + 1)), some (.int (i + 1 : Nat)), some (enc x), some (.int (j : Int)), some (tl row), some (enc (img row x))], rfl, ?_, ?_⟩
              · unfold l_words_to_lots_1
                refine (evSs_cons (evS_set (evE_call (evEs_cons rfl (evEs_1 rfl)) ld))).trans ?_
                refine (evSs_cons (w_add (n + 1) h _ 3 4 9 _ F' (img row x) w j rfl rfl rfl (by omega) ?_)).trans (evSs_nil _ _)
                have g1 : ixD (hp h F') (.ref h.length) (enc x) = some (tl w) := by
                  rw [ix_dct (D0 F'), fits_en, if_pos rfl, dget_en, aget_nd nd' hxw']; rfl
                have e0 : tl (w ++ [j]) = .tup (nl w ++ [.int (j : Int)]) := by simp [tl, nl]
                rw [e0]
                refine evE_tup (evEs_star (evE_ix (evE_var rfl) (evE_var rfl) g1) rfl (evEs_1 (evE_var rfl))) ?_
                have : (1000 : Nat) < sizeLine := by decide
                rw [List.length_append, nl_len]
                show w.length + 1 ≤ sizeLine
                omega
              · rfl)
            rw [evSs_cons t3, evSs_nil, gc_fl (hp_fl h _ _) ?_]
            · rfl
            · rw [hp_len]; exact (by
              simp only [wipeS, List.set_cons_succ, List.set_cons_zero]
              show StU _ _
              repeat' first | exact stU_nil _ | refine stU_none ?_ | refine stU_some ?_ ?_
              all_goals first | rfl | exact under_ref (by omega) | exact under_flat _ _ (En.flat _) | exact under_flat _ _ (flats_tl _))
          · obtain ⟨r, h1, h2⟩ := goals_of hp
            rw [h2]
            obtain ⟨row, hrow, rfl⟩ := List.mem_map.mp (List.mem_of_getElem? h1)
            exact img_ok (hr row hrow) (ok _ hxw)) ⟨[(whole m, [])], 0, rfl, rfl, hR, by simp, (fun q hq => by rw [List.mem_singleton.mp hq]; exact whole_ok hm1), (fun q hq => by rw [List.mem_singleton.mp hq]; exact Nat.zero_le _)⟩ (by show 200 < 1000000; decide)
  unfold c_words_to_lots
  rw [evSs_cons s1, evSs_cons s2, evSs_cons e3, evSs_ret (evE_var rfl)]
  rfl
end K78
set_option Elab.async false
set_option linter.all false
set_option maxRecDepth 100000
set_option maxHeartbeats 4000000
namespace K78
open PySem PySem.W Rw En PBfs
theorem nl_ints (xs : List Nat) : nl xs = (xs.map fun n : Nat => (n : Int)).map D.int := by simp [nl, List.map_map]
theorem setD_nl {xs : List Nat} (h : xs.length < 1000) : setD (nl xs) = some (xs.map fun n : Nat => (n : Int)) := by
  rw [nl_ints, setD_map (by simpa using h)]
theorem evL_sortedS {cl : Nat → List D → AH → R D} {l : CL} {ρ : St} {h h' : AH} {xs : List Nat} (e : evL G cl l ρ h = .ok (nl xs) h') (hl : xs.length < 64) : evL G cl (.sortedS (.l l)) ρ h = .ok (nl (setN xs)) h' := by
  have h1 := setN_len xs
  unfold evL
  unfold evQ
  rw [e, bind_ok, setD_nl (by omega), opt_some, bind_ok, setI_nat, if_pos (by rw [List.length_map]; omega), nl_ints]
theorem evE_lenS {cl : Nat → List D → AH → R D} {q : CQ} {ρ : St} {h h' : AH} {xs : List Nat} (e : evQ G cl .q q ρ h = .ok (nl xs) h') (hl : xs.length < 64) : evE G cl (.lenS q) ρ h = .ok (.int ((setN xs).length : Nat)) h' := by
  unfold evE
  rw [e, bind_ok, setD_nl (by omega), opt_some, bind_ok, setI_nat, List.length_map]
  rfl
/-- [row[room] for room in lot]: letters a, b, c of the names -/
theorem w_pick {cl : Nat → List D → AH → R D} {ρ : St} {h : AH} {m : Nat} {row lot : List Nat} (a b c : Nat) (hac : c ≠ a) (hcl : c < ρ.length) (ha : atS ρ a = some (tl row)) (hb : atS ρ b = some (tl lot)) (hr : row.length = m) (hv : ∀ v ∈ lot, v < m) (hz : lot.length ≤ 60) : evL G cl (.comp (.ix (.var a) (.var c)) (.nm c) (.q (.e (.var b))) .nil [c]) ρ h = .ok (nl (lot.map fun i => row.getD i 0)) h := by
  have ei : evI G cl (.q (.e (.var b))) ρ h = .ok (nl lot, []) h := by
    rw [evI_q]
    unfold evW
    rw [evE_var hb]; rfl
  refine evL_comp ei rfl ?_
  have := compGo_map (sm := sameH h []) (el := fun x h => match asgD h (.nm c) x (wipeS ρ [c]) with
        | some ρ1 => (evIfs G cl .nil ρ1 h).bind fun b h => if b then (evE G cl (.ix (.var a) (.var c)) ρ1 h).bind fun y h => .ok [y] h else .ok [] h
        | none => .bad) (e := fun i : Nat => D.int (i : Int)) (g := fun i : Nat => D.int ((row.getD i 0 : Nat) : Int)) (h := h) (xs := lot) rfl (fun i hi => by
      rw [asg_own]
      show (evE G _ (.ix (.var a) (.var c)) (ρ.set c (some (.int (i : Int)))) h).bind _ = _
      rw [evE_ix (x := tl row) (y := .int (i : Int)) (evE_var (by rw [at_set (d := .non) hac]; exact ha)) (evE_var (at_self hcl)) (at_row hr (hv i hi))]
      rfl) (Nat.le_trans hz (by decide))
  rw [show nl (lot.map fun i => row.getD i 0) = lot.map fun i : Nat => D.int ((row.getD i 0 : Nat) : Int) by simp [nl, List.map_map]]
  exact this
theorem w_lawwords (n : Nat) (h : AH) (rows : List (List Nat)) (m : Nat) (hm : m ≤ 7) (hm1 : 1 ≤ m) (hr : okRows m rows) (hr1 : rows ≠ []) (Rr : List (Lot × List Nat)) (hR : bfs (fns rows) 200 [(whole m, [])] 0 = some Rr) :
    callF G (n + 2) 19 [rowsD rows] h = .ok (.ref h.length) (h ++ [AO.dct (encD tl Rr) false]) := by
  rw [callF_succ (F := ⟨1, 10, c__law_least_words⟩) rfl rfl]
  have fin := ret_fln0 (h := h) (h' := h) (t := [AO.dct (encD tl Rr) false, AO.lst ((Rr.map (·.1)).map enc) false]) (Fl.refl h) rfl (hp_dflat Rr)
  rw [← fin]
  refine congrArg (R.ret h) ?_
  show RS.fin (evSs G (callF G (n + 1)) c__law_least_words [some (rowsD rows), none, none, none, none, none, none, none, none, none] h) = _
  obtain ⟨r0, rs, rfl⟩ := List.exists_cons_of_ne_nil hr1
  have l0 : r0.length = m := (hr r0 (List.mem_cons_self ..)).1
  have sz : m ≤ sizeLine := Nat.le_trans hm (by decide)
  have s1 : evS G (callF G (n + 1)) (.set 1 (.bq .tuple (.l (.range (.rng1 (.bq .len (.e (.ix (.var 0) (.cst (.int 0)))))))))) [some (rowsD (r0 :: rs)), none, none, none, none, none, none, none, none, none] h = .nx [some (rowsD (r0 :: rs)), some (enc (whole m)), none, none, none, none, none, none, none, none] h := by
    refine evS_set (evE_bqL (evL_range (evI_rng1 (n := m) (evE_bqE (evE_ix (x := rowsD (r0 :: rs)) rfl (evE_cst _ _ _) (d := tl r0) (atI_ok (i := 0) (xs := (r0 :: rs).map tl) rfl)) rfl ?_) (by omega)) (by rw [rg_len]; exact sz)) (bq_tuple _))
    rw [bq_len, nl_len, l0]
  have s2 : evS G (callF G (n + 1)) (.par [2, 3, 4] (.cons (.newd (.disp (.cons (.var 1) (.tup .nil) .nil))) (.cons (.new (.disp (.cons (.var 1) .nil))) (.cons (.cst (.int 0)) .nil)))) [some (rowsD (r0 :: rs)), some (enc (whole m)), none, none, none, none, none, none, none, none] h = .nx [some (rowsD (r0 :: rs)), some (enc (whole m)), some (.ref h.length), some (.ref (h.length + 1)), some (.int (0 : Nat)), none, none, none, none, none] (hp h [(whole m, [])]) := by
    have k1 : keysOk (List.map (·.1) [(enc (whole m), D.tup [])]) = true := by
      have := fits_en (α := Lot) (fun _ : Unit => D.non) [(whole m, ())] (whole m)
      simp only [keysOk, List.map_cons, List.map_nil, List.all_cons, List.all_nil, Bool.and_true]
      exact this
    have d1 : evD G (callF G (n + 1)) (.disp (.cons (.var 1) (.tup .nil) .nil)) [some (rowsD (r0 :: rs)), some (enc (whole m)), none, none, none, none, none, none, none, none] h = .ok (encD tl [(whole m, [])]) h := by
      unfold evD
      have : evPairs G (callF G (n + 1)) (.cons (.var 1) (.tup .nil) .nil) [some (rowsD (r0 :: rs)), some (enc (whole m)), none, none, none, none, none, none, none, none] h = .ok [(enc (whole m), D.tup [])] h := rfl
      rw [this, bind_ok, k1]
      rfl
    have n1 : evE G (callF G (n + 1)) (.newd (.disp (.cons (.var 1) (.tup .nil) .nil))) [some (rowsD (r0 :: rs)), some (enc (whole m)), none, none, none, none, none, none, none, none] h = .ok (.ref h.length) (h ++ [AO.dct (encD tl [(whole m, [])]) false]) := by
      unfold evE
      rw [d1]; rfl
    rw [evS_par (evEs_cons n1 (evEs_cons (evE_new (evL_disp (evEs_1 (evE_var rfl)) (show 1 ≤ sizeLine by decide))) (evEs_1 (evE_cst _ _ _)))) rfl]
    simp only [setS, List.set_cons_succ, List.set_cons_zero, List.length_append, List.length_cons, List.length_nil, List.append_assoc]
    rfl
  obtain ⟨ρ', h', e3, i, rfl, rfl⟩ := evS_whle (G := G) (cl := callF G (n + 1)) (c := .cmp .Lt (.var 4) (.bq .len (.e (.var 3)))) (body := l__law_least_words_2) (kill := [5, 6, 7, 8]) (ρ := [some (rowsD (r0 :: rs)), some (enc (whole m)), some (.ref h.length), some (.ref (h.length + 1)), some (.int (0 : Nat)), none, none, none, none, none]) (h := hp h [(whole m, [])]) (k := 200)
    (I := fun k ρ h1 => ∃ F i, ρ = [some (rowsD (r0 :: rs)), some (enc (whole m)), some (.ref h.length), some (.ref (h.length + 1)), some (.int (i : Nat)), none, none, none, none, none] ∧ h1 = hp h F ∧ bfs (fns (r0 :: rs)) k F i = some Rr ∧ (F.map (·.1)).Nodup ∧ (∀ q ∈ F, okL m q.1) ∧ wl F)
    (Q := fun ρ h1 => ∃ i : Nat, ρ = [some (rowsD (r0 :: rs)), some (enc (whole m)), some (.ref h.length), some (.ref (h.length + 1)), some (.int (i : Nat)), none, none, none, none, none] ∧ h1 = hp h Rr) (by
      rintro k ρ h1 ⟨F, i, rfl, rfl, hb, nd, ok, hwl⟩
      have D0 : ∀ F, (hp h F)[h.length]? = some (AO.dct (encD tl F) false) := fun F => (get_app0 h _).trans rfl
      have D1 : ∀ F, (hp h F)[h.length + 1]? = some (AO.lst ((F.map (·.1)).map enc) false) := fun F => (get_app h _ 1).trans rfl
      have cnd : evE G (callF G (n + 1)) (.cmp .Lt (.var 4) (.bq .len (.e (.var 3)))) [some (rowsD (r0 :: rs)), some (enc (whole m)), some (.ref h.length), some (.ref (h.length + 1)), some (.int (i : Nat)), none, none, none, none, none] (hp h F) = .ok (.bl (decide ((i : Int) < F.length))) (hp h F) := by
        refine evE_cmp rfl (evE_bqE (evE_var rfl) (seq_lst (D1 F)) (bq_len _)) ?_
        rw [cmp_lt]; simp
      cases k with
      | zero => cases hb
      | succ k =>
        unfold bfs at hb
        cases hi : F[i]? with
        | none =>
          left
          rw [hi] at hb
          cases hb
          have := List.getElem?_eq_none_iff.mp hi
          rw [cnd, decide_eq_false (by omega)]
          exact ⟨rfl, i, rfl, rfl⟩
        | some xw =>
          obtain ⟨x, w⟩ := xw
          rw [hi] at hb
          right
          have hi2 := (List.getElem?_eq_some_iff.mp hi).1
          have hxw := List.mem_of_getElem? hi
          refine ⟨k, _, _, rfl, by rw [cnd, decide_eq_true (by omega)], ?_, step (fns (r0 :: rs)) F x w, i + 1, rfl, rfl, hb, fold_nd nd, fold_ok ok fun p hp => ?_, fold_wl hwl (hwl _ hxw)⟩
          · unfold l__law_least_words_2
            have t1 : evS G (callF G (n + 1)) (.par [5, 4] (.cons (.ix (.var 3) (.var 4)) (.cons (.bin .Add (.var 4) (.cst (.int 1))) .nil))) [some (rowsD (r0 :: rs)), some (enc (whole m)), some (.ref h.length), some (.ref (h.length + 1)), some (.int (i : Nat)), none, none, none, none, none] (hp h F) = .nx [some (rowsD (r0 :: rs)), some (enc (whole m)), some (.ref h.length), some (.ref (h.length + 1)), some (.int (i + 1 : Nat)), some (enc x), none, none, none, none] (hp h F) := by
              have g0 : ixD (hp h F) (.ref (h.length + 1)) (.int (i : Nat)) = some (enc x) := by
                rw [ix_lst (D1 F)]
                exact atI_ok (by simp [hi])
              have g2 := evEs_cons (G := G) (cl := callF G (n + 1)) (a := .ix (.var 3) (.var 4)) (r := .cons (.bin .Add (.var 4) (.cst (.int 1))) .nil) (ρ := [some (rowsD (r0 :: rs)), some (enc (whole m)), some (.ref h.length), some (.ref (h.length + 1)), some (.int (i : Nat)), none, none, none, none, none]) (h := hp h F) (evE_ix (evE_var rfl) (evE_var rfl) g0) (evEs_1 (evE_bin (evE_var rfl) (evE_cst _ _ _) (binD_add _ _)))
              exact evS_par (is := [5, 4]) g2 rfl
            rw [evSs_cons t1]
            have t3 := w_turn (n + 1) h h [some (rowsD (r0 :: rs)), some (enc (whole m)), some (.ref h.length), some (.ref (h.length + 1)), some (.int (i + 1 : Nat)), some (enc x), none, none, none, none] l__law_least_words_1 [6, 7, 8] (.tp [6, 7]) (r0 :: rs) m x w hm hr (ok _ hxw) F nd ok hxw hwl (.enum (.e (.var 0))) (by
              show R.ok (enumD 0 ((r0 :: rs).map tl), []) _ = _
              rw [enumD_map]) (by
              repeat' first | exact stU_nil _ | refine stU_none ?_ | refine stU_some ?_ ?_
              all_goals first | rfl | exact under_ref (by omega) | exact under_flat _ _ (En.flat _) | exact under_flat _ _ (flats_tl _)) (by
              intro j row F' hrow nd' ok' hxw' hw128
              have xl := okL_len (show okL m x from ok _ hxw)
              have ld : evE G (callF G (n + 1)) (.bq .tuple (.l (.sortedS (.l (.comp (.ix (.var 7) (.var 9)) (.nm 9) (.q (.e (.var 5))) .nil [9]))))) [some (rowsD (r0 :: rs)), some (enc (whole m)), some (.ref h.length), some (.ref (h.length + 1)), some (.int (i + 1 : Nat)), some (enc x), some (.int (j : Int)), some (tl row), none, none] (hp h F') = .ok (enc (img row x)) (hp h F') :=
                evE_bqL (evL_sortedS (w_pick (lot := x.items) 7 5 9 (by decide) (by simp) rfl rfl (hr row hrow).1 (ok _ hxw).2.1 (by omega)) (by rw [List.length_map]; omega)) (bq_tuple _)
              have len := lots_len hm nd' ok'
              refine ⟨_, [some (rowsD (r0 :: rs)), some (enc (whole m)), some (.ref h.length), some (.ref (h.length + 1)), some (.int (i + 1 : Nat)), some (enc x), some (.int (j : Int)), some (tl row), some (enc (img row x)), none], rfl, ?_, ?_⟩
              · unfold l__law_least_words_1
                refine (evSs_cons (evS_set ld)).trans ?_
                refine (evSs_cons (w_add (n + 1) h _ 2 3 8 _ F' (img row x) w j rfl rfl rfl (by omega) ?_)).trans (evSs_nil _ _)
                have g1 : ixD (hp h F') (.ref h.length) (enc x) = some (tl w) := by
                  rw [ix_dct (D0 F'), fits_en, if_pos rfl, dget_en, aget_nd nd' hxw']; rfl
                have e0 : tl (w ++ [j]) = .tup (nl w ++ [.int (j : Int)]) := by simp [tl, nl]
                rw [e0]
                refine evE_bin (evE_ix (evE_var rfl) (evE_var rfl) g1) (evE_tup (evEs_1 (evE_var rfl)) (show 1 ≤ sizeLine by decide)) ?_
                have : (1000 : Nat) < sizeLine := by decide
                unfold tl
                rw [binD_addT, if_pos]
                rw [nl_len]
                show w.length + 1 ≤ sizeLine
                omega
              · rfl)
            rw [evSs_cons t3, evSs_nil, gc_fl (hp_fl h _ _) ?_]
            · rfl
            · rw [hp_len]; exact (by
              simp only [wipeS, List.set_cons_succ, List.set_cons_zero]
              show StU _ _
              repeat' first | exact stU_nil _ | refine stU_none ?_ | refine stU_some ?_ ?_
              all_goals first | rfl | exact under_ref (by omega) | exact under_flat _ _ (En.flat _) | exact under_flat _ _ (flats_tl _))
          · obtain ⟨r, h1, h2⟩ := goals_of hp
            rw [h2]
            obtain ⟨row, hrow, rfl⟩ := List.mem_map.mp (List.mem_of_getElem? h1)
            exact img_ok (hr row hrow) (ok _ hxw)) ⟨[(whole m, [])], 0, rfl, rfl, hR, by simp, (fun q hq => by rw [List.mem_singleton.mp hq]; exact whole_ok hm1), (fun q hq => by rw [List.mem_singleton.mp hq]; exact Nat.zero_le _)⟩ (by show 200 < 1000000; decide)
  unfold c__law_least_words
  rw [evSs_cons s1, evSs_cons s2, evSs_cons e3, evSs_ret (evE_var rfl)]
  rfl
end K78
set_option Elab.async false
set_option linter.all false
set_option maxRecDepth 100000
set_option maxHeartbeats 4000000
namespace K78
open PySem PySem.W Rw En PBfs
theorem all_true {xs : List D} (h : ∀ x ∈ xs, x = D.bl true) : bqD .all xs = some (.bl true) := by
  have : allD xs = some (xs.map fun _ => true) := by
    induction xs with
    | nil => rfl
    | cons x xs ih =>
      rw [h x (List.mem_cons_self ..), allD, ih fun y hy => h y (List.mem_cons_of_mem _ hy)]
      rfl
  show (allD xs).map _ = _
  rw [this]
  simp
theorem evE_chn {cl : Nat → List D → AH → R D} {op op' : CmpOp} {a b c : CE} {ρ : St} {h h1 h2 h3 : AH} {x y z : D} {q : Bool} (ea : evE G cl a ρ h = .ok x h1) (eb : evE G cl b ρ h1 = .ok y h2) (e : cmpD h2 op x y = some true) (ec : evE G cl c ρ h2 = .ok z h3) (e2 : cmpD h3 op' y z = some q) : evE G cl (.chn op op' a b c) ρ h = .ok (.bl q) h3 := by
  unfold evE
  rw [ea, bind_ok, eb, bind_ok, e, opt_some, bind_ok, if_pos rfl, ec, bind_ok, e2]; rfl
theorem w_isletter (n : Nat) (h : AH) (m : Nat) (row : List Nat) (hr : row.length = m ∧ ∀ v ∈ row, v < m) (hm : m ≤ 60) : callF G (n + 2) 6 [tl row, .int m] h = .ok (.bl true) h := by
  rw [callF_succ (F := ⟨2, 3, c_is_letter⟩) rfl rfl]
  have fin := ret_same (h := h) (d := D.bl true) rfl
  rw [← fin]
  refine congrArg (R.ret h) ?_
  show RS.fin (evSs G (callF G (n + 1)) c_is_letter [some (tl row), some (.int m), none] h) = _
  unfold c_is_letter
  have c1 : evL G (callF G (n + 1)) (.comp (.call 0 (.cons (.var 2) (.cons (.cst (.int 0)) (.cons (.bin .Sub (.var 1) (.cst (.int 1))) .nil)))) (.nm 2) (.q (.e (.var 0))) .nil [2]) [some (tl row), some (.int m), none] h = .ok (row.map fun _ => D.bl true) h := by
    refine evL_comp (xs := nl row) (ws := []) rfl rfl ?_
    refine compGo_map (e := fun i : Nat => D.int (i : Int)) (g := fun _ => D.bl true) rfl (fun i hi => ?_) (Nat.le_trans (Nat.le_trans (Nat.le_of_eq hr.1) hm) (by decide))
    rw [asg_own]
    show (evE G _ _ _ _).bind _ = _
    rw [evE_call (evEs_cons (evE_var rfl) (evEs_cons (evE_cst _ _ _) (evEs_1 (evE_bin (evE_var rfl) (evE_cst _ _ _) (binD_sub _ _))))) (w_num n h i 0 (m - 1))]
    have := hr.2 i hi
    rw [decide_eq_true ⟨by omega, by omega⟩]
    rfl
  rw [evSs_ret (evE_and2 (p := true) (q := true) (evE_isi (evE_var rfl) rfl) (fun _ => evE_and2 (p := true) (q := true) (evE_cmp (x := .int m) (y := .int m) (evE_bqE (evE_var rfl) rfl (by rw [bq_len, nl_len, hr.1])) (evE_var rfl) (by rw [cmp_eq, cmpEq_int, decide_eq_true rfl])) (fun _ => evE_bqL c1 (all_true fun x hx => by obtain ⟨_, _, rfl⟩ := List.mem_map.mp hx; rfl)) (fun h => by cases h)) (fun h => by cases h))]
  rfl
structure Lev (m : Nat) (rows : List (List Nat)) : Prop where
  m1 : 1 ≤ m
  m7 : m ≤ 7
  r1 : 1 ≤ rows.length
  r4 : rows.length ≤ 4
  ok : okRows m rows
theorem Lev.cons {m : Nat} {rows : List (List Nat)} (l : Lev m rows) : ∃ r0 rs, rows = r0 :: rs ∧ r0.length = m := by
  obtain ⟨r0, rs, e⟩ := List.exists_cons_of_ne_nil (l := rows) (fun e => by have := l.r1; rw [e] at this; simp at this)
  exact ⟨r0, rs, e, (l.ok r0 (by rw [e]; exact List.mem_cons_self ..)).1⟩
theorem w_arelevers (n : Nat) (h : AH) (m : Nat) (rows : List (List Nat)) (L : Lev m rows) : callF G (n + 3) 7 [rowsD rows] h = .ok (.bl true) h := by
  obtain ⟨r0, rs, rfl, l0⟩ := L.cons
  have h1 := L.r1
  have h4 := L.r4
  rw [callF_succ (F := ⟨1, 2, c_are_levers⟩) rfl rfl]
  have fin := ret_same (h := h) (d := D.bl true) rfl
  rw [← fin]
  refine congrArg (R.ret h) ?_
  show RS.fin (evSs G (callF G (n + 2)) c_are_levers [some (rowsD (r0 :: rs)), none] h) = _
  unfold c_are_levers
  have i0 : ixD h (rowsD (r0 :: rs)) (.int 0) = some (tl r0) := atI_ok (i := 0) (xs := (r0 :: rs).map tl) rfl
  have len0 : evE G (callF G (n + 2)) (.bq .len (.e (.ix (.var 0) (.cst (.int 0))))) [some (rowsD (r0 :: rs)), none] h = .ok (.int m) h := evE_bqE (evE_ix (evE_var rfl) (evE_cst _ _ _) i0) rfl (by rw [bq_len, nl_len, l0])
  have a1 : evE G (callF G (n + 2)) (.or (.not (.isi (.var 0) .tuple)) (.or (.not (.chn .LtE .LtE (.cst (.int 1)) (.bq .len (.e (.var 0))) (.glb 0))) (.not (.isi (.ix (.var 0) (.cst (.int 0))) .tuple)))) [some (rowsD (r0 :: rs)), none] h = .ok (.bl false) h := by
    refine evE_or2 (p := false) (q := false) (evE_not (p := true) (evE_isi (evE_var rfl) rfl)) (fun _ => evE_or2 (p := false) (q := false) (evE_not (p := true) (evE_chn (x := .int 1) (y := .int ((r0 :: rs).length : Nat)) (z := .int 4) (evE_cst _ _ _) (evE_bqE (evE_var rfl) rfl (by rw [bq_len, List.length_map])) (by rw [cmp_le, decide_eq_true (by omega)]) (evE_glb rfl) (by rw [cmp_le, decide_eq_true (by omega)]))) (fun _ => evE_not (p := true) (evE_isi (evE_ix (evE_var rfl) (evE_cst _ _ _) i0) rfl)) (fun h => by cases h)) (fun h => by cases h)
  have a2 : evE G (callF G (n + 2)) (.not (.chn .LtE .LtE (.cst (.int 1)) (.bq .len (.e (.ix (.var 0) (.cst (.int 0))))) (.glb 1))) [some (rowsD (r0 :: rs)), none] h = .ok (.bl false) h := by
    have := L.m1
    have := L.m7
    exact evE_not (p := true) (evE_chn (x := .int 1) (z := .int 7) (evE_cst _ _ _) len0 (by rw [cmp_le, decide_eq_true (by omega)]) (evE_glb rfl) (by rw [cmp_le, decide_eq_true (by omega)]))
  have c1 : evL G (callF G (n + 2)) (.comp (.call 6 (.cons (.var 1) (.cons (.bq .len (.e (.ix (.var 0) (.cst (.int 0))))) .nil))) (.nm 1) (.q (.e (.var 0))) .nil [1]) [some (rowsD (r0 :: rs)), none] h = .ok ((r0 :: rs).map fun _ => D.bl true) h := by
    refine evL_comp (xs := (r0 :: rs).map tl) (ws := []) rfl rfl ?_
    refine compGo_map (e := tl) (g := fun _ => D.bl true) rfl (fun row hrow => ?_) (Nat.le_trans h4 (by decide))
    rw [asg_own]
    show (evE G _ _ [some (rowsD (r0 :: rs)), some (tl row)] h).bind _ = _
    have len1 : evE G (callF G (n + 2)) (.bq .len (.e (.ix (.var 0) (.cst (.int 0))))) [some (rowsD (r0 :: rs)), some (tl row)] h = .ok (.int m) h := evE_bqE (evE_ix (evE_var rfl) (evE_cst _ _ _) i0) rfl (by rw [bq_len, nl_len, l0])
    rw [evE_call (evEs_cons (evE_var rfl) (evEs_1 len1)) (w_isletter n h m row (L.ok row hrow) (by have := L.m7; omega))]
    rfl
  rw [evSs_cons (evS_no a1), evSs_cons (evS_no a2), evSs_ret (evE_bqL c1 (all_true fun x hx => by obtain ⟨_, _, rfl⟩ := List.mem_map.mp hx; rfl))]
  rfl
theorem w_ask (n : Nat) (h : AH) (m : Nat) (rows : List (List Nat)) (L : Lev m rows) : callF G (n + 4) 9 [rowsD rows] h = .ok .non h := by
  rw [callF_succ (F := ⟨1, 1, c_ask_levers⟩) rfl rfl]
  have fin := ret_same (h := h) (d := D.non) rfl
  rw [← fin]
  refine congrArg (R.ret h) ?_
  show RS.fin (evSs G (callF G (n + 3)) c_ask_levers [some (rowsD rows)] h) = _
  unfold c_ask_levers
  rw [evSs_cons (evS_no (evE_not (p := true) (evE_call (evEs_1 (evE_var rfl)) (w_arelevers n h m rows L)))), evSs_nil]
  rfl
/-- what the walk comes to -/
def Run (m : Nat) (rows : List (List Nat)) (Rr : List (Lot × List Nat)) : Prop := bfs (fns rows) 200 [(whole m, [])] 0 = some Rr
theorem Run.facts {m : Nat} {rows : List (List Nat)} {Rr : List (Lot × List Nat)} (L : Lev m rows) (H : Run m rows Rr) : (whole m, []) ∈ Rr ∧ (Rr.map (·.1)).Nodup ∧ (∀ q ∈ Rr, okL m q.1) ∧ (∀ q ∈ Rr, ∀ row ∈ rows, img row q.1 ∈ Rr.map (·.1)) ∧ Rr.length ≤ 128 := by
  obtain ⟨a, b, c, d⟩ := bfs_ok (P := fun q => okL m q.1) (fun x w hx j r hj => by
    obtain ⟨row, hrow, rfl⟩ := List.mem_map.mp (List.mem_of_getElem? hj)
    exact img_ok (L.ok row hrow) hx) H (by simp) (fun q hq => by rw [List.mem_singleton.mp hq]; exact whole_ok L.m1) (fun q hq => by simp at hq)
  exact ⟨a.subset (List.mem_singleton.mpr rfl), b, c, fun q hq row hrow => d q hq _ (List.mem_map.mpr ⟨row, hrow, rfl⟩), lots_len L.m7 b c⟩
def keysT (Rr : List (Lot × List Nat)) : D := .tup ((sortO (Rr.map (·.1))).map enc)
theorem sort_keys {m : Nat} {ks : List Lot} (hk : ∀ k ∈ ks, okL m k) (hl : ks.length ≤ 128) : sortD (ks.map enc) = some ((sortO ks).map enc) :=
  sortD_en ks (by decide) (Nat.le_trans hl (by decide)) (Or.inl fun x hx => by
    obtain ⟨a, r, e⟩ := List.exists_cons_of_ne_nil (hk x hx).2.2
    exact ⟨enc a, r.map enc, by show D.tup (x.items.map enc) = _; rw [e]; rfl⟩)
theorem keys_map (Rr : List (Lot × List Nat)) : (encD tl Rr).map (·.1) = (Rr.map (·.1)).map enc := by simp [encD]
theorem evL_sortedE {cl : Nat → List D → AH → R D} {a : CE} {ρ : St} {h h' : AH} {x : D} {xs ys : List D} (e : evE G cl a ρ h = .ok x h') (es : seqD .k h' x = some xs) (e2 : sortD xs = some ys) : evL G cl (.sorted (.e a)) ρ h = .ok ys h' := by
  unfold evL
  unfold evQ
  rw [e, bind_ok, es, opt_some, bind_ok, e2]; rfl
theorem evL_sortedL {cl : Nat → List D → AH → R D} {a : CL} {ρ : St} {h h' : AH} {xs ys : List D} (e : evL G cl a ρ h = .ok xs h') (e2 : sortD xs = some ys) : evL G cl (.sorted (.l a)) ρ h = .ok ys h' := by
  unfold evL
  unfold evQ
  rw [e, bind_ok, e2]; rfl
theorem w_lots (n : Nat) (h : AH) (m : Nat) (rows : List (List Nat)) (L : Lev m rows) (Rr : List (Lot × List Nat)) (H : Run m rows Rr) : callF G (n + 5) 12 [rowsD rows] h = .ok (keysT Rr) h := by
  obtain ⟨_, _, ok, _, len⟩ := H.facts L
  rw [callF_succ (F := ⟨1, 1, c_lots_come_to⟩) rfl rfl]
  have fin := ret_app (h := h) (t := [AO.dct (encD tl Rr) false]) (d := keysT Rr) (flats_map _)
  rw [← fin]
  refine congrArg (R.ret h) ?_
  show RS.fin (evSs G (callF G (n + 4)) c_lots_come_to [some (rowsD rows)] h) = _
  unfold c_lots_come_to
  have hr1 : rows ≠ [] := fun e => by have := L.r1; rw [e] at this; simp at this
  rw [evSs_cons (evS_expr (evE_call (evEs_1 (evE_var rfl)) (w_ask n h m rows L))), evSs_ret (evE_bqL (evL_sortedE (evE_call (evEs_1 (evE_var rfl)) (w_words (n + 2) h rows m L.m7 L.m1 L.ok hr1 Rr H)) (seq_dct (get_app0 h _)) (by rw [keys_map]; exact sort_keys (m := m) (fun k hk => by obtain ⟨q, hq, rfl⟩ := List.mem_map.mp hk; exact ok q hq) (by rw [List.length_map]; exact len))) (bq_tuple _))]
  rfl
/-- over the keys of a dict; nothing of the heap changes -/
theorem evL_compD {cl : Nat → List D → AH → R D} {elt : CE} {tg : Tg} {it : CI} {ifs : CEs} {own : List Nat} {ρ : St} {h h0 : AH} {xs : List D} {k : Nat} {kvs : List (D × D)} {ys : List D} (e : evI G cl it ρ h = .ok (xs, [k]) h0) (hn : h0[k]? = some (.dct kvs false))
    (hc : compGo (sameH (h0.set k (.dct kvs true)) [k]) (fun x h => match asgD h tg x (wipeS ρ own) with
        | some ρ1 => (evIfs G cl ifs ρ1 h).bind fun b h => if b then (evE G cl elt ρ1 h).bind fun y h => .ok [y] h else .ok [] h
        | none => .bad) xs (h0.set k (.dct kvs true)) = .ok ys (h0.set k (.dct kvs true))) : evL G cl (.comp elt tg it ifs own) ρ h = .ok ys h0 := by
  unfold evL
  rw [e]
  show R.unlock h0 [k] (R.calm (compGo (sameH (lockH [k] h0) [k]) _ xs (lockH [k] h0))) = _
  refine Eq.trans (congrArg (a₂ := .ok ys (h0.set k (.dct kvs true))) (fun z => R.unlock h0 [k] (R.calm z)) ?_) ?_
  · rw [lockH_dct hn]; exact hc
  · simp only [R.calm, R.unlock, unlockH_dct hn]
end K78
set_option Elab.async false
set_option linter.all false
set_option maxRecDepth 100000
set_option maxHeartbeats 4000000
namespace K78
open PySem PySem.W Rw En PBfs
/-! ## the least of lengths -/
def minN : List Nat → Nat
  | [] => 0
  | x :: xs => minOf x xs
theorem minOf_nat : ∀ (xs : List Nat) (x : Nat), minOf x xs ∈ x :: xs ∧ ∀ y ∈ x :: xs, minOf x xs ≤ y
  | [], x => ⟨by simp [minOf], fun y hy => by simp at hy; simp [minOf, hy]⟩
  | z :: zs, x => by
    have e : minOf x (z :: zs) = minOf (if z < x then z else x) zs := by
      show zs.foldl _ (if decide (z < x) = true then z else x) = zs.foldl _ _
      simp
    rw [e]
    obtain ⟨a, b⟩ := minOf_nat zs (if z < x then z else x)
    constructor
    · rcases List.mem_cons.mp a with h | h
      · rw [h]; split <;> simp
      · exact List.mem_cons_of_mem _ (List.mem_cons_of_mem _ h)
    · intro y hy
      have b0 := b _ (List.mem_cons_self ..)
      have b1 : (if z < x then z else x) ≤ x ∧ (if z < x then z else x) ≤ z := by split <;> omega
      rcases List.mem_cons.mp hy with h | h
      · rw [h]; omega
      · rcases List.mem_cons.mp h with h | h
        · rw [h]; omega
        · exact b y (List.mem_cons_of_mem _ h)
theorem minN_mem {xs : List Nat} (h : xs ≠ []) : minN xs ∈ xs := by
  cases xs with
  | nil => exact absurd rfl h
  | cons x xs => exact (minOf_nat xs x).1
theorem minN_le {xs : List Nat} {y : Nat} (h : y ∈ xs) : minN xs ≤ y := by
  cases xs with
  | nil => cases h
  | cons x xs => exact (minOf_nat xs x).2 y h
theorem bq_min {xs : List Nat} (h : xs ≠ []) : bqD .min (nl xs) = some (.int (minN xs : Nat)) := by
  cases xs with
  | nil => exact absurd rfl h
  | cons x xs =>
    show (if cmpable ((x :: xs).map (enc : Nat → D)) = true then some (leastD _ _) else none) = _
    rw [cmpable_en _ (by decide), if_pos rfl]
    exact congrArg some (leastD_en xs x)
def lens (Rr : List (Lot × List Nat)) : List Nat := Rr.map fun q => q.1.items.length
def few (Rr : List (Lot × List Nat)) : Nat := minN (lens Rr)
/-- [len(lot) for lot in words], words a dict somewhere -/
theorem w_lens {cl : Nat → List D → AH → R D} {a : CE} {v : Nat} {ρ : St} {h h0 : AH} {k : Nat} {Rr : List (Lot × List Nat)} (hv : v < ρ.length) (e : evE G cl a ρ h = .ok (.ref k) h0) (hn : h0[k]? = some (.dct (encD tl Rr) false)) (hl : Rr.length ≤ 128) :
    evL G cl (.comp (.bq .len (.e (.var v))) (.nm v) (.q (.e a)) .nil [v]) ρ h = .ok (nl (lens Rr)) h0 := by
  have ei : evI G cl (.q (.e a)) ρ h = .ok ((Rr.map (·.1)).map enc, [k]) h0 := by
    rw [evI_q]
    unfold evW
    rw [e, bind_ok, seq_dct hn, keys_map]; rfl
  refine evL_compD ei hn ?_
  rw [show nl (lens Rr) = (Rr.map (·.1)).map fun l : Lot => D.int (l.items.length : Nat) by simp [nl, lens, List.map_map]]
  refine compGo_map (e := (enc : Lot → D)) (sameH_self _ _) (fun l _ => ?_) (by rw [List.length_map]; exact Nat.le_trans hl (by decide))
  rw [asg_own]
  show (evE G _ (.bq .len (.e (.var v))) (ρ.set v (some (enc l))) _).bind _ = _
  rw [evE_bqE (x := enc l) (xs := l.items.map enc) (evE_var (at_self hv)) rfl (bq_len _)]
  rw [List.length_map]
  rfl
theorem lens_ne {m : Nat} {rows : List (List Nat)} {Rr : List (Lot × List Nat)} (L : Lev m rows) (H : Run m rows Rr) : lens Rr ≠ [] := fun e => by
  have := (H.facts L).1
  have h2 : Rr = [] := by simpa [lens] using e
  rw [h2] at this
  cases this
theorem w_rank (n : Nat) (h : AH) (m : Nat) (rows : List (List Nat)) (L : Lev m rows) (Rr : List (Lot × List Nat)) (H : Run m rows Rr) : callF G (n + 5) 13 [rowsD rows] h = .ok (.int (few Rr : Nat)) h := by
  obtain ⟨_, _, ok, _, len⟩ := H.facts L
  rw [callF_succ (F := ⟨1, 2, c_rank⟩) rfl rfl]
  have fin := ret_app (h := h) (t := [AO.dct (encD tl Rr) false]) (d := .int (few Rr : Nat)) rfl
  rw [← fin]
  refine congrArg (R.ret h) ?_
  show RS.fin (evSs G (callF G (n + 4)) c_rank [some (rowsD rows), none] h) = _
  unfold c_rank
  have hr1 : rows ≠ [] := fun e => by have := L.r1; rw [e] at this; simp at this
  rw [evSs_cons (evS_expr (evE_call (evEs_1 (evE_var rfl)) (w_ask n h m rows L))), evSs_ret (evE_bqL (w_lens (ρ := [some (rowsD rows), none]) (v := 1) (by simp) (evE_call (evEs_1 (evE_var rfl)) (w_words (n + 2) h rows m L.m7 L.m1 L.ok hr1 Rr H)) (get_app0 h _) len) (bq_min (lens_ne L H)))]
  rfl
/-! ## the least word that leads all together -/
abbrev Wd1 := Nat × Tup Nat
def some1 (Rr : List (Lot × List Nat)) : List Wd1 := (Rr.filter fun q => decide (q.1.items.length = 1)).map fun q => (q.2.length, ⟨q.2⟩)
def least (Rr : List (Lot × List Nat)) : Option (List Nat) := match some1 Rr with
  | [] => none
  | x :: xs => some (minOf x xs).2.items
def leastDv (Rr : List (Lot × List Nat)) : D := match least Rr with
  | none => .non
  | some w => tl w
theorem flat_least (Rr : List (Lot × List Nat)) : (leastDv Rr).flat = true := by
  unfold leastDv
  split
  · rfl
  · exact flats_nl _
theorem asg_own2 (h : AH) (i j : Nat) (hij : i ≠ j) (a b : D) (ρ : St) : asgD h (.tp [i, j]) (.tup [a, b]) (wipeS ρ [i, j]) = some ((ρ.set i (some a)).set j (some b)) := by
  show some (((((ρ.set j none).set i none).set i (some a)).set j (some b))) = _
  rw [List.set_set, List.set_comm _ _ hij, List.set_set, List.set_comm _ _ (Ne.symm hij)]
theorem w_together (n : Nat) (h : AH) (m : Nat) (rows : List (List Nat)) (L : Lev m rows) (Rr : List (Lot × List Nat)) (H : Run m rows Rr) : callF G (n + 3) 5 [rowsD rows] h = .ok (leastDv Rr) h := by
  obtain ⟨_, _, ok, _, len⟩ := H.facts L
  have hr1 : rows ≠ [] := fun e => by have := L.r1; rw [e] at this; simp at this
  rw [callF_succ (F := ⟨1, 5, c_least_together⟩) rfl rfl]
  have fin := ret_app (h := h) (t := [AO.dct (encD tl Rr) false, AO.lst ((some1 Rr).map enc) false]) (d := leastDv Rr) (flat_least Rr)
  rw [← fin]
  refine congrArg (R.ret h) ?_
  show RS.fin (evSs G (callF G (n + 2)) c_least_together [some (rowsD rows), none, none, none, none] h) = _
  unfold c_least_together
  have D0 : (h ++ [AO.dct (encD tl Rr) false])[h.length]? = some (AO.dct (encD tl Rr) false) := get_app0 h _
  have s1 : evL G (callF G (n + 2)) (.comp (.tup (.cons (.bq .len (.e (.var 4))) (.cons (.var 4) .nil))) (.tp [3, 4]) (.items (.var 1)) (.cons (.cmp .Eq (.bq .len (.e (.var 3))) (.cst (.int 1))) .nil) [3, 4]) [some (rowsD rows), some (.ref h.length), none, none, none] (h ++ [AO.dct (encD tl Rr) false]) = .ok ((some1 Rr).map enc) (h ++ [AO.dct (encD tl Rr) false]) := by
    refine evL_compD (evI_items (evE_var rfl) D0) D0 ?_
    have e1 : (encD tl Rr).map (fun kv => D.tup [kv.1, kv.2]) = Rr.map fun q => D.tup [enc q.1, tl q.2] := by simp [encD]
    have e2 : (some1 Rr).map (enc : Wd1 → D) = (Rr.filter fun q => decide (q.1.items.length = 1)).map fun q => D.tup [.int (q.2.length : Nat), tl q.2] := by
      unfold some1
      rw [List.map_map]; rfl
    rw [e1, e2]
    refine compGo_filter (sameH_self _ _) (fun q _ => ?_) (Nat.le_trans len (by decide))
    rw [asg_own2 _ 3 4 (by decide)]
    have c1 : evIfs G (callF G (n + 2)) (.cons (.cmp .Eq (.bq .len (.e (.var 3))) (.cst (.int 1))) .nil) [some (rowsD rows), some (.ref h.length), none, some (enc q.1), some (tl q.2)] ((h ++ [AO.dct (encD tl Rr) false]).set h.length (AO.dct (encD tl Rr) true)) = .ok (decide (q.1.items.length = 1)) ((h ++ [AO.dct (encD tl Rr) false]).set h.length (AO.dct (encD tl Rr) true)) := by
      unfold evIfs
      rw [evE_cmp (v := decide (q.1.items.length = 1)) (evE_bqE (evE_var rfl) (seq_tup _ _) (bq_len _)) (evE_cst _ _ _) (by
        rw [cmp_eq, cmpEq_int, List.length_map]
        congr 1
        exact decide_eq_decide.mpr (by omega)), bind_ok]
      cases decide (q.1.items.length = 1) <;> rfl
    show (evIfs G _ _ [some (rowsD rows), some (.ref h.length), none, some (enc q.1), some (tl q.2)] _).bind _ = _
    rw [c1, bind_ok]
    by_cases p : q.1.items.length = 1
    · rw [decide_eq_true p, if_pos rfl, if_pos rfl]
      rw [evE_tup (evEs_cons (evE_bqE (evE_var rfl) (seq_tup _ _) (bq_len _)) (evEs_1 (evE_var rfl))) (show 2 ≤ sizeLine by decide), nl_len]
      rfl
    · rw [decide_eq_false p, if_neg (by decide), if_neg (by decide)]
  have S2 := evS_set (i := 2) (evE_new s1)
  rw [evSs_cons (evS_set (evE_call (evEs_1 (evE_var rfl)) (w_words n h rows m L.m7 L.m1 L.ok hr1 Rr H)))]
  refine (congrArg RS.fin (evSs_cons S2)).trans ?_
  have H2 : ∀ t : AH, ((h ++ [AO.dct (encD tl Rr) false]) ++ AO.lst ((some1 Rr).map enc) false :: t)[(h ++ [AO.dct (encD tl Rr) false]).length]? = some (AO.lst ((some1 Rr).map enc) false) := fun t => get_app0 _ _
  have c2 : evE G (callF G (n + 2)) (.cmpL .NotEq (.var 2) (.disp .nil)) [some (rowsD rows), some (.ref h.length), some (.ref (h ++ [AO.dct (encD tl Rr) false]).length), none, none] ((h ++ [AO.dct (encD tl Rr) false]) ++ [AO.lst ((some1 Rr).map enc) false]) = .ok (.bl (!decide (some1 Rr = []))) ((h ++ [AO.dct (encD tl Rr) false]) ++ [AO.lst ((some1 Rr).map enc) false]) := by
    refine evE_cmpL (evE_var rfl) (evL_disp (evEs_nil _ _) (Nat.zero_le _)) ?_
    rw [cmp_ne, cmpEq_lst (α := Wd1) _ _ _ false false (some1 Rr) [] (by rw [List.append_assoc]; exact H2 _) (get_app0 _ _) (by decide)]
    rfl
  have key : evE G (callF G (n + 2)) (.ite (.cmpL .NotEq (.var 2) (.disp .nil)) (.ix (.bq .min (.e (.var 2))) (.cst (.int 1))) (.cst .non)) [some (rowsD rows), some (.ref h.length), some (.ref (h ++ [AO.dct (encD tl Rr) false]).length), none, none] ((h ++ [AO.dct (encD tl Rr) false]) ++ [AO.lst ((some1 Rr).map enc) false]) = .ok (leastDv Rr) ((h ++ [AO.dct (encD tl Rr) false]) ++ [AO.lst ((some1 Rr).map enc) false]) := by
    rw [evE_ite c2]
    unfold leastDv least
    cases hs : some1 Rr with
    | nil => rfl
    | cons x xs =>
      rw [if_pos (by simp)]
      have mn : bqD .min ((x :: xs).map (enc : Wd1 → D)) = some (enc (minOf x xs)) := by
        show (if cmpable ((x :: xs).map (enc : Wd1 → D)) = true then some (leastD _ _) else none) = _
        rw [cmpable_en _ (by decide), if_pos rfl]
        exact congrArg some (leastD_en xs x)
      refine evE_ix (x := enc (minOf x xs)) (evE_bqE (evE_var rfl) (seq_lst (get_app0 _ _)) mn) (evE_cst _ _ _) ?_
      exact atI_ok (i := 1) (xs := [enc (minOf x xs).1, enc (minOf x xs).2]) rfl
  refine (congrArg RS.fin (evSs_ret key)).trans ?_
  rw [List.append_assoc]
  rfl
theorem w_leastword (n : Nat) (h : AH) (m : Nat) (rows : List (List Nat)) (L : Lev m rows) (Rr : List (Lot × List Nat)) (H : Run m rows Rr) : callF G (n + 5) 11 [rowsD rows] h = .ok (leastDv Rr) h := by
  rw [callF_succ (F := ⟨1, 1, c_least_word⟩) rfl rfl]
  have fin := ret_same (h := h) (d := leastDv Rr) (flat_least Rr)
  rw [← fin]
  refine congrArg (R.ret h) ?_
  show RS.fin (evSs G (callF G (n + 4)) c_least_word [some (rowsD rows)] h) = _
  unfold c_least_word
  rw [evSs_cons (evS_expr (evE_call (evEs_1 (evE_var rfl)) (w_ask n h m rows L))), evSs_ret (evE_call (evEs_1 (evE_var rfl)) (w_together (n + 1) h m rows L Rr H))]
  rfl
end K78
set_option Elab.async false
set_option linter.all false
set_option maxRecDepth 100000
set_option maxHeartbeats 4000000
namespace K78
open PySem PySem.W Rw En PBfs
theorem w_isword (n : Nat) (h : AH) (m : Nat) (rows : List (List Nat)) (L : Lev m rows) (w : List Nat) (hw : ∀ a ∈ w, a < rows.length) (hl : w.length ≤ 60) : callF G (n + 2) 8 [rowsD rows, tl w] h = .ok (.bl true) h := by
  rw [callF_succ (F := ⟨2, 3, c_is_word_of⟩) rfl rfl]
  have fin := ret_same (h := h) (d := D.bl true) rfl
  rw [← fin]
  refine congrArg (R.ret h) ?_
  show RS.fin (evSs G (callF G (n + 1)) c_is_word_of [some (rowsD rows), some (tl w), none] h) = _
  unfold c_is_word_of
  have c1 : evL G (callF G (n + 1)) (.comp (.call 0 (.cons (.var 2) (.cons (.cst (.int 0)) (.cons (.bin .Sub (.bq .len (.e (.var 0))) (.cst (.int 1))) .nil)))) (.nm 2) (.q (.e (.var 1))) .nil [2]) [some (rowsD rows), some (tl w), none] h = .ok (w.map fun _ => D.bl true) h := by
    refine evL_comp (xs := nl w) (ws := []) rfl rfl ?_
    refine compGo_map (e := fun i : Nat => D.int (i : Int)) (g := fun _ => D.bl true) rfl (fun i hi => ?_) (Nat.le_trans hl (by decide))
    rw [asg_own]
    show (evE G _ _ [some (rowsD rows), some (tl w), some (.int (i : Int))] _).bind _ = _
    rw [evE_call (evEs_cons (evE_var rfl) (evEs_cons (evE_cst _ _ _) (evEs_1 (evE_bin (x := .int (rows.length : Nat)) (evE_bqE (evE_var rfl) rfl (by rw [bq_len, List.length_map])) (evE_cst _ _ _) (binD_sub _ _))))) (w_num n h i 0 (rows.length - 1))]
    have := hw i hi
    rw [decide_eq_true ⟨by omega, by omega⟩]
    rfl
  rw [evSs_ret (evE_and2 (p := true) (q := true) (evE_isi (evE_var rfl) rfl) (fun _ => evE_bqL c1 (all_true fun x hx => by obtain ⟨_, _, rfl⟩ := List.mem_map.mp hx; rfl)) (fun h => by cases h))]
  rfl
def step1 (rows : List (List Nat)) (found : List Nat) (a : Nat) : List Nat := found.map fun i => (rows.getD a []).getD i 0
def ledN (rows : List (List Nat)) (w : List Nat) (m : Nat) : List Nat := w.foldl (step1 rows) (List.range m)
theorem step1_ok {m : Nat} {rows : List (List Nat)} (L : Lev m rows) {found : List Nat} {a : Nat} (ha : a < rows.length) (hf : found.length = m ∧ ∀ v ∈ found, v < m) : (step1 rows found a).length = m ∧ ∀ v ∈ step1 rows found a, v < m := by
  have hr := L.ok _ (List.getElem_mem ha)
  have e : rows.getD a [] = rows[a] := by simp [List.getD, List.getElem?_eq_getElem ha]
  refine ⟨by unfold step1; rw [List.length_map]; exact hf.1, fun v hv => ?_⟩
  obtain ⟨i, hi, rfl⟩ := List.mem_map.mp hv
  rw [e]
  have : i < rows[a].length := by rw [hr.1]; exact hf.2 i hi
  simp only [List.getD, List.getElem?_eq_getElem this, Option.getD_some]
  exact hr.2 _ (List.getElem_mem this)
theorem w_along (n : Nat) (h : AH) (m : Nat) (rows : List (List Nat)) (L : Lev m rows) (w : List Nat) (hw : ∀ a ∈ w, a < rows.length) : callF G (n + 1) 3 [rowsD rows, tl w] h = .ok (.ref h.length) (h ++ [AO.lst (nl (ledN rows w m)) false]) := by
  have m7 := L.m7
  have sz : m ≤ sizeLine := Nat.le_trans m7 (by decide)
  obtain ⟨r0, rs, er, l0⟩ := L.cons
  rw [callF_succ (F := ⟨2, 5, c_led_along⟩) rfl rfl]
  have i0 : ixD h (rowsD rows) (.int 0) = some (tl r0) := by rw [er]; exact atI_ok (i := 0) (xs := (r0 :: rs).map tl) rfl
  have c1 : evL G (callF G n) (.comp (.var 3) (.nm 3) (.rng1 (.bq .len (.e (.ix (.var 0) (.cst (.int 0)))))) .nil [3]) [some (rowsD rows), some (tl w), none, none, none] h = .ok (nl (List.range m)) h := by
    refine evL_comp (evI_rng1 (n := m) (evE_bqE (evE_ix (evE_var rfl) (evE_cst _ _ _) i0) rfl (by rw [bq_len, nl_len, l0])) (by omega)) rfl ?_
    refine compGo_map (e := fun i : Nat => D.int (i : Int)) rfl (fun i hi => ?_) (by rw [List.length_range]; exact sz)
    rw [asg_own]
    rfl
  have s1 : evS G (callF G n) (.set 2 (.new (.comp (.var 3) (.nm 3) (.rng1 (.bq .len (.e (.ix (.var 0) (.cst (.int 0)))))) .nil [3]))) [some (rowsD rows), some (tl w), none, none, none] h = .nx [some (rowsD rows), some (tl w), some (.ref h.length), none, none] (h ++ [AO.lst (nl (List.range m)) false]) := evS_set (evE_new c1)
  obtain ⟨ρ', h', e3, k, t, ps, cur, e4, rfl, rfl, tl1, hk, hc, hfin, hps⟩ := evS_fore (G := G) (cl := callF G n) (tg := .nm 4) (it := .q (.e (.var 1))) (body := l_led_along_1) (kill := [4]) (ρ := [some (rowsD rows), some (tl w), some (.ref h.length), none, none]) (h := h ++ [AO.lst (nl (List.range m)) false]) (h0 := h ++ [AO.lst (nl (List.range m)) false]) (xs := nl w) (ws := [])
    (I := fun rem ρ h2 => ∃ (k : Nat) (t : AH) (ps cur : List Nat), rem = nl ps ∧ ρ = [some (rowsD rows), some (tl w), some (.ref (h.length + k)), none, none] ∧ h2 = h ++ AO.lst (nl (List.range m)) false :: t ∧ t.length ≤ 1 ∧ (AO.lst (nl (List.range m)) false :: t)[k]? = some (AO.lst (nl cur) false) ∧ (cur.length = m ∧ ∀ v ∈ cur, v < m) ∧ ps.foldl (step1 rows) cur = ledN rows w m ∧ ∀ a ∈ ps, a < rows.length) rfl rfl (fun _ _ _ _ => rfl) (by
      rintro x rem ρ h2 ⟨k, t, ps, cur, e1, rfl, rfl, ht, hk, hc, hfin, hps⟩
      cases ps with
      | nil => cases e1
      | cons a ps =>
        have e2 : x = .int (a : Int) ∧ rem = nl ps := by
          have : x :: rem = .int (a : Int) :: nl ps := e1
          injection this with e5 e6
          exact ⟨e5, e6⟩
        obtain ⟨rfl, rfl⟩ := e2
        have ha := hps a (List.mem_cons_self ..)
        have hra := L.ok _ (List.getElem_mem ha)
        have ga : rows.getD a [] = rows[a] := by simp [List.getD, List.getElem?_eq_getElem ha]
        have gl : (h ++ AO.lst (nl (List.range m)) false :: t)[h.length + k]? = some (AO.lst (nl cur) false) := by rw [get_app]; exact hk
        have ei : evI G (callF G n) (.q (.e (.var 2))) [some (rowsD rows), some (tl w), some (.ref (h.length + k)), none, some (.int (a : Int))] (h ++ AO.lst (nl (List.range m)) false :: t) = .ok (nl cur, [h.length + k]) (h ++ AO.lst (nl (List.range m)) false :: t) := by
          rw [evI_q]
          unfold evW
          rw [evE_var rfl, bind_ok, seq_lst gl]; rfl
        have cc : evL G (callF G n) (.comp (.ix (.ix (.var 0) (.var 4)) (.var 3)) (.nm 3) (.q (.e (.var 2))) .nil [3]) [some (rowsD rows), some (tl w), some (.ref (h.length + k)), none, some (.int (a : Int))] (h ++ AO.lst (nl (List.range m)) false :: t) = .ok (nl (step1 rows cur a)) (h ++ AO.lst (nl (List.range m)) false :: t) := by
          refine evL_comp ei (lk1_lst gl) ?_
          rw [show nl (step1 rows cur a) = cur.map fun i : Nat => D.int (((rows.getD a []).getD i 0 : Nat) : Int) by simp [nl, step1, List.map_map]]
          refine compGo_map (e := fun i : Nat => D.int (i : Int)) (sameH_self _ _) (fun i hi => ?_) (by rw [hc.1]; exact sz)
          rw [asg_own]
          show (evE G _ _ [some (rowsD rows), some (tl w), some (.ref (h.length + k)), some (.int (i : Int)), some (.int (a : Int))] _).bind _ = _
          have ir : ixD (h ++ AO.lst (nl (List.range m)) false :: t) (rowsD rows) (.int (a : Int)) = some (tl rows[a]) := by
            refine (ix_tup _ _ _).trans (atI_ok ?_)
            rw [List.getElem?_map, List.getElem?_eq_getElem ha]; rfl
          rw [evE_ix (evE_ix (evE_var rfl) (evE_var rfl) ir) (evE_var rfl) (d := .int (((rows.getD a []).getD i 0 : Nat) : Int)) (by rw [ga]; exact at_row hra.1 (hc.2 i hi))]
          rfl
        refine ⟨_, [some (rowsD rows), some (tl w), some (.ref (h.length + 1)), none, none], h ++ [AO.lst (nl (List.range m)) false] ++ [AO.lst (nl (step1 rows cur a)) false], rfl, ?_, 1, [AO.lst (nl (step1 rows cur a)) false], ps, step1 rows cur a, rfl, rfl, by rw [List.append_assoc]; rfl, Nat.le_refl _, rfl, step1_ok L ha hc, hfin, fun b hb => hps b (List.mem_cons_of_mem _ hb)⟩
        unfold l_led_along_1
        have st := evS_set (i := 2) (evE_new cc)
        refine (congrArg (RS.gc _ _) ((evSs_cons st).trans (evSs_nil _ _))).trans ?_
        have hl : (h ++ AO.lst (nl (List.range m)) false :: t).length = (h ++ [AO.lst (nl (List.range m)) false]).length + t.length := by simp; omega
        have hh : h ++ AO.lst (nl (List.range m)) false :: t ++ [AO.lst (nl (step1 rows cur a)) false] = (h ++ [AO.lst (nl (List.range m)) false]) ++ (t ++ [AO.lst (nl (step1 rows cur a)) false]) := by simp
        rw [hh, hl]
        refine gc_one (k := t.length) (o := AO.lst (nl (step1 rows cur a)) false) (Fl.refl _) (by simp) (flat_nl _) rfl ?_ ?_ ?_
        · simp only [wipeS, List.set_cons_succ, List.set_cons_zero]
          intro d hd
          simp only [List.mem_cons, List.not_mem_nil, or_false, Option.some.injEq, reduceCtorEq] at hd
          rcases hd with rfl | rfl | rfl
          · left; exact under_flat _ _ (flats_tl _)
          · left; exact under_flat _ _ (flats_nl _)
          · right; rfl
        · simp only [wipeS, List.set_cons_succ, List.set_cons_zero]
          simp
        · have u1 : renD (h ++ [AO.lst (nl (List.range m)) false]).length [(h ++ [AO.lst (nl (List.range m)) false]).length + t.length] (rowsD rows) = some (rowsD rows) := by
            unfold renD
            rw [if_pos (under_flat _ (rowsD rows) (flats_tl _))]
          have u2 : renD (h ++ [AO.lst (nl (List.range m)) false]).length [(h ++ [AO.lst (nl (List.range m)) false]).length + t.length] (tl w) = some (tl w) := by
            unfold renD
            rw [if_pos (under_flat _ (tl w) (flats_nl _))]
          have u3 : renD (h ++ [AO.lst (nl (List.range m)) false]).length [(h ++ [AO.lst (nl (List.range m)) false]).length + t.length] (.ref ((h ++ [AO.lst (nl (List.range m)) false]).length + t.length)) = some (.ref (h.length + 1)) := by
            unfold renD
            rw [if_neg (by simp [D.under])]
            simp
          simp only [wipeS, List.set_cons_succ, List.set_cons_zero, List.map_cons, List.map_nil, Option.bind_some, Option.bind_none, u1, u2, u3]) ⟨0, [], w, List.range m, rfl, rfl, rfl, Nat.zero_le _, rfl, ⟨List.length_range, fun v hv => List.mem_range.mp hv⟩, rfl, hw⟩
  have hp0 : ps = [] := by
    cases ps with
    | nil => rfl
    | cons _ _ => cases e4
  subst hp0
  have ec : cur = ledN rows w m := hfin
  have fin := ret_fln (h := h) (h' := h) (t := AO.lst (nl (List.range m)) false :: t) (k := k) (Fl.refl h) hk (flat_nl cur)
  rw [← ec, ← fin]
  refine congrArg (R.ret h) ?_
  show RS.fin (evSs G (callF G n) c_led_along [some (rowsD rows), some (tl w), none, none, none] h) = _
  unfold c_led_along
  rw [evSs_cons s1, evSs_cons e3, evSs_ret (evE_var rfl)]
  rfl
theorem w_led (n : Nat) (h : AH) (m : Nat) (rows : List (List Nat)) (L : Lev m rows) (w : List Nat) (hw : ∀ a ∈ w, a < rows.length) (hl : w.length ≤ 60) : callF G (n + 5) 10 [rowsD rows, tl w] h = .ok (tl (ledN rows w m)) h := by
  rw [callF_succ (F := ⟨2, 2, c_led⟩) rfl rfl]
  have fin := ret_app (h := h) (t := [AO.lst (nl (ledN rows w m)) false]) (d := tl (ledN rows w m)) (flats_nl _)
  rw [← fin]
  refine congrArg (R.ret h) ?_
  show RS.fin (evSs G (callF G (n + 4)) c_led [some (rowsD rows), some (tl w)] h) = _
  unfold c_led
  have c1 : evE G (callF G (n + 4)) (.or (.not (.call 8 (.cons (.var 0) (.cons (.var 1) .nil)))) (.cmp .Gt (.bq .len (.e (.var 1))) (.glb 2))) [some (rowsD rows), some (tl w)] h = .ok (.bl false) h :=
    evE_or2 (p := false) (q := false) (evE_not (p := true) (evE_call (evEs_cons (evE_var rfl) (evEs_1 (evE_var rfl))) (w_isword (n + 2) h m rows L w hw hl))) (fun _ => evE_cmp (x := .int (w.length : Nat)) (y := .int 60) (evE_bqE (evE_var rfl) rfl (by rw [bq_len, nl_len])) (evE_glb rfl) (by rw [cmp_gt, decide_eq_false (by omega)])) (fun h => by cases h)
  rw [evSs_cons (evS_expr (evE_call (evEs_1 (evE_var rfl)) (w_ask n h m rows L))), evSs_cons (evS_no c1), evSs_ret (evE_bqE (evE_call (evEs_cons (evE_var rfl) (evEs_1 (evE_var rfl))) (w_along (n + 3) h m rows L w hw)) (seq_lst (get_app0 h _)) (bq_tuple _))]
  rfl
def turned (s : Nat) : List Nat := (List.range s).map fun i => (i + 1) % s
def pulled (s : Nat) : List Nat := List.range (s - 1) ++ [0]
theorem w_cerny (n : Nat) (h : AH) (s : Nat) (h2 : 2 ≤ s) (h7 : s ≤ 7) : callF G (n + 3) 14 [.int s] h = .ok (rowsD [turned s, pulled s]) h := by
  rw [callF_succ (F := ⟨1, 3, c_cerny_levers⟩) rfl rfl]
  have fin := ret_same (h := h) (d := rowsD [turned s, pulled s]) (flats_tl _)
  rw [← fin]
  refine congrArg (R.ret h) ?_
  show RS.fin (evSs G (callF G (n + 2)) c_cerny_levers [some (.int s), none, none] h) = _
  unfold c_cerny_levers
  have c1 : evL G (callF G (n + 2)) (.comp (.bin .Mod (.bin .Add (.var 2) (.cst (.int 1))) (.var 0)) (.nm 2) (.rng1 (.var 0)) .nil [2]) [some (.int s), none, none] h = .ok (nl (turned s)) h := by
    refine evL_comp (evI_rng1 (n := s) (evE_var rfl) (by omega)) rfl ?_
    rw [show nl (turned s) = (List.range s).map fun i : Nat => D.int (((i + 1) % s : Nat) : Int) by simp [nl, turned, List.map_map]]
    refine compGo_map (e := fun i : Nat => D.int (i : Int)) rfl (fun i hi => ?_) (by rw [List.length_range]; exact Nat.le_trans h7 (by decide))
    rw [asg_own]
    show (evE G _ _ [some (.int s), none, some (.int (i : Int))] _).bind _ = _
    rw [evE_bin (d := .int (((i + 1) % s : Nat) : Int)) (evE_bin (evE_var rfl) (evE_cst _ _ _) (binD_add _ _)) (evE_var rfl) (by rw [binD_mod, if_pos (by omega)]; simp)]
    rfl
  have c2 : evL G (callF G (n + 2)) (.comp (.var 2) (.nm 2) (.rng1 (.bin .Sub (.var 0) (.cst (.int 1)))) .nil [2]) [some (.int s), some (tl (turned s)), none] h = .ok (nl (List.range (s - 1))) h := by
    refine evL_comp (evI_rng1 (n := s - 1) (evE_bin (evE_var rfl) (evE_cst _ _ _) (by rw [binD_sub]; exact congrArg (fun z => some (D.int z)) (by omega))) (by omega)) rfl ?_
    refine compGo_map (e := fun i : Nat => D.int (i : Int)) rfl (fun i hi => ?_) (by rw [List.length_range]; exact Nat.le_trans (Nat.le_trans (Nat.sub_le _ _) h7) (by decide))
    rw [asg_own]
    rfl
  have e2 : tl (pulled s) = .tup (nl (List.range (s - 1)) ++ [.int 0]) := by simp [tl, nl, pulled]
  rw [evSs_cons (evS_expr (evE_call (evEs_cons (evE_var rfl) (evEs_cons (evE_cst _ _ _) (evEs_1 (evE_glb rfl)))) (w_asknum n h s 2 7 (by omega) (by omega)))), evSs_cons (evS_set (evE_bqL c1 (bq_tuple _)))]
  refine (congrArg RS.fin (evSs_ret (evE_tup (evEs_cons (evE_var rfl) (evEs_1 (evE_tup (evEs_starL c2 (evEs_1 (evE_cst _ _ _))) (by rw [List.length_append, nl_len, List.length_range]; exact Nat.le_trans (show s - 1 + 1 ≤ 7 by omega) (by decide))))) (show 2 ≤ sizeLine by decide)))).trans ?_
  show R.ok (D.tup [tl (turned s), .tup (nl (List.range (s - 1)) ++ [.int 0])]) h = _
  rw [← e2]
  rfl
/-! ## the least words of these: by computation -/
def cernyOk (s : Nat) : Bool := match bfs (fns [turned s, pulled s]) 200 [(whole s, [])] 0 with
  | none => false
  | some Rr => match least Rr with
    | none => false
    | some w => decide (w.length = (s - 1) * (s - 1)) && w.all (fun a => decide (a < 2)) && decide ((setN (ledN [turned s, pulled s] w s)).length = 1)
theorem cerny2 : cernyOk 2 = true := by decide +kernel
theorem cerny3 : cernyOk 3 = true := by decide +kernel
theorem cerny4 : cernyOk 4 = true := by decide +kernel
theorem cerny5 : cernyOk 5 = true := by decide +kernel
theorem cerny6 : cernyOk 6 = true := by decide +kernel
theorem cerny7 : cernyOk 7 = true := by decide +kernel
end K78
set_option Elab.async false
set_option linter.all false
set_option maxRecDepth 100000
set_option maxHeartbeats 4000000
namespace K78
open PySem PySem.W Rw En PBfs
theorem few_le {Rr : List (Lot × List Nat)} {q : Lot × List Nat} (hq : q ∈ Rr) : few Rr ≤ q.1.items.length := minN_le (List.mem_map.mpr ⟨q, hq, rfl⟩)
theorem few_mem {m : Nat} {rows : List (List Nat)} {Rr : List (Lot × List Nat)} (L : Lev m rows) (H : Run m rows Rr) : ∃ q ∈ Rr, q.1.items.length = few Rr := by
  obtain ⟨q, hq, e⟩ := List.mem_map.mp (minN_mem (lens_ne L H))
  exact ⟨q, hq, e⟩
theorem img_len (row : List Nat) (x : Lot) : (img row x).items.length ≤ x.items.length := by
  have := setN_len (x.items.map fun i => row.getD i 0)
  rw [List.length_map] at this
  exact this
/-- a least lot stays a least one -/
theorem law_least {m : Nat} {rows : List (List Nat)} {Rr : List (Lot × List Nat)} (L : Lev m rows) (H : Run m rows Rr) {q : Lot × List Nat} (hq : q ∈ Rr) (hl : q.1.items.length = few Rr) {row : List Nat} (hr : row ∈ rows) : (setN (q.1.items.map fun i => row.getD i 0)).length = few Rr := by
  obtain ⟨_, _, ok, cl, _⟩ := H.facts L
  obtain ⟨p, hp, e⟩ := List.mem_map.mp (cl q hq row hr)
  have h1 := few_le hp
  rw [e] at h1
  have h2 := img_len row q.1
  have : (img row q.1).items.length = (setN (q.1.items.map fun i => row.getD i 0)).length := rfl
  omega
theorem map_range {m : Nat} {row : List Nat} (h : row.length = m) : (List.range m).map (fun i => row.getD i 0) = row := by
  apply List.ext_getElem?
  intro i
  rw [List.getElem?_map]
  by_cases hi : i < m
  · rw [List.getElem?_range hi]
    simp [List.getD, List.getElem?_eq_getElem (show i < row.length by omega)]
  · rw [List.getElem?_eq_none_iff.mpr (by rw [List.length_range]; omega), List.getElem?_eq_none_iff.mpr (by omega)]
    rfl
theorem full_of {m : Nat} {xs : List Nat} (ha : Asc xs) (hb : ∀ v ∈ xs, v < m) (hl : xs.length = m) : xs = List.range m := by
  refine asc_eq ha (range_asc m) fun z => ⟨fun hz => List.mem_range.mpr (hb z hz), fun hz => ?_⟩
  refine Classical.byContradiction fun hn => ?_
  have : (z :: xs).length ≤ (List.range m).length := (List.nodup_cons.mpr ⟨hn, asc_nd ha⟩).length_le_of_subset fun y hy => by
    rcases List.mem_cons.mp hy with e | e
    · rw [e]; exact hz
    · exact List.mem_range.mpr (hb y e)
  rw [List.length_cons, List.length_range] at this
  omega
theorem law_plain {m : Nat} {rows : List (List Nat)} {Rr : List (Lot × List Nat)} (L : Lev m rows) (H : Run m rows Rr) : few Rr = m ↔ (rows.filter fun row => decide ((setN row).length = m)).length = rows.length := by
  obtain ⟨hw, _, ok, cl, _⟩ := H.facts L
  have hwl : (whole m).items.length = m := List.length_range
  have hfm := few_le hw
  rw [hwl] at hfm
  rw [List.length_filter_eq_length_iff]
  constructor
  · intro e row hrow
    rw [decide_eq_true_eq]
    have := law_least L H hw (by rw [hwl, e]) hrow
    rw [e] at this
    rw [show (whole m).items = List.range m from rfl, map_range (L.ok row hrow).1] at this
    exact this
  · intro e
    have hf : ∀ row ∈ rows, img row (whole m) = whole m := fun row hrow => by
      have h1 := e row hrow
      rw [decide_eq_true_eq] at h1
      have h2 : setN row = List.range m := full_of (setN_asc _) (fun v hv => (L.ok row hrow).2 v ((setN_mem v row).mp hv)) h1
      unfold img whole
      rw [map_range (L.ok row hrow).1, h2]
    obtain ⟨_, _, c, _⟩ := bfs_ok (P := fun q => q.1 = whole m) (fun x w hx j r hj => by
      obtain ⟨row, hrow, rfl⟩ := List.mem_map.mp (List.mem_of_getElem? hj)
      have hx : x = whole m := hx
      rw [hx]; exact hf row hrow) H (by simp) (fun q hq => by rw [List.mem_singleton.mp hq]) (fun q hq => by simp at hq)
    obtain ⟨q, hq, e2⟩ := few_mem L H
    rw [← e2, c q hq, hwl]
theorem law_one {m : Nat} {rows : List (List Nat)} {Rr : List (Lot × List Nat)} (L : Lev m rows) (H : Run m rows Rr) : few Rr = 1 ↔ least Rr ≠ none := by
  obtain ⟨_, _, ok, _, _⟩ := H.facts L
  have h0 : least Rr ≠ none ↔ some1 Rr ≠ [] := by
    unfold least
    cases some1 Rr <;> simp
  rw [h0]
  unfold some1
  rw [Ne, List.map_eq_nil_iff, List.filter_eq_nil_iff]
  constructor
  · intro e hn
    obtain ⟨q, hq, e2⟩ := few_mem L H
    exact hn q hq (by simp; omega)
  · intro hn
    refine Classical.byContradiction fun hf => hn fun q hq e => ?_
    have h1 : q.1.items.length = 1 := by simpa using e
    have h2 := few_le hq
    obtain ⟨p, hp, e2⟩ := few_mem L H
    have h3 := (ok p hp).2.2
    have : p.1.items.length ≠ 0 := fun e3 => h3 (List.length_eq_zero_iff.mp e3)
    omega
/-! ### other names -/
theorem img_mem {row : List Nat} {x : Lot} {z : Nat} : z ∈ (img row x).items ↔ ∃ i ∈ x.items, row.getD i 0 = z := by
  show z ∈ setN _ ↔ _
  rw [setN_mem, List.mem_map]
structure Nam (m : Nat) (p : List Nat) : Prop where
  len : p.length = m
  nd : p.Nodup
  lt : ∀ v ∈ p, v < m
theorem Nam.of {m : Nat} {p : List Nat} (h : p.Perm (List.range m)) : Nam m p := ⟨by rw [h.length_eq, List.length_range], h.nodup_iff.mpr List.nodup_range, fun v hv => List.mem_range.mp (h.mem_iff.mp hv)⟩
theorem Nam.inj {m : Nat} {p : List Nat} (N : Nam m p) {i j : Nat} (hi : i < m) (hj : j < m) (e : p.getD i 0 = p.getD j 0) : i = j := by
  have h1 : i < p.length := by rw [N.len]; exact hi
  have h2 : j < p.length := by rw [N.len]; exact hj
  simp only [List.getD, List.getElem?_eq_getElem h1, List.getElem?_eq_getElem h2, Option.getD_some] at e
  exact (List.getElem_inj N.nd).mp e
theorem Nam.ok {m : Nat} {p : List Nat} (N : Nam m p) : p.length = m ∧ ∀ v ∈ p, v < m := ⟨N.len, N.lt⟩
theorem img_inj {m : Nat} {p : List Nat} (N : Nam m p) (x y : Lot) (hx : okL m x) (hy : okL m y) (e : img p x = img p y) : x = y := by
  have h : x.items = y.items := asc_eq hx.1 hy.1 fun z => by
    have key : ∀ (x y : Lot), okL m x → okL m y → img p x = img p y → z ∈ x.items → z ∈ y.items := fun x y hx hy e hz => by
      have h1 : p.getD z 0 ∈ (img p x).items := img_mem.mpr ⟨z, hz, rfl⟩
      rw [e] at h1
      obtain ⟨i, hi, e2⟩ := img_mem.mp h1
      have := N.inj (hy.2.1 i hi) (hx.2.1 z hz) e2
      rw [← this]; exact hi
    exact ⟨key x y hx hy e, key y x hy hx e.symm⟩
  cases x; cases y; exact congrArg Tup.mk h
theorem nam_nodup {m : Nat} {p : List Nat} (N : Nam m p) {x : List Nat} (hx : Asc x) (hb : ∀ v ∈ x, v < m) : (x.map fun i => p.getD i 0).Nodup := by
  have h : ∀ {x : List Nat}, x.Nodup → (∀ v ∈ x, v < m) → (x.map fun i => p.getD i 0).Nodup := by
    intro x
    induction x with
    | nil => intro _ _; exact List.nodup_nil
    | cons a x ih =>
      intro h1 h2
      rw [List.map_cons, List.nodup_cons]
      have h3 := List.nodup_cons.mp h1
      refine ⟨fun hm => ?_, ih h3.2 fun v hv => h2 v (List.mem_cons_of_mem _ hv)⟩
      obtain ⟨i, hi, e⟩ := List.mem_map.mp hm
      have := N.inj (h2 i (List.mem_cons_of_mem _ hi)) (h2 a (List.mem_cons_self ..)) e
      rw [this] at hi
      exact h3.1 hi
  exact h (asc_nd hx) hb
theorem nam_len {m : Nat} {p : List Nat} (N : Nam m p) {x : Lot} (hx : okL m x) : (img p x).items.length = x.items.length := by
  have := (setN_full (xs := x.items.map fun i => p.getD i 0)).mpr (nam_nodup N hx.1 hx.2.1)
  rw [List.length_map] at this
  exact this
/-- the same doing under other names -/
def Ren (m : Nat) (p row row' : List Nat) : Prop := row'.length = m ∧ (∀ i < m, row'.getD (p.getD i 0) 0 = p.getD (row.getD i 0) 0)
theorem ren_ok {m : Nat} {p row row' : List Nat} (N : Nam m p) (hr : row.length = m ∧ ∀ v ∈ row, v < m) (h : Ren m p row row') : row'.length = m ∧ ∀ v ∈ row', v < m := by
  refine ⟨h.1, fun v hv => ?_⟩
  obtain ⟨j, hj, e⟩ := List.getElem_of_mem hv
  have hs : p.Perm (List.range m) := by
    have h1 : setN p = List.range m := full_of (setN_asc _) (fun v hv => N.lt v ((setN_mem v p).mp hv)) (by rw [setN_full.mpr N.nd, N.len])
    rw [List.perm_ext_iff_of_nodup N.nd List.nodup_range]
    intro a
    rw [← h1, setN_mem]
  have hj2 : j ∈ p := hs.mem_iff.mpr (List.mem_range.mpr (by rw [← h.1]; exact hj))
  obtain ⟨i, hi, e2⟩ := List.getElem_of_mem hj2
  have him : i < m := by rw [← N.len]; exact hi
  have h2 := h.2 i him
  have e3 : p.getD i 0 = j := by simp [List.getD, List.getElem?_eq_getElem hi, e2]
  rw [e3] at h2
  have e4 : row'.getD j 0 = v := by simp [List.getD, List.getElem?_eq_getElem hj, e]
  rw [e4] at h2
  have hri : i < row.length := by rw [hr.1]; exact him
  have hv2 : row.getD i 0 < m := by
    simp only [List.getD, List.getElem?_eq_getElem hri, Option.getD_some]
    exact hr.2 _ (List.getElem_mem hri)
  rw [h2]
  have key : ∀ j < p.length, p.getD j 0 < m := fun j hj => by
    simp only [List.getD, List.getElem?_eq_getElem hj, Option.getD_some]
    exact N.lt _ (List.getElem_mem hj)
  exact key _ (by rw [N.len]; exact hv2)
theorem img_ren {m : Nat} {p row row' : List Nat} (hr : row.length = m ∧ ∀ v ∈ row, v < m) (h : Ren m p row row') {x : Lot} (hx : okL m x) : img row' (img p x) = img p (img row x) := by
  have e : (img row' (img p x)).items = (img p (img row x)).items := asc_eq (setN_asc _) (setN_asc _) fun z => by
    rw [img_mem, img_mem]
    constructor
    · rintro ⟨i, hi, e⟩
      obtain ⟨j, hj, rfl⟩ := img_mem.mp hi
      rw [h.2 j (hx.2.1 j hj)] at e
      exact ⟨row.getD j 0, img_mem.mpr ⟨j, hj, rfl⟩, e⟩
    · rintro ⟨i, hi, e⟩
      obtain ⟨j, hj, rfl⟩ := img_mem.mp hi
      exact ⟨p.getD j 0, img_mem.mpr ⟨j, hj, rfl⟩, by rw [h.2 j (hx.2.1 j hj)]; exact e⟩
  exact congrArg Tup.mk e
theorem law_ren {m : Nat} {rows rows' : List (List Nat)} {p : List Nat} {Rr : List (Lot × List Nat)} (L : Lev m rows) (H : Run m rows Rr) (N : Nam m p) (hl : rows'.length = rows.length) (h : ∀ (j : Nat) (row row' : List Nat), rows[j]? = some row → rows'[j]? = some row' → Ren m p row row') : Lev m rows' ∧ Run m rows' (mv (img p) Rr) := by
  have hok : okRows m rows' := fun row' hr' => by
    obtain ⟨j, hj, e⟩ := List.getElem_of_mem hr'
    have hj2 : j < rows.length := by omega
    exact ren_ok N (L.ok _ (List.getElem_mem hj2)) (h j _ _ (List.getElem?_eq_getElem hj2) (by rw [List.getElem?_eq_getElem hj, e]))
  refine ⟨⟨L.m1, L.m7, by rw [hl]; exact L.r1, by rw [hl]; exact L.r4, hok⟩, ?_⟩
  have hw : img p (whole m) = whole m := by
    have h1 : setN p = List.range m := full_of (setN_asc _) (fun v hv => N.lt v ((setN_mem v p).mp hv)) (by rw [setN_full.mpr N.nd, N.len])
    unfold img whole
    rw [map_range N.len, h1]
  have := bfs_mv (rows := fns rows) (rows' := fns rows') (ρ := img p) (P := okL m) (fun x y hx hy e => img_inj N x y hx hy e) (fun x hx r hr => by
    obtain ⟨row, hrow, rfl⟩ := List.mem_map.mp hr
    exact img_ok (L.ok row hrow) hx) (fun x hx j => by
      simp only [fns, List.getElem?_map]
      rcases Nat.lt_or_ge j rows.length with hj | hj
      · have hj2 : j < rows'.length := by omega
        rw [List.getElem?_eq_getElem hj, List.getElem?_eq_getElem hj2]
        simp only [Option.map_some]
        exact congrArg some (img_ren (L.ok _ (List.getElem_mem hj)) (h j _ _ (List.getElem?_eq_getElem hj) (List.getElem?_eq_getElem hj2)) hx)
      · rw [List.getElem?_eq_none_iff.mpr hj, List.getElem?_eq_none_iff.mpr (by omega)]
        rfl) (n := 200) (F := [(whole m, [])]) (i := 0) (fun q hq => by rw [List.mem_singleton.mp hq]; exact whole_ok L.m1)
  unfold Run at H ⊢
  rw [H] at this
  rw [show mv (img p) [(whole m, ([] : List Nat))] = [(whole m, [])] by simp [mv, hw]] at this
  exact this
theorem least_mv {m : Nat} {p : List Nat} {Rr : List (Lot × List Nat)} (N : Nam m p) (ok : ∀ q ∈ Rr, okL m q.1) : least (mv (img p) Rr) = least Rr := by
  have : some1 (mv (img p) Rr) = some1 Rr := by
    unfold some1 mv
    rw [List.filter_map, List.map_map]
    have e : Rr.filter ((fun q : Lot × List Nat => decide (q.1.items.length = 1)) ∘ fun q => (img p q.1, q.2)) = Rr.filter fun q => decide (q.1.items.length = 1) := List.filter_congr fun q hq => by
      show decide ((img p q.1).items.length = 1) = _
      rw [nam_len N (ok q hq)]
    rw [e]
    rfl
  unfold least
  rw [this]
/-! ### one lever more -/
theorem law_more {m : Nat} {rows : List (List Nat)} {row : List Nat} {Rr R2 : List (Lot × List Nat)} (L : Lev m rows) (H : Run m rows Rr) (L2 : Lev m (rows ++ [row])) (H2 : Run m (rows ++ [row]) R2) : few R2 ≤ few Rr ∧ ∀ q ∈ Rr, q.1 ∈ R2.map (·.1) := by
  obtain ⟨hw, _, _, cl, _⟩ := H2.facts L2
  obtain ⟨_, _, c, _⟩ := bfs_ok (P := fun q => q.1 ∈ R2.map (·.1)) (fun x w hx j r hj => by
    obtain ⟨rw1, hrow, rfl⟩ := List.mem_map.mp (List.mem_of_getElem? hj)
    obtain ⟨q, hq, e⟩ := List.mem_map.mp hx
    have hx : q.1 = x := e
    have := cl q hq rw1 (List.mem_append.mpr (Or.inl hrow))
    rw [hx] at this
    exact this) H (by simp) (fun q hq => by rw [List.mem_singleton.mp hq]; exact List.mem_map.mpr ⟨_, hw, rfl⟩) (fun q hq => by simp at hq)
  refine ⟨?_, c⟩
  obtain ⟨q, hq, e⟩ := few_mem L H
  obtain ⟨q2, hq2, e2⟩ := List.mem_map.mp (c q hq)
  have := few_le hq2
  rw [e2, e] at this
  exact this
theorem cerny_of {s : Nat} (h2 : 2 ≤ s) (h7 : s ≤ 7) : ∃ Rr w, Run s [turned s, pulled s] Rr ∧ least Rr = some w ∧ w.length = (s - 1) * (s - 1) ∧ (∀ a ∈ w, a < 2) ∧ (setN (ledN [turned s, pulled s] w s)).length = 1 := by
  have h : cernyOk s = true := by
    have : s = 2 ∨ s = 3 ∨ s = 4 ∨ s = 5 ∨ s = 6 ∨ s = 7 := by omega
    rcases this with rfl | rfl | rfl | rfl | rfl | rfl
    · exact cerny2
    · exact cerny3
    · exact cerny4
    · exact cerny5
    · exact cerny6
    · exact cerny7
  unfold cernyOk at h
  split at h
  · cases h
  · rename_i Rr e
    split at h
    · cases h
    · rename_i w e2
      rw [Bool.and_eq_true, Bool.and_eq_true, decide_eq_true_eq, decide_eq_true_eq, List.all_eq_true] at h
      exact ⟨Rr, w, e, e2, h.1.1, fun a ha => by simpa using h.1.2 a ha, h.2⟩
theorem cerny_lev {s : Nat} (h2 : 2 ≤ s) (h7 : s ≤ 7) : Lev s [turned s, pulled s] := by
  refine ⟨by omega, h7, by simp, by simp, fun row hrow => ?_⟩
  rcases List.mem_cons.mp hrow with rfl | hrow
  · refine ⟨by simp [turned], fun v hv => ?_⟩
    obtain ⟨i, _, rfl⟩ := List.mem_map.mp hv
    exact Nat.mod_lt _ (by omega)
  · rw [List.mem_singleton.mp hrow]
    refine ⟨by simp [pulled]; omega, fun v hv => ?_⟩
    rcases List.mem_append.mp hv with h | h
    · have := List.mem_range.mp h; omega
    · rw [List.mem_singleton.mp h]; omega
end K78
set_option Elab.async false
set_option linter.all false
set_option maxRecDepth 100000
set_option maxHeartbeats 4000000
namespace K78
open PySem PySem.W Rw En PBfs
theorem stU_opt {n : Nat} {o : Option D} {ρ : St} (ho : ∀ d, o = some d → d.flat = true) (h : StU n ρ) : StU n (o :: ρ) := fun d hd => by
  rcases List.mem_cons.mp hd with e | e
  · exact under_flat _ _ (ho d e.symm)
  · exact h d e
/-- [lot for lot in words if p] -/
theorem w_filter {cl : Nat → List D → AH → R D} {c : CE} {ρ : St} {h : AH} {k : Nat} {Rr : List (Lot × List Nat)} {p : Lot → Bool} (h5 : 5 < ρ.length) (h3 : atS ρ 3 = some (.ref k)) (hn : h[k]? = some (.dct (encD tl Rr) false)) (hl : Rr.length ≤ 128)
    (hp : ∀ q ∈ Rr, evE G cl c (ρ.set 5 (some (enc q.1))) (h.set k (.dct (encD tl Rr) true)) = .ok (.bl (p q.1)) (h.set k (.dct (encD tl Rr) true))) :
    evL G cl (.comp (.var 5) (.nm 5) (.q (.e (.var 3))) (.cons c .nil) [5]) ρ h = .ok (((Rr.map (·.1)).filter p).map enc) h := by
  have ei : evI G cl (.q (.e (.var 3))) ρ h = .ok ((Rr.map (·.1)).map enc, [k]) h := by
    rw [evI_q]
    unfold evW
    rw [evE_var h3, bind_ok, seq_dct hn, keys_map]; rfl
  refine evL_compD ei hn ?_
  refine compGo_filter (e := (enc : Lot → D)) (sameH_self _ _) (fun l hl => ?_) (by rw [List.length_map]; exact Nat.le_trans hl (by decide))
  rw [asg_own]
  obtain ⟨q, hq, rfl⟩ := List.mem_map.mp hl
  show (evIfs G cl (.cons c .nil) _ _).bind _ = _
  have c1 : evIfs G cl (.cons c .nil) (ρ.set 5 (some (enc q.1))) (h.set k (.dct (encD tl Rr) true)) = .ok (p q.1) (h.set k (.dct (encD tl Rr) true)) := by
    unfold evIfs
    rw [hp q hq, bind_ok]
    cases p q.1 <;> rfl
  rw [c1, bind_ok]
  cases p q.1
  · rfl
  · rw [if_pos rfl, if_pos rfl, evE_var (at_self h5)]
    rfl
/-- names[room] for room in lot -/
theorem w_pickL {cl : Nat → List D → AH → R D} {ρ : St} {h : AH} {m : Nat} {row lot : List Nat} {k : Nat} (a b c : Nat) (hac : c ≠ a) (hcl : c < ρ.length) (ha : atS ρ a = some (.ref k)) (hk : h[k]? = some (.lst (nl row) false)) (hb : atS ρ b = some (tl lot)) (hr : row.length = m) (hv : ∀ v ∈ lot, v < m) (hz : lot.length ≤ 60) : evL G cl (.comp (.ix (.var a) (.var c)) (.nm c) (.q (.e (.var b))) .nil [c]) ρ h = .ok (nl (lot.map fun i => row.getD i 0)) h := by
  have ei : evI G cl (.q (.e (.var b))) ρ h = .ok (nl lot, []) h := by
    rw [evI_q]
    unfold evW
    rw [evE_var hb]; rfl
  refine evL_comp ei rfl ?_
  have := compGo_map (sm := sameH h []) (el := fun x h => match asgD h (.nm c) x (wipeS ρ [c]) with
        | some ρ1 => (evIfs G cl .nil ρ1 h).bind fun b h => if b then (evE G cl (.ix (.var a) (.var c)) ρ1 h).bind fun y h => .ok [y] h else .ok [] h
        | none => .bad) (e := fun i : Nat => D.int (i : Int)) (g := fun i : Nat => D.int ((row.getD i 0 : Nat) : Int)) (h := h) (xs := lot) rfl (fun i hi => by
      rw [asg_own]
      show (evE G _ (.ix (.var a) (.var c)) (ρ.set c (some (.int (i : Int)))) h).bind _ = _
      rw [evE_ix (x := .ref k) (y := .int (i : Int)) (evE_var (by rw [at_set (d := .non) hac]; exact ha)) (evE_var (at_self hcl)) ((ix_lst hk).trans (at_row hr (hv i hi)))]
      rfl) (Nat.le_trans hz (by decide))
  rw [show nl (lot.map fun i => row.getD i 0) = lot.map fun i : Nat => D.int ((row.getD i 0 : Nat) : Int) by simp [nl, List.map_map]]
  exact this
/-- the lots under other names -/
theorem w_ledlots {cl : Nat → List D → AH → R D} {ρ : St} {h : AH} {k kn : Nat} {m : Nat} {p : List Nat} {Rr : List (Lot × List Nat)} (N : Nam m p) (m7 : m ≤ 7) (h5 : 7 < ρ.length) (h3 : atS ρ 3 = some (.ref k)) (h9 : atS ρ 9 = some (.ref kn)) (hkn : k ≠ kn) (hn : h[k]? = some (.dct (encD tl Rr) false)) (hp : h[kn]? = some (.lst (nl p) false)) (ok : ∀ q ∈ Rr, okL m q.1) (hl : Rr.length ≤ 128) :
    evL G cl (.comp (.bq .tuple (.l (.sorted (.l (.comp (.ix (.var 9) (.var 7)) (.nm 7) (.q (.e (.var 5))) .nil [7]))))) (.nm 5) (.q (.e (.var 3))) .nil [5]) ρ h = .ok (((Rr.map (·.1)).map (img p)).map enc) h := by
  have ei : evI G cl (.q (.e (.var 3))) ρ h = .ok ((Rr.map (·.1)).map enc, [k]) h := by
    rw [evI_q]
    unfold evW
    rw [evE_var h3, bind_ok, seq_dct hn, keys_map]; rfl
  refine evL_compD ei hn ?_
  have em : (((Rr.map (·.1)).map (img p)).map (enc : Lot → D)) = (Rr.map (·.1)).map fun l : Lot => (enc (img p l) : D) := by simp
  rw [em]
  refine compGo_map (e := (enc : Lot → D)) (sameH_self _ _) (fun l hl => ?_) (by rw [List.length_map]; exact Nat.le_trans hl (by decide))
  rw [asg_own]
  obtain ⟨q, hq, rfl⟩ := List.mem_map.mp hl
  have hx := ok q hq
  have hz := okL_len hx
  show (evE G cl _ (ρ.set 5 (some (enc q.1))) _).bind _ = _
  have p1 : (h.set k (.dct (encD tl Rr) true))[kn]? = some (.lst (nl p) false) := by rw [List.getElem?_set_ne hkn]; exact hp
  have s1 := w_pickL (cl := cl) (ρ := ρ.set 5 (some (enc q.1))) (h := h.set k (.dct (encD tl Rr) true)) (lot := q.1.items) 9 5 7 (by decide) (by rw [List.length_set]; exact h5) (by rw [at_set (d := .non) (by decide)]; exact h9) p1 (at_self (by omega)) N.len hx.2.1 (by omega)
  have nd := nam_nodup N hx.1 hx.2.1
  have s2 : sortD (nl (q.1.items.map fun i => p.getD i 0)) = some (nl (img p q.1).items) := by
    have := sortD_en (q.1.items.map fun i => p.getD i 0) (by decide) (by rw [List.length_map]; exact Nat.le_trans (Nat.le_trans hz m7) (by decide)) (Or.inr fun x _ ys e => by cases e)
    rw [sortO_set nd (ys := q.1.items.map fun i => p.getD i 0) (fun z => Iff.rfl)] at this
    exact this
  rw [evE_bqL (evL_sortedL s1 s2) (bq_tuple _)]
  rfl
/-! ### one lever under other names -/
def setf (p row : List Nat) (l : List Nat) (i : Nat) : List Nat := l.set (p.getD i 0) (p.getD (row.getD i 0) 0)
def lineF (m : Nat) (p row : List Nat) : List Nat := (List.range m).foldl (setf p row) (List.replicate m 0)
theorem setf_fold {m : Nat} {p row : List Nat} (N : Nam m p) : ∀ {ps : List Nat} {l : List Nat}, l.length = m → ps.Nodup → (∀ i ∈ ps, i < m) → (ps.foldl (setf p row) l).length = m ∧ (∀ i ∈ ps, (ps.foldl (setf p row) l).getD (p.getD i 0) 0 = p.getD (row.getD i 0) 0) ∧ ∀ i < m, i ∉ ps → (ps.foldl (setf p row) l).getD (p.getD i 0) 0 = l.getD (p.getD i 0) 0
  | [], l, hl, _, _ => ⟨hl, fun i hi => (by cases hi), fun i _ _ => rfl⟩
  | i :: ps, l, hl, nd, hb => by
    have h2 := List.nodup_cons.mp nd
    have hi := hb i (List.mem_cons_self ..)
    have key : ∀ j < p.length, p.getD j 0 < m := fun j hj => by
      simp only [List.getD, List.getElem?_eq_getElem hj, Option.getD_some]
      exact N.lt _ (List.getElem_mem hj)
    have hpi : p.getD i 0 < l.length := by rw [hl]; exact key i (by rw [N.len]; exact hi)
    obtain ⟨a, b, c⟩ := setf_fold N (row := row) (ps := ps) (l := setf p row l i) (by unfold setf; rw [List.length_set]; exact hl) h2.2 fun j hj => hb j (List.mem_cons_of_mem _ hj)
    refine ⟨a, fun j hj => ?_, fun j hj hn => ?_⟩
    · rcases List.mem_cons.mp hj with e | e
      · rw [e]
        refine (c i hi h2.1).trans ?_
        unfold setf
        simp only [List.getD] at hpi ⊢
        rw [List.getElem?_set_self hpi]; rfl
      · exact b j e
    · have hn2 : j ≠ i ∧ j ∉ ps := by simpa using hn
      refine (c j hj hn2.2).trans ?_
      have : p.getD i 0 ≠ p.getD j 0 := fun e => hn2.1 (N.inj hi hj e).symm
      unfold setf
      simp only [List.getD] at this ⊢
      rw [List.getElem?_set_ne this]
theorem line_ren {m : Nat} {p row : List Nat} (N : Nam m p) : Ren m p row (lineF m p row) := by
  obtain ⟨a, b, _⟩ := setf_fold N (row := row) (ps := List.range m) (l := List.replicate m 0) List.length_replicate List.nodup_range fun i hi => List.mem_range.mp hi
  exact ⟨a, fun i hi => b i (List.mem_range.mpr hi)⟩
/-- catL -/
theorem evL_catL {cl : Nat → List D → AH → R D} {a b : CL} {ρ : St} {h h1 h2 : AH} {xs ys : List D} (ea : evL G cl a ρ h = .ok xs h1) (eb : evL G cl b ρ h1 = .ok ys h2) (hl : xs.length + ys.length ≤ sizeLine) : evL G cl (.catL a (.l b)) ρ h = .ok (xs ++ ys) h2 := by
  unfold evL
  unfold evQ
  rw [ea, bind_ok, eb, bind_ok, if_pos hl]
theorem evL_rep {cl : Nat → List D → AH → R D} {a : CL} {n : CE} {ρ : St} {h h1 h2 : AH} {xs : List D} {k : Nat} (ea : evL G cl a ρ h = .ok xs h1) (en : evE G cl n ρ h1 = .ok (.int (k : Int)) h2) (hk : k < 1000) (hl : xs.length * k ≤ 1000) : evL G cl (.rep a n) ρ h = .ok (List.replicate k xs).flatten h2 := by
  unfold evL
  rw [ea, bind_ok, en, bind_ok]
  have : (1000 : Nat) < sizeLine := by decide
  have e2 : ((k : Int).toNat) = k := Int.toNat_natCast k
  show (if _ then _ else _) = _
  rw [if_pos ⟨by omega, by omega, by rw [e2]; omega⟩, e2]
end K78
set_option Elab.async false
set_option linter.all false
set_option maxRecDepth 100000
set_option maxHeartbeats 4000000
namespace K78
open PySem PySem.W Rw En PBfs
theorem w_r6 (cl : Nat → List D → AH → R D) (r d m : Nat) (rows : List (List Nat)) (Rr : List (Lot × List Nat)) (L : Lev m rows) (H : Run m rows Rr) (h : AH) (hr : r < h.length) (hd : h[d]? = some (.dct (encD tl Rr) false)) :
    ∃ o5 o6 : Option D, (∀ x, o5 = some x → x.flat = true) ∧ (∀ x, o6 = some x → x.flat = true) ∧ evS G cl (.fore (.nm 5) (.q (.l (.comp (.var 5) (.nm 5) (.q (.e (.var 3))) (.cons (.cmp .Eq (.bq .len (.e (.var 5))) (.var 4)) .nil) [5]))) l__law_right_2 []) [some (.ref r), some (rowsD rows), some (.int m), some (.ref d), some (.int (few Rr : Nat)), none, none, none, none, none, none, none, none, none, none, none, none, none] h = .nx [some (.ref r), some (rowsD rows), some (.int m), some (.ref d), some (.int (few Rr : Nat)), o5, o6, none, none, none, none, none, none, none, none, none, none, none] h := by
  obtain ⟨_, _, ok, _, len⟩ := H.facts L
  have m7 := L.m7
  have hdl := lt_of_get hd
  have f1 : evL G cl (.comp (.var 5) (.nm 5) (.q (.e (.var 3))) (.cons (.cmp .Eq (.bq .len (.e (.var 5))) (.var 4)) .nil) [5]) [some (.ref r), some (rowsD rows), some (.int m), some (.ref d), some (.int (few Rr : Nat)), none, none, none, none, none, none, none, none, none, none, none, none, none] h = .ok (((Rr.map (·.1)).filter fun l => decide (l.items.length = few Rr)).map enc) h := by
    refine w_filter (p := fun l => decide (l.items.length = few Rr)) (by simp) rfl hd len (fun q hq => ?_)
    refine evE_cmp (evE_bqE (x := enc q.1) (xs := q.1.items.map enc) (evE_var rfl) rfl (bq_len _)) (evE_var rfl) ?_
    rw [cmp_eq, cmpEq_int, List.length_map]
    exact congrArg some (decide_eq_decide.mpr (by omega))
  have ei : evI G cl (.q (.l (.comp (.var 5) (.nm 5) (.q (.e (.var 3))) (.cons (.cmp .Eq (.bq .len (.e (.var 5))) (.var 4)) .nil) [5]))) [some (.ref r), some (rowsD rows), some (.int m), some (.ref d), some (.int (few Rr : Nat)), none, none, none, none, none, none, none, none, none, none, none, none, none] h = .ok (((Rr.map (·.1)).filter fun l => decide (l.items.length = few Rr)).map enc, []) h := by
    rw [evI_q]
    unfold evW
    rw [f1]; rfl
  obtain ⟨ρ', h', e3, rfl, ps, o5, o6, _, _, g5, g6, rfl⟩ := evS_fore (tg := .nm 5) (body := l__law_right_2) (kill := []) (I := fun rem ρ h2 => h2 = h ∧ ∃ (ps : List Lot) (o5 o6 : Option D), rem = ps.map enc ∧ (∀ x ∈ ps, ∃ q ∈ Rr, q.1 = x ∧ x.items.length = few Rr) ∧ (∀ x, o5 = some x → x.flat = true) ∧ (∀ x, o6 = some x → x.flat = true) ∧ ρ = [some (.ref r), some (rowsD rows), some (.int m), some (.ref d), some (.int (few Rr : Nat)), o5, o6, none, none, none, none, none, none, none, none, none, none, none]) ei rfl (fun _ _ _ _ => rfl) (by
      rintro x rem ρ h2 ⟨rfl, ps, o5, o6, e1, hps, g5, g6, rfl⟩
      cases ps with
      | nil => cases e1
      | cons l ps =>
        rw [List.map_cons, List.cons.injEq] at e1
        obtain ⟨rfl, rfl⟩ := e1
        obtain ⟨q, hq, rfl, hql⟩ := hps l (List.mem_cons_self ..)
        have hx := ok q hq
        have hz := okL_len hx
        have ei2 : evI G cl (.q (.e (.var 1))) [some (.ref r), some (rowsD rows), some (.int m), some (.ref d), some (.int (few Rr : Nat)), some (enc q.1), o6, none, none, none, none, none, none, none, none, none, none, none] h2 = .ok (rows.map tl, []) h2 := rfl
        obtain ⟨ρ', h', e4, rfl, ps2, o7, _, _, g7, rfl⟩ := evS_fore (tg := .nm 6) (body := l__law_right_1) (kill := []) (I := fun rem ρ h3 => h3 = h2 ∧ ∃ (ps : List (List Nat)) (o6 : Option D), rem = ps.map tl ∧ (∀ row ∈ ps, row ∈ rows) ∧ (∀ x, o6 = some x → x.flat = true) ∧ ρ = [some (.ref r), some (rowsD rows), some (.int m), some (.ref d), some (.int (few Rr : Nat)), some (enc q.1), o6, none, none, none, none, none, none, none, none, none, none, none]) ei2 rfl (fun _ _ _ _ => rfl) (by
          rintro x rem ρ h3 ⟨rfl, ps, o6, e1, hps, g6, rfl⟩
          cases ps with
          | nil => cases e1
          | cons row ps =>
            rw [List.map_cons, List.cons.injEq] at e1
            obtain ⟨rfl, rfl⟩ := e1
            have hrow := hps row (List.mem_cons_self ..)
            have c1 : evE G cl (.cmp .NotEq (.lenS (.l (.comp (.ix (.var 6) (.var 7)) (.nm 7) (.q (.e (.var 5))) .nil [7]))) (.var 4)) [some (.ref r), some (rowsD rows), some (.int m), some (.ref d), some (.int (few Rr : Nat)), some (enc q.1), some (tl row), none, none, none, none, none, none, none, none, none, none, none] h3 = .ok (.bl false) h3 := by
              refine evE_cmp (evE_lenS (xs := q.1.items.map fun i => row.getD i 0) (w_pick (lot := q.1.items) 6 5 7 (by decide) (by simp) rfl rfl (L.ok row hrow).1 hx.2.1 (by omega)) (by rw [List.length_map]; omega)) (evE_var rfl) ?_
              rw [cmp_ne, cmpEq_int, law_least L H hq hql hrow, decide_eq_true rfl]; rfl
            refine ⟨_, [some (.ref r), some (rowsD rows), some (.int m), some (.ref d), some (.int (few Rr : Nat)), some (enc q.1), some (tl row), none, none, none, none, none, none, none, none, none, none, none], h3, rfl, ?_, rfl, ps, some (tl row), rfl, fun w hw => hps w (List.mem_cons_of_mem _ hw), (fun x e => by injection e with e; rw [← e]; exact flats_nl _), rfl⟩
            unfold l__law_right_1
            refine (congrArg (RS.gc _ _) ((evSs_cons (evS_no c1)).trans (evSs_nil _ _))).trans ?_
            refine (gc_fl (Fl.refl _) ?_).trans rfl
            show StU _ _
            exact (by (repeat' (first | exact stU_nil _ | refine stU_none ?_ | refine stU_some ?_ ?_ | refine stU_opt (by assumption) ?_)); all_goals (first | rfl | exact under_ref (by omega) | exact under_flat _ _ (En.flat _) | exact under_flat _ _ (flats_tl _) | exact under_flat _ _ (flats_nl _)))) ⟨rfl, rows, o6, rfl, fun _ h => h, g6, rfl⟩
        refine ⟨_, [some (.ref r), some (rowsD rows), some (.int m), some (.ref d), some (.int (few Rr : Nat)), some (enc q.1), o7, none, none, none, none, none, none, none, none, none, none, none], h', rfl, ?_, rfl, ps, some (enc q.1), o7, rfl, fun w hw => hps w (List.mem_cons_of_mem _ hw), (fun x e => by injection e with e; rw [← e]; exact En.flat _), g7, rfl⟩
        unfold l__law_right_2
        refine (congrArg (RS.gc _ _) ((evSs_cons e4).trans (evSs_nil _ _))).trans ?_
        refine (gc_fl (Fl.refl _) ?_).trans rfl
        show StU _ _
        exact (by (repeat' (first | exact stU_nil _ | refine stU_none ?_ | refine stU_some ?_ ?_ | refine stU_opt (by assumption) ?_)); all_goals (first | rfl | exact under_ref (by omega) | exact under_flat _ _ (En.flat _) | exact under_flat _ _ (flats_tl _) | exact under_flat _ _ (flats_nl _)))) ⟨rfl, _, none, none, rfl, fun x hx => by
          obtain ⟨hx1, hx2⟩ := List.mem_filter.mp hx
          obtain ⟨q, hq, rfl⟩ := List.mem_map.mp hx1
          exact ⟨q, hq, rfl, of_decide_eq_true hx2⟩, (fun x e => by cases e), (fun x e => by cases e), rfl⟩
  exact ⟨o5, o6, g5, g6, e3⟩
end K78
set_option Elab.async false
set_option linter.all false
set_option maxRecDepth 100000
set_option maxHeartbeats 4000000
namespace K78
open PySem PySem.W Rw En PBfs
theorem flat_tls (rows : List (List Nat)) (lk : Bool) : (AO.lst (rows.map tl) lk).flat = true := flats_tl rows
theorem w_r11 (cl : Nat → List D → AH → R D) (r d kp kn m fw : Nat) (rows : List (List Nat)) (p : List Nat) (L : Lev m rows) (N : Nam m p) (h : AH) (hr : r < h.length) (hd : d < h.length) (hkp : kp < h.length) (hkn : h[kn]? = some (.lst (nl p) false)) (o5 o6 : Option D) (g5 : ∀ x, o5 = some x → x.flat = true) (g6 : ∀ x, o6 = some x → x.flat = true) :
    ∃ p6 p7 : Option D, (∀ x, p6 = some x → x.flat = true) ∧ (∀ x, p7 = some x → x.flat = true) ∧ evS G cl (.fore (.nm 6) (.q (.e (.var 1))) l__law_right_4 [6, 11]) [some (.ref r), some (rowsD rows), some (.int m), some (.ref d), some (.int (fw : Nat)), o5, o6, none, some (.ref kp), some (.ref kn), some (.ref h.length), none, none, none, none, none, none, none] (h ++ [AO.lst [] false]) = .nx [some (.ref r), some (rowsD rows), some (.int m), some (.ref d), some (.int (fw : Nat)), o5, p6, p7, some (.ref kp), some (.ref kn), some (.ref h.length), none, none, none, none, none, none, none] (h ++ [AO.lst ((rows.map (lineF m p)).map tl) false]) := by
  have m7 := L.m7
  have m1 := L.m1
  have r4 := L.r4
  have hknl := lt_of_get hkn
  have ei : evI G cl (.q (.e (.var 1))) [some (.ref r), some (rowsD rows), some (.int m), some (.ref d), some (.int (fw : Nat)), o5, o6, none, some (.ref kp), some (.ref kn), some (.ref h.length), none, none, none, none, none, none, none] (h ++ [AO.lst [] false]) = .ok (rows.map tl, []) (h ++ [AO.lst [] false]) := rfl
  obtain ⟨ρ', h', e3, ps, dn, o6, o7, e1, e2, _, g6, g7, rfl, rfl⟩ := evS_fore (tg := .nm 6) (body := l__law_right_4) (kill := [6, 11]) (I := fun rem ρ h2 => ∃ (ps dn : List (List Nat)) (o6 o7 : Option D), rem = ps.map tl ∧ rows = dn ++ ps ∧ (∀ row ∈ ps, row ∈ rows) ∧ (∀ x, o6 = some x → x.flat = true) ∧ (∀ x, o7 = some x → x.flat = true) ∧ ρ = [some (.ref r), some (rowsD rows), some (.int m), some (.ref d), some (.int (fw : Nat)), o5, o6, o7, some (.ref kp), some (.ref kn), some (.ref h.length), none, none, none, none, none, none, none] ∧ h2 = h ++ [AO.lst ((dn.map (lineF m p)).map tl) false]) ei rfl (fun _ _ _ _ => rfl) (by
      rintro x rem ρ h2 ⟨ps, dn, o6, o7, e1, e2, hps, g6, g7, rfl, rfl⟩
      cases ps with
      | nil => cases e1
      | cons row ps =>
        rw [List.map_cons, List.cons.injEq] at e1
        obtain ⟨rfl, rfl⟩ := e1
        have hrow := hps row (List.mem_cons_self ..)
        have hro := L.ok row hrow
        have hlen : (h ++ [AO.lst ((dn.map (lineF m p)).map tl) false]).length = h.length + 1 := by simp
        -- line
        have sl : evS G cl (.set 11 (.new (.rep (.disp (.cons (.cst (.int 0)) .nil)) (.var 2)))) [some (.ref r), some (rowsD rows), some (.int m), some (.ref d), some (.int (fw : Nat)), o5, some (tl row), o7, some (.ref kp), some (.ref kn), some (.ref h.length), none, none, none, none, none, none, none] (h ++ [AO.lst ((dn.map (lineF m p)).map tl) false]) = .nx [some (.ref r), some (rowsD rows), some (.int m), some (.ref d), some (.int (fw : Nat)), o5, some (tl row), o7, some (.ref kp), some (.ref kn), some (.ref h.length), some (.ref (h.length + 1)), none, none, none, none, none, none] (h ++ [AO.lst ((dn.map (lineF m p)).map tl) false, AO.lst (nl (List.replicate m 0)) false]) := by
          have := evS_set (i := 11) (evE_new (evL_rep (cl := cl) (k := m) (ρ := [some (.ref r), some (rowsD rows), some (.int m), some (.ref d), some (.int (fw : Nat)), o5, some (tl row), o7, some (.ref kp), some (.ref kn), some (.ref h.length), none, none, none, none, none, none, none]) (h := h ++ [AO.lst ((dn.map (lineF m p)).map tl) false]) (n := .var 2) (evL_disp (evEs_1 (evE_cst (.int 0) _ _)) (show 1 ≤ sizeLine by decide)) (evE_var rfl) (by omega) (by simp; omega)))
          rw [hlen, List.append_assoc] at this
          have e0 : (List.replicate m [D.int 0]).flatten = nl (List.replicate m 0) := by
            rw [List.flatten_replicate_singleton]
            simp [nl]
          rw [e0] at this
          exact this
        have ei2 : evI G cl (.rng1 (.var 2)) [some (.ref r), some (rowsD rows), some (.int m), some (.ref d), some (.int (fw : Nat)), o5, some (tl row), o7, some (.ref kp), some (.ref kn), some (.ref h.length), some (.ref (h.length + 1)), none, none, none, none, none, none] (h ++ [AO.lst ((dn.map (lineF m p)).map tl) false, AO.lst (nl (List.replicate m 0)) false]) = .ok (nl (List.range m), []) (h ++ [AO.lst ((dn.map (lineF m p)).map tl) false, AO.lst (nl (List.replicate m 0)) false]) := evI_rng1 (evE_var rfl) (by omega)
        obtain ⟨ρ', h', e4, qs, line, o8, e5, _, g8, hfin, _, rfl, rfl⟩ := evS_fore (tg := .nm 7) (body := l__law_right_3) (kill := []) (I := fun rem ρ h3 => ∃ (qs line : List Nat) (o7 : Option D), rem = nl qs ∧ (∀ i ∈ qs, i < m) ∧ (∀ x, o7 = some x → x.flat = true) ∧ qs.foldl (setf p row) line = lineF m p row ∧ line.length = m ∧ ρ = [some (.ref r), some (rowsD rows), some (.int m), some (.ref d), some (.int (fw : Nat)), o5, some (tl row), o7, some (.ref kp), some (.ref kn), some (.ref h.length), some (.ref (h.length + 1)), none, none, none, none, none, none] ∧ h3 = h ++ [AO.lst ((dn.map (lineF m p)).map tl) false, AO.lst (nl line) false]) ei2 rfl (fun _ _ _ _ => rfl) (by
          rintro x rem ρ h3 ⟨qs, line, o7, e1, hqs, g7, hfin, hll, rfl, rfl⟩
          cases qs with
          | nil => cases e1
          | cons i qs =>
            have e2 : x = .int (i : Int) ∧ rem = nl qs := by
              have : x :: rem = .int (i : Int) :: nl qs := e1
              injection this with e5 e6
              exact ⟨e5, e6⟩
            obtain ⟨rfl, rfl⟩ := e2
            have hi := hqs i (List.mem_cons_self ..)
            have key : ∀ j < p.length, p.getD j 0 < m := fun j hj => by
              simp only [List.getD, List.getElem?_eq_getElem hj, Option.getD_some]
              exact N.lt _ (List.getElem_mem hj)
            have hpi : p.getD i 0 < m := key i (by rw [N.len]; exact hi)
            have hri : row.getD i 0 < m := by
              have : i < row.length := by rw [hro.1]; exact hi
              simp only [List.getD, List.getElem?_eq_getElem this, Option.getD_some]
              exact hro.2 _ (List.getElem_mem this)
            have gn : (h ++ [AO.lst ((dn.map (lineF m p)).map tl) false, AO.lst (nl line) false])[kn]? = some (.lst (nl p) false) := by rw [get_old hknl]; exact hkn
            have gl : (h ++ [AO.lst ((dn.map (lineF m p)).map tl) false, AO.lst (nl line) false])[h.length + 1]? = some (.lst (nl line) false) := get_app _ _ 1
            have jx : L2.ixN (nl line).length ((p.getD i 0 : Nat) : Int) = some (p.getD i 0) := by
              unfold L2.ixN
              rw [if_pos (by omega), if_pos (by rw [nl_len]; omega)]; rfl
            have pd : evS.putD (h ++ [AO.lst ((dn.map (lineF m p)).map tl) false, AO.lst (nl line) false]) (.ref (h.length + 1)) (.int ((p.getD i 0 : Nat) : Int)) (.int ((p.getD (row.getD i 0) 0 : Nat) : Int)) = .ok .non (h ++ [AO.lst ((dn.map (lineF m p)).map tl) false, AO.lst (nl (setf p row line i)) false]) := by
              rw [putD_lst gl, jx]
              show R.ok D.non _ = _
              rw [nl_set, set_app]; rfl
            have q1 : ixD (h ++ [AO.lst ((dn.map (lineF m p)).map tl) false, AO.lst (nl line) false]) (tl row) (.int (i : Int)) = some (.int ((row.getD i 0 : Nat) : Int)) := at_row hro.1 hi
            have q2 : ixD (h ++ [AO.lst ((dn.map (lineF m p)).map tl) false, AO.lst (nl line) false]) (.ref kn) (.int ((row.getD i 0 : Nat) : Int)) = some (.int ((p.getD (row.getD i 0) 0 : Nat) : Int)) := (ix_lst gn).trans (at_row N.len hri)
            have q3 : ixD (h ++ [AO.lst ((dn.map (lineF m p)).map tl) false, AO.lst (nl line) false]) (.ref kn) (.int (i : Int)) = some (.int ((p.getD i 0 : Nat) : Int)) := (ix_lst gn).trans (at_row N.len hi)
            have st : evS G cl (.setIx (.var 11) (.ix (.var 9) (.var 7)) (.ix (.var 9) (.ix (.var 6) (.var 7)))) [some (.ref r), some (rowsD rows), some (.int m), some (.ref d), some (.int (fw : Nat)), o5, some (tl row), some (.int (i : Int)), some (.ref kp), some (.ref kn), some (.ref h.length), some (.ref (h.length + 1)), none, none, none, none, none, none] (h ++ [AO.lst ((dn.map (lineF m p)).map tl) false, AO.lst (nl line) false]) = .nx [some (.ref r), some (rowsD rows), some (.int m), some (.ref d), some (.int (fw : Nat)), o5, some (tl row), some (.int (i : Int)), some (.ref kp), some (.ref kn), some (.ref h.length), some (.ref (h.length + 1)), none, none, none, none, none, none] (h ++ [AO.lst ((dn.map (lineF m p)).map tl) false, AO.lst (nl (setf p row line i)) false]) :=
              evS_setIx (evE_ix (evE_var rfl) (evE_ix (evE_var rfl) (evE_var rfl) q1) q2) (evE_var rfl) (evE_ix (evE_var rfl) (evE_var rfl) q3) pd
            refine ⟨_, [some (.ref r), some (rowsD rows), some (.int m), some (.ref d), some (.int (fw : Nat)), o5, some (tl row), some (.int (i : Int)), some (.ref kp), some (.ref kn), some (.ref h.length), some (.ref (h.length + 1)), none, none, none, none, none, none], _, rfl, ?_, qs, setf p row line i, some (.int (i : Int)), rfl, fun j hj => hqs j (List.mem_cons_of_mem _ hj), (fun x e => (Option.some.inj e) ▸ flat_int _), hfin, by unfold setf; rw [List.length_set]; exact hll, rfl, rfl⟩
            unfold l__law_right_3
            refine (congrArg (RS.gc _ _) ((evSs_cons st).trans (evSs_nil _ _))).trans ?_
            refine (gc_fl ((Fl.refl _).app (Fl.cons (Fl.cons .nil (flat_nl _)) (flat_tls _ _))) ?_).trans rfl
            have hl2 : (h ++ [AO.lst ((dn.map (lineF m p)).map tl) false, AO.lst (nl (List.replicate m 0)) false]).length = h.length + 2 := by simp
            rw [hl2]
            show StU _ _
            exact (by (repeat' (first | exact stU_nil _ | refine stU_none ?_ | refine stU_some ?_ ?_ | refine stU_opt (by assumption) ?_)); all_goals (first | rfl | exact under_ref (by omega) | exact under_flat _ _ (En.flat _) | exact under_flat _ _ (flats_tl _) | exact under_flat _ _ (flats_nl _)))) ⟨List.range m, List.replicate m 0, o7, rfl, fun i hi => List.mem_range.mp hi, g7, rfl, List.length_replicate, rfl, rfl⟩
        have hq0 : qs = [] := by
          cases qs with
          | nil => rfl
          | cons _ _ => cases e5
        subst hq0
        have hline : line = lineF m p row := hfin
        subst hline
        have gl : (h ++ [AO.lst ((dn.map (lineF m p)).map tl) false, AO.lst (nl (lineF m p row)) false])[h.length + 1]? = some (.lst (nl (lineF m p row)) false) := get_app _ _ 1
        have go : (h ++ [AO.lst ((dn.map (lineF m p)).map tl) false, AO.lst (nl (lineF m p row)) false])[h.length]? = some (.lst ((dn.map (lineF m p)).map tl) false) := get_app0 _ _
        have hdn : dn.length ≤ 4 := by
          have := congrArg List.length e2
          rw [List.length_append] at this
          omega
        have sa : evS G cl (.expr (.append (.var 10) (.bq .tuple (.e (.var 11))))) [some (.ref r), some (rowsD rows), some (.int m), some (.ref d), some (.int (fw : Nat)), o5, some (tl row), o8, some (.ref kp), some (.ref kn), some (.ref h.length), some (.ref (h.length + 1)), none, none, none, none, none, none] (h ++ [AO.lst ((dn.map (lineF m p)).map tl) false, AO.lst (nl (lineF m p row)) false]) = .nx [some (.ref r), some (rowsD rows), some (.int m), some (.ref d), some (.int (fw : Nat)), o5, some (tl row), o8, some (.ref kp), some (.ref kn), some (.ref h.length), some (.ref (h.length + 1)), none, none, none, none, none, none] ((h ++ [AO.lst (((dn ++ [row]).map (lineF m p)).map tl) false]) ++ [AO.lst (nl (lineF m p row)) false]) := by
          have := evS_expr (evE_append (G := G) (cl := cl) (n := h.length) (o := .var 10) (e := .bq .tuple (.e (.var 11))) (ρ := [some (.ref r), some (rowsD rows), some (.int m), some (.ref d), some (.int (fw : Nat)), o5, some (tl row), o8, some (.ref kp), some (.ref kn), some (.ref h.length), some (.ref (h.length + 1)), none, none, none, none, none, none]) (y := tl (lineF m p row)) (evE_var rfl) go (evE_bqE (evE_var rfl) (seq_lst gl) (bq_tuple _)) go (by
            have : (1000 : Nat) < sizeLine := by decide
            rw [List.length_map, List.length_map]; omega))
          rw [set_app0] at this
          rw [this]
          simp
        refine ⟨_, [some (.ref r), some (rowsD rows), some (.int m), some (.ref d), some (.int (fw : Nat)), o5, none, o8, some (.ref kp), some (.ref kn), some (.ref h.length), none, none, none, none, none, none, none], h ++ [AO.lst (((dn ++ [row]).map (lineF m p)).map tl) false], rfl, ?_, ps, dn ++ [row], none, o8, rfl, by rw [e2]; simp, fun w hw => hps w (List.mem_cons_of_mem _ hw), (fun x e => by cases e), g8, rfl, rfl⟩
        unfold l__law_right_4
        refine (congrArg (RS.gc _ _) ((evSs_cons sl).trans ((evSs_cons e4).trans ((evSs_cons sa).trans (evSs_nil _ _))))).trans ?_
        refine (gc_fla ((Fl.refl _).app (Fl.cons (o' := AO.lst (((dn ++ [row]).map (lineF m p)).map tl) false) .nil (flats_tl _))) ?_).trans rfl
        have hl2 : (h ++ [AO.lst [] false]).length = h.length + 1 := by simp
        rw [hl2]
        simp only [wipeS, List.set_cons_succ, List.set_cons_zero]
        show StU _ _
        exact (by (repeat' (first | exact stU_nil _ | refine stU_none ?_ | refine stU_some ?_ ?_ | refine stU_opt (by assumption) ?_)); all_goals (first | rfl | exact under_ref (by omega) | exact under_flat _ _ (En.flat _) | exact under_flat _ _ (flats_tl _) | exact under_flat _ _ (flats_nl _)))) ⟨rows, [], o6, none, rfl, rfl, fun _ h => h, g6, (fun x e => by cases e), rfl, rfl⟩
  have hp0 : ps = [] := by
    cases ps with
    | nil => rfl
    | cons _ _ => cases e1
  subst hp0
  rw [List.append_nil] at e2
  subst e2
  exact ⟨o6, o7, g6, g7, e3⟩
end K78
set_option Elab.async false
set_option linter.all false
set_option maxRecDepth 100000
set_option maxHeartbeats 4000000
namespace K78
open PySem PySem.W Rw En PBfs
theorem keys_enc (Rr : List (Lot × List Nat)) : keysT Rr = enc (⟨sortO (Rr.map (·.1))⟩ : Tup Lot) := rfl
theorem cmpEq_self {α : Type} [DecidableEq α] [En α] (h : AH) (a : α) (hd : Datum.depth α < 60) : cmpEq h (enc a) (enc a) = some true := by rw [cmpEq_en h a a hd, decide_eq_true rfl]
theorem least_non (Rr : List (Lot × List Nat)) : leastDv Rr = .non ↔ least Rr = none := by
  unfold leastDv
  split
  · rename_i e; rw [e]; simp
  · rename_i w e; rw [e]; exact ⟨fun h => (by cases h), fun h => (by cases h)⟩
theorem w_right (n : Nat) (h : AH) (r : Nat) (a b c : Int) (e : h[r]? = some (cr a b c)) (hc : 0 ≤ c) (hc2 : c + 500 < 100000) (hb : 0 ≤ b) (hb2 : b < 2 ^ 80) :
    ∃ a' c', 0 ≤ c' ∧ c' ≤ c + 400 ∧ callF G (n + 6) 20 [.ref r] h = .ok (.bl true) (h.set r (cr a' b c')) := by
  have hr := lt_of_get e
  have F : ∀ X : AO, (h.set r X).length = h.length := fun X => List.length_set
  have GX : ∀ (X : Int) (Y : Int) (t : AH), (h.set r (cr X b Y) ++ t)[r]? = some (cr X b Y) := fun X Y t => by rw [get_old (by rw [F]; exact hr), get_set hr]
  have SX : ∀ (X Y : AO) (t : AH), (h.set r X ++ t).set r Y = h.set r Y ++ t := fun X Y t => by rw [set_old (by rw [F]; exact hr), List.set_set]
  have LX : ∀ (X : AO) (t : AH), (h.set r X ++ t).length = h.length + t.length := fun X t => by rw [List.length_append, F]
  obtain ⟨m, rows, a1, c1, m1, m5, l1, l3, hok, q1, q2, e1⟩ := w_levers (n + 2) h r a b c e hc (by omega) hb hb2
  have L : Lev m rows := ⟨m1, by omega, l1, by omega, hok⟩
  have m7 := L.m7
  obtain ⟨Rr, H⟩ := bfs_some m7 m1 hok
  have H : Run m rows Rr := H
  obtain ⟨hw, nd, ok, cl, len⟩ := H.facts L
  have hr1 : rows ≠ [] := fun e => by rw [e] at l1; simp at l1
  obtain ⟨r0, rs, er, l0⟩ := L.cons
  have szt : ∀ k : Nat, k ≤ 1000 → k ≤ sizeLine := fun k hk => Nat.le_trans hk (by decide)
  -- draws
  obtain ⟨p, a2, c2, hp, q3, q4, e2⟩ := w_mixed (n + 3) (h.set r (cr a1 b c1) ++ [AO.dct (encD tl Rr) false, AO.lst ((rows.filter fun row => decide ((setN row).length = m)).map tl) false]) r a1 b c1 m (GX _ _ _) m1 (by omega) q1 (by omega) hb hb2
  have N := Nam.of hp
  rw [SX, LX] at e2
  let rows' := rows.map (lineF m p)
  obtain ⟨L', H'⟩ := law_ren (rows' := rows') L H N (by simp [rows']) (fun j row row' h1 h2 => by
    simp only [rows', List.getElem?_map, h1, Option.map_some, Option.some.injEq] at h2
    rw [← h2]; exact line_ren N)
  let T5 : AH := [AO.dct (encD tl Rr) false, AO.lst ((rows.filter fun row => decide ((setN row).length = m)).map tl) false, AO.lst (nl p) false, AO.lst (rows'.map tl) false, AO.lst ((sortO ((Rr.map (·.1)).map (img p))).map enc) false]
  -- 1
  have s1 : evS G (callF G (n + 5)) (.set 1 (.call 18 (.cons (.var 0) (.cons (.cst (.int 5)) .nil)))) [some (.ref r), none, none, none, none, none, none, none, none, none, none, none, none, none, none, none, none, none] h = .nx [some (.ref r), some (rowsD rows), none, none, none, none, none, none, none, none, none, none, none, none, none, none, none, none] (h.set r (cr a1 b c1)) := evS_set (evE_call (evEs_cons rfl (evEs_1 rfl)) e1)
  -- 2
  have i0 : ∀ hh, ixD hh (rowsD rows) (.int 0) = some (tl r0) := fun hh => by rw [er]; exact atI_ok (i := 0) (xs := (r0 :: rs).map tl) rfl
  have g2 : evEs G (callF G (n + 5)) (.cons (.bq .len (.e (.ix (.var 1) (.cst (.int 0))))) (.cons (.call 19 (.cons (.var 1) .nil)) .nil)) [some (.ref r), some (rowsD rows), none, none, none, none, none, none, none, none, none, none, none, none, none, none, none, none] (h.set r (cr a1 b c1)) = .ok [.int m, .ref h.length] (h.set r (cr a1 b c1) ++ [AO.dct (encD tl Rr) false]) := by
    have := w_lawwords (n + 3) (h.set r (cr a1 b c1)) rows m m7 m1 hok hr1 Rr H
    rw [F] at this
    exact evEs_cons (evE_bqE (evE_ix (evE_var rfl) (evE_cst _ _ _) (i0 _)) rfl (by rw [bq_len, nl_len, l0])) (evEs_1 (evE_call (evEs_1 rfl) this))
  have s2 : evS G (callF G (n + 5)) (.par [2, 3] (.cons (.bq .len (.e (.ix (.var 1) (.cst (.int 0))))) (.cons (.call 19 (.cons (.var 1) .nil)) .nil))) [some (.ref r), some (rowsD rows), none, none, none, none, none, none, none, none, none, none, none, none, none, none, none, none] (h.set r (cr a1 b c1)) = .nx [some (.ref r), some (rowsD rows), some (.int m), some (.ref h.length), none, none, none, none, none, none, none, none, none, none, none, none, none, none] (h.set r (cr a1 b c1) ++ [AO.dct (encD tl Rr) false]) := evS_par g2 rfl
  have D1 : ∀ (X : AO) (t : AH), (h.set r X ++ AO.dct (encD tl Rr) false :: t)[h.length]? = some (AO.dct (encD tl Rr) false) := fun X t => fl_get0 (F X) _
  -- 3
  have s3 : evS G (callF G (n + 5)) (.set 4 (.bq .min (.l (.comp (.bq .len (.e (.var 5))) (.nm 5) (.q (.e (.var 3))) .nil [5])))) [some (.ref r), some (rowsD rows), some (.int m), some (.ref h.length), none, none, none, none, none, none, none, none, none, none, none, none, none, none] (h.set r (cr a1 b c1) ++ [AO.dct (encD tl Rr) false]) = .nx [some (.ref r), some (rowsD rows), some (.int m), some (.ref h.length), some (.int (few Rr : Nat)), none, none, none, none, none, none, none, none, none, none, none, none, none] (h.set r (cr a1 b c1) ++ [AO.dct (encD tl Rr) false]) :=
    evS_set (evE_bqL (w_lens (v := 5) (by simp) (evE_var rfl) (D1 _ _) len) (bq_min (lens_ne L H)))
  -- 4
  have s4 : evS G (callF G (n + 5)) (.ife (.or (.cmp .NotEq (.call 12 (.cons (.var 1) .nil)) (.bq .tuple (.l (.sorted (.e (.var 3)))))) (.cmp .NotEq (.call 13 (.cons (.var 1) .nil)) (.var 4))) (.cons (.ret (.cst (.bl false))) .nil) .nil) [some (.ref r), some (rowsD rows), some (.int m), some (.ref h.length), some (.int (few Rr : Nat)), none, none, none, none, none, none, none, none, none, none, none, none, none] (h.set r (cr a1 b c1) ++ [AO.dct (encD tl Rr) false]) = .nx [some (.ref r), some (rowsD rows), some (.int m), some (.ref h.length), some (.int (few Rr : Nat)), none, none, none, none, none, none, none, none, none, none, none, none, none] (h.set r (cr a1 b c1) ++ [AO.dct (encD tl Rr) false]) := by
    have k1 : sortD ((encD tl Rr).map (·.1)) = some ((sortO (Rr.map (·.1))).map enc) := by
      rw [keys_map]
      exact sort_keys (m := m) (fun k hk => by obtain ⟨q, hq, rfl⟩ := List.mem_map.mp hk; exact ok q hq) (by rw [List.length_map]; exact len)
    refine evS_no (evE_or2 (p := false) (q := false) (evE_cmp (x := keysT Rr) (y := keysT Rr) (evE_call (evEs_1 (evE_var rfl)) (w_lots n _ m rows L Rr H)) (evE_bqL (evL_sortedE (evE_var rfl) (seq_dct (D1 _ _)) k1) (bq_tuple _)) ?_) (fun _ => evE_cmp (evE_call (evEs_1 (evE_var rfl)) (w_rank n _ m rows L Rr H)) (evE_var rfl) ?_) (fun h => by cases h))
    · rw [cmp_ne, keys_enc, cmpEq_self _ _ (by decide)]; rfl
    · rw [cmp_ne, cmpEq_int, decide_eq_true rfl]; rfl
  -- 5
  have one := law_one L H
  have s5 : evS G (callF G (n + 5)) (.ife (.cmp .NotEq (.cmp .Eq (.var 4) (.cst (.int 1))) (.cmp .IsNot (.call 11 (.cons (.var 1) .nil)) (.cst .non))) (.cons (.ret (.cst (.bl false))) .nil) .nil) [some (.ref r), some (rowsD rows), some (.int m), some (.ref h.length), some (.int (few Rr : Nat)), none, none, none, none, none, none, none, none, none, none, none, none, none] (h.set r (cr a1 b c1) ++ [AO.dct (encD tl Rr) false]) = .nx [some (.ref r), some (rowsD rows), some (.int m), some (.ref h.length), some (.int (few Rr : Nat)), none, none, none, none, none, none, none, none, none, none, none, none, none] (h.set r (cr a1 b c1) ++ [AO.dct (encD tl Rr) false]) := by
    refine evS_no (evE_cmp (x := .bl (decide (few Rr = 1))) (y := .bl (!decide (leastDv Rr = .non))) (evE_cmp (evE_var rfl) (evE_cst _ _ _) ?_) (evE_cmp (evE_call (evEs_1 (evE_var rfl)) (w_leastword n _ m rows L Rr H)) (evE_cst _ _ _) (cmp_isn _ _)) ?_)
    · rw [cmp_eq, cmpEq_int]
      exact congrArg some (decide_eq_decide.mpr (by omega))
    · rw [cmp_ne, cmpEq_bl]
      have : decide (few Rr = 1) = !decide (leastDv Rr = .non) := by
        by_cases q : few Rr = 1
        · have := one.mp q
          rw [decide_eq_true q, decide_eq_false fun e => this ((least_non Rr).mp e)]; rfl
        · have : leastDv Rr = .non := Classical.byContradiction fun e => q (one.mpr fun e2 => e ((least_non Rr).mpr e2))
          rw [decide_eq_false q, decide_eq_true this]; rfl
      rw [decide_eq_true this]; rfl
  -- 6
  obtain ⟨o5, o6, g5, g6, s6⟩ := w_r6 (callF G (n + 5)) r h.length m rows Rr L H (h.set r (cr a1 b c1) ++ [AO.dct (encD tl Rr) false]) (by rw [LX]; omega) (D1 _ _)
  -- 7
  have c7 : evL G (callF G (n + 5)) (.comp (.var 6) (.nm 6) (.q (.e (.var 1))) (.cons (.cmp .Eq (.lenS (.e (.var 6))) (.var 2)) .nil) [6]) [some (.ref r), some (rowsD rows), some (.int m), some (.ref h.length), some (.int (few Rr : Nat)), o5, o6, none, none, none, none, none, none, none, none, none, none, none] (h.set r (cr a1 b c1) ++ [AO.dct (encD tl Rr) false]) = .ok ((rows.filter fun row => decide ((setN row).length = m)).map tl) (h.set r (cr a1 b c1) ++ [AO.dct (encD tl Rr) false]) := by
    refine evL_comp (xs := rows.map tl) (ws := []) rfl rfl ?_
    refine compGo_filter rfl (fun row hrow => ?_) (szt _ (by omega))
    rw [asg_own]
    have hro := L.ok row hrow
    have t1 : evIfs G (callF G (n + 5)) (.cons (.cmp .Eq (.lenS (.e (.var 6))) (.var 2)) .nil) [some (.ref r), some (rowsD rows), some (.int m), some (.ref h.length), some (.int (few Rr : Nat)), o5, some (tl row), none, none, none, none, none, none, none, none, none, none, none] (h.set r (cr a1 b c1) ++ [AO.dct (encD tl Rr) false]) = .ok (decide ((setN row).length = m)) (h.set r (cr a1 b c1) ++ [AO.dct (encD tl Rr) false]) := by
      unfold evIfs
      rw [evE_cmp (v := decide ((setN row).length = m)) (evE_lenS (xs := row) rfl (by omega)) (evE_var rfl) (by
        rw [cmp_eq, cmpEq_int]
        exact congrArg some (decide_eq_decide.mpr (by omega))), bind_ok]
      cases decide ((setN row).length = m) <;> rfl
    show (evIfs G _ _ [some (.ref r), some (rowsD rows), some (.int m), some (.ref h.length), some (.int (few Rr : Nat)), o5, some (tl row), none, none, none, none, none, none, none, none, none, none, none] _).bind _ = _
    rw [t1, bind_ok]
    cases decide ((setN row).length = m) <;> rfl
  have s7 : evS G (callF G (n + 5)) (.set 8 (.new (.comp (.var 6) (.nm 6) (.q (.e (.var 1))) (.cons (.cmp .Eq (.lenS (.e (.var 6))) (.var 2)) .nil) [6]))) [some (.ref r), some (rowsD rows), some (.int m), some (.ref h.length), some (.int (few Rr : Nat)), o5, o6, none, none, none, none, none, none, none, none, none, none, none] (h.set r (cr a1 b c1) ++ [AO.dct (encD tl Rr) false]) = .nx [some (.ref r), some (rowsD rows), some (.int m), some (.ref h.length), some (.int (few Rr : Nat)), o5, o6, none, some (.ref (h.length + 1)), none, none, none, none, none, none, none, none, none] (h.set r (cr a1 b c1) ++ [AO.dct (encD tl Rr) false, AO.lst ((rows.filter fun row => decide ((setN row).length = m)).map tl) false]) := by
    have := evS_set (i := 8) (evE_new c7)
    rw [LX, List.append_assoc] at this
    exact this
  -- 8
  have s8 : evS G (callF G (n + 5)) (.ife (.cmp .NotEq (.cmp .Eq (.var 4) (.var 2)) (.cmp .Eq (.bq .len (.e (.var 8))) (.bq .len (.e (.var 1))))) (.cons (.ret (.cst (.bl false))) .nil) .nil) [some (.ref r), some (rowsD rows), some (.int m), some (.ref h.length), some (.int (few Rr : Nat)), o5, o6, none, some (.ref (h.length + 1)), none, none, none, none, none, none, none, none, none] (h.set r (cr a1 b c1) ++ [AO.dct (encD tl Rr) false, AO.lst ((rows.filter fun row => decide ((setN row).length = m)).map tl) false]) = .nx [some (.ref r), some (rowsD rows), some (.int m), some (.ref h.length), some (.int (few Rr : Nat)), o5, o6, none, some (.ref (h.length + 1)), none, none, none, none, none, none, none, none, none] (h.set r (cr a1 b c1) ++ [AO.dct (encD tl Rr) false, AO.lst ((rows.filter fun row => decide ((setN row).length = m)).map tl) false]) := by
    have gp : (h.set r (cr a1 b c1) ++ [AO.dct (encD tl Rr) false, AO.lst ((rows.filter fun row => decide ((setN row).length = m)).map tl) false])[h.length + 1]? = some (AO.lst ((rows.filter fun row => decide ((setN row).length = m)).map tl) false) := fl_get (F _) _ 1
    refine evS_no (evE_cmp (x := .bl (decide (few Rr = m))) (y := .bl (decide ((rows.filter fun row => decide ((setN row).length = m)).length = rows.length))) (evE_cmp (evE_var rfl) (evE_var rfl) ?_) (evE_cmp (evE_bqE (evE_var rfl) (seq_lst gp) (bq_len _)) (evE_bqE (x := rowsD rows) (xs := rows.map tl) (evE_var rfl) rfl (bq_len _)) ?_) ?_)
    · rw [cmp_eq, cmpEq_int]
      exact congrArg some (decide_eq_decide.mpr (by omega))
    · rw [cmp_eq, cmpEq_int, List.length_map, List.length_map]
      exact congrArg some (decide_eq_decide.mpr (by omega))
    · rw [cmp_ne, cmpEq_bl, decide_eq_true (decide_eq_decide.mpr (law_plain L H))]; rfl
  -- 9
  have s9 : evS G (callF G (n + 5)) (.set 9 (.call 17 (.cons (.var 0) (.cons (.var 2) .nil)))) [some (.ref r), some (rowsD rows), some (.int m), some (.ref h.length), some (.int (few Rr : Nat)), o5, o6, none, some (.ref (h.length + 1)), none, none, none, none, none, none, none, none, none] (h.set r (cr a1 b c1) ++ [AO.dct (encD tl Rr) false, AO.lst ((rows.filter fun row => decide ((setN row).length = m)).map tl) false]) = .nx [some (.ref r), some (rowsD rows), some (.int m), some (.ref h.length), some (.int (few Rr : Nat)), o5, o6, none, some (.ref (h.length + 1)), some (.ref (h.length + 2)), none, none, none, none, none, none, none, none] (h.set r (cr a2 b c2) ++ [AO.dct (encD tl Rr) false, AO.lst ((rows.filter fun row => decide ((setN row).length = m)).map tl) false, AO.lst (nl p) false]) := by
    rw [List.append_assoc] at e2
    exact evS_set (evE_call (evEs_cons rfl (evEs_1 rfl)) e2)
  -- 10
  have s10 : evS G (callF G (n + 5)) (.set 10 (.new (.disp .nil))) [some (.ref r), some (rowsD rows), some (.int m), some (.ref h.length), some (.int (few Rr : Nat)), o5, o6, none, some (.ref (h.length + 1)), some (.ref (h.length + 2)), none, none, none, none, none, none, none, none] (h.set r (cr a2 b c2) ++ [AO.dct (encD tl Rr) false, AO.lst ((rows.filter fun row => decide ((setN row).length = m)).map tl) false, AO.lst (nl p) false]) = .nx [some (.ref r), some (rowsD rows), some (.int m), some (.ref h.length), some (.int (few Rr : Nat)), o5, o6, none, some (.ref (h.length + 1)), some (.ref (h.length + 2)), some (.ref (h.set r (cr a2 b c2) ++ [AO.dct (encD tl Rr) false, AO.lst ((rows.filter fun row => decide ((setN row).length = m)).map tl) false, AO.lst (nl p) false]).length), none, none, none, none, none, none, none] (h.set r (cr a2 b c2) ++ [AO.dct (encD tl Rr) false, AO.lst ((rows.filter fun row => decide ((setN row).length = m)).map tl) false, AO.lst (nl p) false] ++ [AO.lst [] false]) := evS_set (evE_new (evL_disp (evEs_nil _ _) (Nat.zero_le _)))
  -- 11
  obtain ⟨p6, p7, g6', g7', s11⟩ := w_r11 (callF G (n + 5)) r h.length (h.length + 1) (h.length + 2) m (few Rr) rows p L N (h.set r (cr a2 b c2) ++ [AO.dct (encD tl Rr) false, AO.lst ((rows.filter fun row => decide ((setN row).length = m)).map tl) false, AO.lst (nl p) false]) (by rw [LX]; omega) (by rw [LX]; simp) (by rw [LX]; simp) (fl_get (F _) _ 2) o5 o6 g5 g6
  have L3 : (h.set r (cr a2 b c2) ++ [AO.dct (encD tl Rr) false, AO.lst ((rows.filter fun row => decide ((setN row).length = m)).map tl) false, AO.lst (nl p) false]).length = h.length + 3 := by rw [LX]; rfl
  rw [L3] at s10 s11
  have A4 : h.set r (cr a2 b c2) ++ [AO.dct (encD tl Rr) false, AO.lst ((rows.filter fun row => decide ((setN row).length = m)).map tl) false, AO.lst (nl p) false] ++ [AO.lst ((rows.map (lineF m p)).map tl) false] = h.set r (cr a2 b c2) ++ [AO.dct (encD tl Rr) false, AO.lst ((rows.filter fun row => decide ((setN row).length = m)).map tl) false, AO.lst (nl p) false, AO.lst (rows'.map tl) false] := by rw [List.append_assoc]; rfl
  rw [A4] at s11
  -- 12
  have ok' : ∀ k ∈ (Rr.map (·.1)).map (img p), okL m k := fun k hk => by
    obtain ⟨x, hx, rfl⟩ := List.mem_map.mp hk
    obtain ⟨q, hq, rfl⟩ := List.mem_map.mp hx
    exact img_ok N.ok (ok q hq)
  have len' : ((Rr.map (·.1)).map (img p)).length ≤ 128 := by rw [List.length_map, List.length_map]; exact len
  have c12 : evL G (callF G (n + 5)) (.sorted (.l (.comp (.bq .tuple (.l (.sorted (.l (.comp (.ix (.var 9) (.var 7)) (.nm 7) (.q (.e (.var 5))) .nil [7]))))) (.nm 5) (.q (.e (.var 3))) .nil [5]))) [some (.ref r), some (rowsD rows), some (.int m), some (.ref h.length), some (.int (few Rr : Nat)), o5, p6, p7, some (.ref (h.length + 1)), some (.ref (h.length + 2)), some (.ref (h.length + 3)), none, none, none, none, none, none, none] (h.set r (cr a2 b c2) ++ [AO.dct (encD tl Rr) false, AO.lst ((rows.filter fun row => decide ((setN row).length = m)).map tl) false, AO.lst (nl p) false, AO.lst (rows'.map tl) false]) = .ok ((sortO ((Rr.map (·.1)).map (img p))).map enc) (h.set r (cr a2 b c2) ++ [AO.dct (encD tl Rr) false, AO.lst ((rows.filter fun row => decide ((setN row).length = m)).map tl) false, AO.lst (nl p) false, AO.lst (rows'.map tl) false]) :=
    evL_sortedL (w_ledlots (k := h.length) (kn := h.length + 2) N m7 (by simp) rfl rfl (by omega) (D1 _ _) (fl_get (F _) _ 2) ok len) (sort_keys ok' len')
  have s12 : evS G (callF G (n + 5)) (.set 12 (.new (.sorted (.l (.comp (.bq .tuple (.l (.sorted (.l (.comp (.ix (.var 9) (.var 7)) (.nm 7) (.q (.e (.var 5))) .nil [7]))))) (.nm 5) (.q (.e (.var 3))) .nil [5]))))) [some (.ref r), some (rowsD rows), some (.int m), some (.ref h.length), some (.int (few Rr : Nat)), o5, p6, p7, some (.ref (h.length + 1)), some (.ref (h.length + 2)), some (.ref (h.length + 3)), none, none, none, none, none, none, none] (h.set r (cr a2 b c2) ++ [AO.dct (encD tl Rr) false, AO.lst ((rows.filter fun row => decide ((setN row).length = m)).map tl) false, AO.lst (nl p) false, AO.lst (rows'.map tl) false]) = .nx [some (.ref r), some (rowsD rows), some (.int m), some (.ref h.length), some (.int (few Rr : Nat)), o5, p6, p7, some (.ref (h.length + 1)), some (.ref (h.length + 2)), some (.ref (h.length + 3)), none, some (.ref (h.length + 4)), none, none, none, none, none] (h.set r (cr a2 b c2) ++ T5) := by
    have := evS_set (i := 12) (evE_new c12)
    rw [LX, List.append_assoc] at this
    exact this
  -- 13
  have G3 : ∀ X : AO, (h.set r X ++ T5)[h.length + 3]? = some (AO.lst (rows'.map tl) false) := fun X => fl_get (F X) _ 3
  have G4 : ∀ X : AO, (h.set r X ++ T5)[h.length + 4]? = some (AO.lst ((sortO ((Rr.map (·.1)).map (img p))).map enc) false) := fun X => fl_get (F X) _ 4
  have tO : ∀ X : AO, evE G (callF G (n + 5)) (.bq .tuple (.e (.var 10))) [some (.ref r), some (rowsD rows), some (.int m), some (.ref h.length), some (.int (few Rr : Nat)), o5, p6, p7, some (.ref (h.length + 1)), some (.ref (h.length + 2)), some (.ref (h.length + 3)), none, some (.ref (h.length + 4)), none, none, none, none, none] (h.set r X ++ T5) = .ok (rowsD rows') (h.set r X ++ T5) := fun X => evE_bqE (evE_var rfl) (seq_lst (G3 X)) (bq_tuple _)
  have lm := least_mv (p := p) N ok
  have lmd : leastDv (mv (img p) Rr) = leastDv Rr := by unfold leastDv; rw [lm]
  have lw := w_leastword n (h.set r (cr a2 b c2) ++ T5) m rows' L' _ H'
  rw [lmd] at lw
  have s13 : evS G (callF G (n + 5)) (.ife (.or (.cmp .NotEq (.call 12 (.cons (.bq .tuple (.e (.var 10))) .nil)) (.bq .tuple (.e (.var 12)))) (.and (.cmp .Is (.call 11 (.cons (.bq .tuple (.e (.var 10))) .nil)) (.cst .non)) (.cmp .Eq (.var 4) (.cst (.int 1))))) (.cons (.ret (.cst (.bl false))) .nil) .nil) [some (.ref r), some (rowsD rows), some (.int m), some (.ref h.length), some (.int (few Rr : Nat)), o5, p6, p7, some (.ref (h.length + 1)), some (.ref (h.length + 2)), some (.ref (h.length + 3)), none, some (.ref (h.length + 4)), none, none, none, none, none] (h.set r (cr a2 b c2) ++ T5) = .nx [some (.ref r), some (rowsD rows), some (.int m), some (.ref h.length), some (.int (few Rr : Nat)), o5, p6, p7, some (.ref (h.length + 1)), some (.ref (h.length + 2)), some (.ref (h.length + 3)), none, some (.ref (h.length + 4)), none, none, none, none, none] (h.set r (cr a2 b c2) ++ T5) := by
    refine evS_no (evE_or2 (p := false) (q := false) (evE_cmp (x := keysT (mv (img p) Rr)) (y := .tup ((sortO ((Rr.map (·.1)).map (img p))).map enc)) (evE_call (evEs_1 (tO _)) (w_lots n _ m rows' L' _ H')) (evE_bqE (evE_var rfl) (seq_lst (G4 _)) (bq_tuple _)) ?_) (fun _ => ?_) (fun h => by cases h))
    · have e3 : keysT (mv (img p) Rr) = D.tup ((sortO ((Rr.map (·.1)).map (img p))).map enc) := by unfold keysT; rw [mv_keys]
      rw [cmp_ne, ← e3, keys_enc, cmpEq_self _ _ (by decide)]; rfl
    · have k2 := evE_and2 (G := G) (cl := (callF G (n + 5))) (p := decide (leastDv Rr = .non)) (q := decide (few Rr = 1)) (a := .cmp .Is (.call 11 (.cons (.bq .tuple (.e (.var 10))) .nil)) (.cst .non)) (b := .cmp .Eq (.var 4) (.cst (.int 1))) (ρ := [some (.ref r), some (rowsD rows), some (.int m), some (.ref h.length), some (.int (few Rr : Nat)), o5, p6, p7, some (.ref (h.length + 1)), some (.ref (h.length + 2)), some (.ref (h.length + 3)), none, some (.ref (h.length + 4)), none, none, none, none, none]) (h := (h.set r (cr a2 b c2) ++ T5)) (h1 := (h.set r (cr a2 b c2) ++ T5)) (h2 := (h.set r (cr a2 b c2) ++ T5)) (evE_cmp (evE_call (evEs_1 (tO _)) lw) (evE_cst _ _ _) (cmp_is _ _)) (fun _ => evE_cmp (evE_var rfl) (evE_cst _ _ _) (by
        rw [cmp_eq, cmpEq_int]
        exact congrArg some (decide_eq_decide.mpr (by omega)))) (fun _ => rfl)
      have k3 : (decide (leastDv Rr = .non) && decide (few Rr = 1)) = false := by
        by_cases q : few Rr = 1
        · have := one.mp q
          rw [decide_eq_false fun e => this ((least_non Rr).mp e)]; rfl
        · rw [decide_eq_false q, Bool.and_false]
      rw [k3] at k2
      exact k2
  -- 14
  have s14 : evS G (callF G (n + 5)) (.ife (.and (.cmp .Eq (.var 4) (.cst (.int 1))) (.cmp .NotEq (.bq .len (.e (.call 11 (.cons (.bq .tuple (.e (.var 10))) .nil)))) (.bq .len (.e (.call 11 (.cons (.var 1) .nil)))))) (.cons (.ret (.cst (.bl false))) .nil) .nil) [some (.ref r), some (rowsD rows), some (.int m), some (.ref h.length), some (.int (few Rr : Nat)), o5, p6, p7, some (.ref (h.length + 1)), some (.ref (h.length + 2)), some (.ref (h.length + 3)), none, some (.ref (h.length + 4)), none, none, none, none, none] (h.set r (cr a2 b c2) ++ T5) = .nx [some (.ref r), some (rowsD rows), some (.int m), some (.ref h.length), some (.int (few Rr : Nat)), o5, p6, p7, some (.ref (h.length + 1)), some (.ref (h.length + 2)), some (.ref (h.length + 3)), none, some (.ref (h.length + 4)), none, none, none, none, none] (h.set r (cr a2 b c2) ++ T5) := by
    have c1 : evE G (callF G (n + 5)) (.cmp .Eq (.var 4) (.cst (.int 1))) [some (.ref r), some (rowsD rows), some (.int m), some (.ref h.length), some (.int (few Rr : Nat)), o5, p6, p7, some (.ref (h.length + 1)), some (.ref (h.length + 2)), some (.ref (h.length + 3)), none, some (.ref (h.length + 4)), none, none, none, none, none] (h.set r (cr a2 b c2) ++ T5) = .ok (.bl (decide (few Rr = 1))) (h.set r (cr a2 b c2) ++ T5) := evE_cmp (evE_var rfl) (evE_cst _ _ _) (by
        rw [cmp_eq, cmpEq_int]
        exact congrArg some (decide_eq_decide.mpr (by omega)))
    have k2 := evE_and2 (q := false) (h2 := (h.set r (cr a2 b c2) ++ T5)) (b := .cmp .NotEq (.bq .len (.e (.call 11 (.cons (.bq .tuple (.e (.var 10))) .nil)))) (.bq .len (.e (.call 11 (.cons (.var 1) .nil))))) c1 (fun hq => by
      have q : few Rr = 1 := of_decide_eq_true hq
      obtain ⟨w, hw⟩ := Option.ne_none_iff_exists'.mp (one.mp q)
      have ew : leastDv Rr = tl w := by unfold leastDv; rw [hw]
      have k5 := w_leastword n (h.set r (cr a2 b c2) ++ T5) m rows L Rr H
      rw [ew] at lw k5
      exact evE_cmp (evE_bqE (x := tl w) (xs := nl w) (evE_call (evEs_1 (tO _)) lw) rfl (bq_len _)) (evE_bqE (x := tl w) (xs := nl w) (evE_call (evEs_1 (evE_var rfl)) k5) rfl (bq_len _)) (by rw [cmp_ne, cmpEq_int, decide_eq_true rfl]; rfl)) (fun _ => rfl)
    rw [Bool.and_false] at k2
    exact evS_no k2
  -- 15
  obtain ⟨vs, a3, c3, vl, vb, q5, q6, e5⟩ := w_row (n + 4) (h.set r (cr a2 b c2) ++ T5) r a2 b c2 m [some (.ref r), some (rowsD rows), some (.int m), some (.ref h.length), some (.int (few Rr : Nat)), o5, p6, p7, some (.ref (h.length + 1)), some (.ref (h.length + 2)), some (.ref (h.length + 3)), none, some (.ref (h.length + 4)), none, none, none, none, none] rfl rfl (GX _ _ _) m1 (by omega) q3 (by omega) hb hb2
  rw [SX] at e5
  have L2 : Lev m (rows ++ [vs]) := ⟨m1, m7, by simp, by simp; omega, fun row hrow => by
    rcases List.mem_append.mp hrow with h1 | h1
    · exact L.ok row h1
    · rw [List.mem_singleton.mp h1]; exact ⟨vl, vb⟩⟩
  obtain ⟨R2, H2⟩ := bfs_some m7 m1 L2.ok
  have H2 : Run m (rows ++ [vs]) R2 := H2
  obtain ⟨fle, sub⟩ := law_more L H L2 H2
  have s15a : evS G (callF G (n + 5)) (.ife (.cmp .Lt (.bq .len (.e (.var 1))) (.cst (.int 4))) (.cons (.set 13 (.bin .Add (.var 1) (.tup (.cons (.bq .tuple (.l (.comp (.call 16 (.cons (.var 0) (.cons (.var 2) .nil))) (.nm 7) (.rng1 (.var 2)) .nil [7]))) .nil)))) (.cons (.ife (.or (.cmp .Gt (.call 13 (.cons (.var 13) .nil)) (.var 4)) (.cmpL .NotEq (.new (.comp (.var 5) (.nm 5) (.q (.e (.var 3))) (.cons (.cmp .NotIn (.var 5) (.call 12 (.cons (.var 13) .nil))) .nil) [5])) (.disp .nil))) (.cons (.ret (.cst (.bl false))) .nil) .nil) .nil)) .nil) [some (.ref r), some (rowsD rows), some (.int m), some (.ref h.length), some (.int (few Rr : Nat)), o5, p6, p7, some (.ref (h.length + 1)), some (.ref (h.length + 2)), some (.ref (h.length + 3)), none, some (.ref (h.length + 4)), none, none, none, none, none] (h.set r (cr a2 b c2) ++ T5) = .nx [some (.ref r), some (rowsD rows), some (.int m), some (.ref h.length), some (.int (few Rr : Nat)), o5, p6, p7, some (.ref (h.length + 1)), some (.ref (h.length + 2)), some (.ref (h.length + 3)), none, some (.ref (h.length + 4)), some (rowsD (rows ++ [vs])), none, none, none, none] (h.set r (cr a3 b c3) ++ T5 ++ [AO.lst [] false]) := by
    have c1 : evE G (callF G (n + 5)) (.cmp .Lt (.bq .len (.e (.var 1))) (.cst (.int 4))) [some (.ref r), some (rowsD rows), some (.int m), some (.ref h.length), some (.int (few Rr : Nat)), o5, p6, p7, some (.ref (h.length + 1)), some (.ref (h.length + 2)), some (.ref (h.length + 3)), none, some (.ref (h.length + 4)), none, none, none, none, none] (h.set r (cr a2 b c2) ++ T5) = .ok (.bl true) (h.set r (cr a2 b c2) ++ T5) := evE_cmp (evE_bqE (x := rowsD rows) (xs := rows.map tl) (evE_var rfl) rfl (bq_len _)) (evE_cst _ _ _) (by rw [cmp_lt, List.length_map, decide_eq_true (by omega)])
    refine (evS_ifT c1).trans ?_
    have b1 : binD .Add (rowsD rows) (.tup [tl vs]) = some (rowsD (rows ++ [vs])) := by
      unfold rowsD
      rw [binD_addT, if_pos (by rw [List.length_map]; exact szt _ (by simp; omega))]
      simp
    have t1 := evS_set (G := G) (cl := (callF G (n + 5))) (i := 13) (e := .bin .Add (.var 1) (.tup (.cons (.bq .tuple (.l (.comp (.call 16 (.cons (.var 0) (.cons (.var 2) .nil))) (.nm 7) (.rng1 (.var 2)) .nil [7]))) .nil))) (ρ := [some (.ref r), some (rowsD rows), some (.int m), some (.ref h.length), some (.int (few Rr : Nat)), o5, p6, p7, some (.ref (h.length + 1)), some (.ref (h.length + 2)), some (.ref (h.length + 3)), none, some (.ref (h.length + 4)), none, none, none, none, none]) (evE_bin (evE_var rfl) (evE_tup (evEs_1 (evE_bqL e5 (bq_tuple _))) (szt 1 (by omega))) b1)
    refine (evSs_cons t1).trans ?_
    have F3 := w_filter (cl := (callF G (n + 5))) (c := .cmp .NotIn (.var 5) (.call 12 (.cons (.var 13) .nil))) (ρ := [some (.ref r), some (rowsD rows), some (.int m), some (.ref h.length), some (.int (few Rr : Nat)), o5, p6, p7, some (.ref (h.length + 1)), some (.ref (h.length + 2)), some (.ref (h.length + 3)), none, some (.ref (h.length + 4)), some (rowsD (rows ++ [vs])), none, none, none, none]) (h := (h.set r (cr a3 b c3) ++ T5)) (k := h.length) (Rr := Rr) (p := fun _ => false) (by simp) rfl (D1 _ _) len (fun q hq => by
      refine evE_cmp (x := enc q.1) (y := .tup ((sortO (R2.map (·.1))).map enc)) (evE_var rfl) (evE_call (evEs_1 (evE_var rfl)) (w_lots n _ m (rows ++ [vs]) L2 R2 H2)) ?_
      rw [cmp_nin, cmpIn_tup, seqIn_tup _ _ _ (by decide), decide_eq_true ((sortO_mem _ _).mpr (sub q hq))]; rfl)
    have F4 : (List.filter (fun _ => false) (Rr.map (·.1))).map (enc : Lot → D) = [] := by simp
    rw [F4] at F3
    have lenT : (h.set r (cr a3 b c3) ++ T5).length = h.length + 5 := by rw [LX]; rfl
    have c2 : evE G (callF G (n + 5)) (.cmpL .NotEq (.new (.comp (.var 5) (.nm 5) (.q (.e (.var 3))) (.cons (.cmp .NotIn (.var 5) (.call 12 (.cons (.var 13) .nil))) .nil) [5])) (.disp .nil)) [some (.ref r), some (rowsD rows), some (.int m), some (.ref h.length), some (.int (few Rr : Nat)), o5, p6, p7, some (.ref (h.length + 1)), some (.ref (h.length + 2)), some (.ref (h.length + 3)), none, some (.ref (h.length + 4)), some (rowsD (rows ++ [vs])), none, none, none, none] (h.set r (cr a3 b c3) ++ T5) = .ok (.bl false) (h.set r (cr a3 b c3) ++ T5 ++ [AO.lst [] false]) := by
      refine evE_cmpL (evE_new F3) (evL_disp (evEs_nil _ _) (Nat.zero_le _)) ?_
      rw [cmp_ne, cmpEq_lst (α := Lot) _ _ _ false false [] [] ?_ (get_app0 _ _) (by decide)]
      · rfl
      · rw [List.append_assoc]; exact get_app0 _ _
    refine (evSs_cons (evS_no (evE_or2 (p := false) (q := false) (evE_cmp (x := .int (few R2 : Nat)) (y := .int (few Rr : Nat)) (evE_call (evEs_1 (evE_var rfl)) (w_rank n _ m (rows ++ [vs]) L2 R2 H2)) (evE_var rfl) ?_) (fun _ => c2) (fun h => by cases h)))).trans ?_
    · rw [cmp_gt, decide_eq_false (by omega)]
    · exact evSs_nil _ _
  -- 16
  let T6 : AH := T5 ++ [AO.lst [] false]
  have A6 : h.set r (cr a3 b c3) ++ T5 ++ [AO.lst [] false] = h.set r (cr a3 b c3) ++ T6 := List.append_assoc _ _ _
  rw [A6] at s15a
  obtain ⟨s, a4, c4, z0, z1, q7, q8, e6⟩ := w_ladle (n + 4) (h.set r (cr a3 b c3) ++ T6) r a3 b c3 6 (GX _ _ _) (by omega) (by omega) q5 (by omega) hb hb2
  obtain ⟨s, rfl⟩ := Int.eq_ofNat_of_zero_le z0
  rw [SX] at e6
  have hs2 : 2 ≤ 2 + s := by omega
  have hs7 : 2 + s ≤ 7 := by omega
  obtain ⟨R3, w, H3, ew, wl, wb, wfin⟩ := cerny_of hs2 hs7
  have L3 := cerny_lev hs2 hs7
  have ew2 : leastDv R3 = tl w := by unfold leastDv; rw [ew]
  refine ⟨a4, c4, q7, by omega, ?_⟩
  rw [callF_succ (F := ⟨1, 18, c__law_right⟩) rfl rfl]
  have flT : Fl h (h.set r (cr a4 b c4)) := (Fl.refl h).set rfl
  have fin := ret_fla (h := h) (h' := h.set r (cr a4 b c4)) (t := T6) (d := D.bl true) flT rfl
  rw [← fin]
  refine congrArg (R.ret h) ?_
  show RS.fin (evSs G (callF G (n + 5)) c__law_right [some (.ref r), none, none, none, none, none, none, none, none, none, none, none, none, none, none, none, none, none] h) = _
  have s16 : evS G (callF G (n + 5)) (.set 14 (.bin .Add (.cst (.int 2)) (.call 16 (.cons (.var 0) (.cons (.cst (.int 6)) .nil))))) [some (.ref r), some (rowsD rows), some (.int m), some (.ref h.length), some (.int (few Rr : Nat)), o5, p6, p7, some (.ref (h.length + 1)), some (.ref (h.length + 2)), some (.ref (h.length + 3)), none, some (.ref (h.length + 4)), some (rowsD (rows ++ [vs])), none, none, none, none] (h.set r (cr a3 b c3) ++ T6) = .nx [some (.ref r), some (rowsD rows), some (.int m), some (.ref h.length), some (.int (few Rr : Nat)), o5, p6, p7, some (.ref (h.length + 1)), some (.ref (h.length + 2)), some (.ref (h.length + 3)), none, some (.ref (h.length + 4)), some (rowsD (rows ++ [vs])), some (.int ((2 + s : Nat) : Int)), none, none, none] (h.set r (cr a4 b c4) ++ T6) := evS_set (evE_bin (evE_cst _ _ _) (evE_call (evEs_cons rfl (evEs_1 rfl)) e6) (by rw [binD_add]; exact congrArg (fun z => some (D.int z)) (by omega)))
  have s17 : evS G (callF G (n + 5)) (.set 15 (.call 14 (.cons (.var 14) .nil))) [some (.ref r), some (rowsD rows), some (.int m), some (.ref h.length), some (.int (few Rr : Nat)), o5, p6, p7, some (.ref (h.length + 1)), some (.ref (h.length + 2)), some (.ref (h.length + 3)), none, some (.ref (h.length + 4)), some (rowsD (rows ++ [vs])), some (.int ((2 + s : Nat) : Int)), none, none, none] (h.set r (cr a4 b c4) ++ T6) = .nx [some (.ref r), some (rowsD rows), some (.int m), some (.ref h.length), some (.int (few Rr : Nat)), o5, p6, p7, some (.ref (h.length + 1)), some (.ref (h.length + 2)), some (.ref (h.length + 3)), none, some (.ref (h.length + 4)), some (rowsD (rows ++ [vs])), some (.int ((2 + s : Nat) : Int)), some (rowsD [turned (2 + s), pulled (2 + s)]), none, none] (h.set r (cr a4 b c4) ++ T6) := evS_set (evE_call (evEs_1 rfl) (w_cerny (n + 2) _ (2 + s) hs2 hs7))
  have c18 : evL G (callF G (n + 5)) (.comp (.bin .Mod (.b1 .int (.bin .Add (.var 7) (.cst (.int 1)))) (.var 14)) (.nm 7) (.rng1 (.var 14)) .nil [7]) [some (.ref r), some (rowsD rows), some (.int m), some (.ref h.length), some (.int (few Rr : Nat)), o5, p6, p7, some (.ref (h.length + 1)), some (.ref (h.length + 2)), some (.ref (h.length + 3)), none, some (.ref (h.length + 4)), some (rowsD (rows ++ [vs])), some (.int ((2 + s : Nat) : Int)), some (rowsD [turned (2 + s), pulled (2 + s)]), none, none] (h.set r (cr a4 b c4) ++ T6) = .ok (nl (turned (2 + s))) (h.set r (cr a4 b c4) ++ T6) := by
    refine evL_comp (evI_rng1 (n := 2 + s) (evE_var rfl) (by omega)) rfl ?_
    rw [show nl (turned (2 + s)) = (List.range (2 + s)).map fun i : Nat => D.int (((i + 1) % (2 + s) : Nat) : Int) by simp [nl, turned, List.map_map]]
    refine compGo_map (e := fun i : Nat => D.int (i : Int)) rfl (fun i hi => ?_) (by rw [List.length_range]; exact szt _ (by omega))
    rw [asg_own]
    show (evE G _ _ [some (.ref r), some (rowsD rows), some (.int m), some (.ref h.length), some (.int (few Rr : Nat)), o5, p6, some (.int (i : Int)), some (.ref (h.length + 1)), some (.ref (h.length + 2)), some (.ref (h.length + 3)), none, some (.ref (h.length + 4)), some (rowsD (rows ++ [vs])), some (.int ((2 + s : Nat) : Int)), some (rowsD [turned (2 + s), pulled (2 + s)]), none, none] _).bind _ = _
    have b0 : evE G (callF G (n + 5)) (.b1 .int (.bin .Add (.var 7) (.cst (.int 1)))) [some (.ref r), some (rowsD rows), some (.int m), some (.ref h.length), some (.int (few Rr : Nat)), o5, p6, some (.int (i : Int)), some (.ref (h.length + 1)), some (.ref (h.length + 2)), some (.ref (h.length + 3)), none, some (.ref (h.length + 4)), some (rowsD (rows ++ [vs])), some (.int ((2 + s : Nat) : Int)), some (rowsD [turned (2 + s), pulled (2 + s)]), none, none] (h.set r (cr a4 b c4) ++ T6) = .ok (.int ((i : Int) + 1)) (h.set r (cr a4 b c4) ++ T6) := rfl
    rw [evE_bin (d := .int (((i + 1) % (2 + s) : Nat) : Int)) b0 (evE_var rfl) (by rw [binD_mod, if_pos (by omega)]; simp)]
    rfl
  have s18 := evS_set (i := 16) (evE_bqL c18 (bq_tuple _))
  have s18 : evS G (callF G (n + 5)) (.set 16 (.bq .tuple (.l (.comp (.bin .Mod (.b1 .int (.bin .Add (.var 7) (.cst (.int 1)))) (.var 14)) (.nm 7) (.rng1 (.var 14)) .nil [7])))) [some (.ref r), some (rowsD rows), some (.int m), some (.ref h.length), some (.int (few Rr : Nat)), o5, p6, p7, some (.ref (h.length + 1)), some (.ref (h.length + 2)), some (.ref (h.length + 3)), none, some (.ref (h.length + 4)), some (rowsD (rows ++ [vs])), some (.int ((2 + s : Nat) : Int)), some (rowsD [turned (2 + s), pulled (2 + s)]), none, none] (h.set r (cr a4 b c4) ++ T6) = .nx [some (.ref r), some (rowsD rows), some (.int m), some (.ref h.length), some (.int (few Rr : Nat)), o5, p6, p7, some (.ref (h.length + 1)), some (.ref (h.length + 2)), some (.ref (h.length + 3)), none, some (.ref (h.length + 4)), some (rowsD (rows ++ [vs])), some (.int ((2 + s : Nat) : Int)), some (rowsD [turned (2 + s), pulled (2 + s)]), some (tl (turned (2 + s))), none] (h.set r (cr a4 b c4) ++ T6) := s18
  have s19 : evS G (callF G (n + 5)) (.ife (.cmp .NotEq (.var 15) (.tup (.cons (.var 16) (.cons (.bq .tuple (.l (.catL (.range (.rng1 (.bin .Sub (.var 14) (.cst (.int 1))))) (.l (.disp (.cons (.cst (.int 0)) .nil)))))) .nil)))) (.cons (.ret (.cst (.bl false))) .nil) .nil) [some (.ref r), some (rowsD rows), some (.int m), some (.ref h.length), some (.int (few Rr : Nat)), o5, p6, p7, some (.ref (h.length + 1)), some (.ref (h.length + 2)), some (.ref (h.length + 3)), none, some (.ref (h.length + 4)), some (rowsD (rows ++ [vs])), some (.int ((2 + s : Nat) : Int)), some (rowsD [turned (2 + s), pulled (2 + s)]), some (tl (turned (2 + s))), none] (h.set r (cr a4 b c4) ++ T6) = .nx [some (.ref r), some (rowsD rows), some (.int m), some (.ref h.length), some (.int (few Rr : Nat)), o5, p6, p7, some (.ref (h.length + 1)), some (.ref (h.length + 2)), some (.ref (h.length + 3)), none, some (.ref (h.length + 4)), some (rowsD (rows ++ [vs])), some (.int ((2 + s : Nat) : Int)), some (rowsD [turned (2 + s), pulled (2 + s)]), some (tl (turned (2 + s))), none] (h.set r (cr a4 b c4) ++ T6) := by
    have ct : evL G (callF G (n + 5)) (.catL (.range (.rng1 (.bin .Sub (.var 14) (.cst (.int 1))))) (.l (.disp (.cons (.cst (.int 0)) .nil)))) [some (.ref r), some (rowsD rows), some (.int m), some (.ref h.length), some (.int (few Rr : Nat)), o5, p6, p7, some (.ref (h.length + 1)), some (.ref (h.length + 2)), some (.ref (h.length + 3)), none, some (.ref (h.length + 4)), some (rowsD (rows ++ [vs])), some (.int ((2 + s : Nat) : Int)), some (rowsD [turned (2 + s), pulled (2 + s)]), some (tl (turned (2 + s))), none] (h.set r (cr a4 b c4) ++ T6) = .ok (nl (pulled (2 + s))) (h.set r (cr a4 b c4) ++ T6) := by
      have := evL_catL (cl := (callF G (n + 5))) (ρ := [some (.ref r), some (rowsD rows), some (.int m), some (.ref h.length), some (.int (few Rr : Nat)), o5, p6, p7, some (.ref (h.length + 1)), some (.ref (h.length + 2)), some (.ref (h.length + 3)), none, some (.ref (h.length + 4)), some (rowsD (rows ++ [vs])), some (.int ((2 + s : Nat) : Int)), some (rowsD [turned (2 + s), pulled (2 + s)]), some (tl (turned (2 + s))), none]) (h := (h.set r (cr a4 b c4) ++ T6)) (evL_range (evI_rng1 (n := 2 + s - 1) (a := .bin .Sub (.var 14) (.cst (.int 1))) (evE_bin (evE_var rfl) (evE_cst _ _ _) (by rw [binD_sub]; exact congrArg (fun z => some (D.int z)) (by omega))) (by omega)) (by rw [rg_len]; exact szt _ (by omega))) (evL_disp (evEs_1 (evE_cst (.int 0) _ _)) (szt 1 (by omega))) (by rw [rg_len]; exact szt _ (by simp; omega))
      rw [this]
      simp [nl, pulled]
    refine evS_no (evE_cmp (x := rowsD [turned (2 + s), pulled (2 + s)]) (y := rowsD [turned (2 + s), pulled (2 + s)]) (evE_var rfl) (evE_tup (evEs_cons (evE_var rfl) (evEs_1 (evE_bqL ct (bq_tuple _)))) (szt 2 (by omega))) ?_)
    have er : rowsD [turned (2 + s), pulled (2 + s)] = enc (⟨[⟨turned (2 + s)⟩, ⟨pulled (2 + s)⟩]⟩ : Tup (Tup Nat)) := rfl
    rw [cmp_ne, er, cmpEq_self _ _ (by decide)]; rfl
  have k20 := w_leastword n (h.set r (cr a4 b c4) ++ T6) (2 + s) [turned (2 + s), pulled (2 + s)] L3 R3 H3
  rw [ew2] at k20
  have s20 : evS G (callF G (n + 5)) (.set 17 (.call 11 (.cons (.var 15) .nil))) [some (.ref r), some (rowsD rows), some (.int m), some (.ref h.length), some (.int (few Rr : Nat)), o5, p6, p7, some (.ref (h.length + 1)), some (.ref (h.length + 2)), some (.ref (h.length + 3)), none, some (.ref (h.length + 4)), some (rowsD (rows ++ [vs])), some (.int ((2 + s : Nat) : Int)), some (rowsD [turned (2 + s), pulled (2 + s)]), some (tl (turned (2 + s))), none] (h.set r (cr a4 b c4) ++ T6) = .nx [some (.ref r), some (rowsD rows), some (.int m), some (.ref h.length), some (.int (few Rr : Nat)), o5, p6, p7, some (.ref (h.length + 1)), some (.ref (h.length + 2)), some (.ref (h.length + 3)), none, some (.ref (h.length + 4)), some (rowsD (rows ++ [vs])), some (.int ((2 + s : Nat) : Int)), some (rowsD [turned (2 + s), pulled (2 + s)]), some (tl (turned (2 + s))), some (tl w)] (h.set r (cr a4 b c4) ++ T6) := evS_set (evE_call (evEs_1 rfl) k20)
  have wl60 : w.length ≤ 60 := by
    rw [wl]
    have : 2 + s - 1 ≤ 6 := by omega
    exact Nat.le_trans (Nat.mul_le_mul this this) (by omega)
  have lg : (ledN [turned (2 + s), pulled (2 + s)] w (2 + s)).length < 64 := by
    have : ∀ (ws : List Nat) (f : List Nat), (∀ a ∈ ws, a < 2) → (f.length = 2 + s ∧ ∀ v ∈ f, v < 2 + s) → (ws.foldl (step1 [turned (2 + s), pulled (2 + s)]) f).length = 2 + s := by
      intro ws
      induction ws with
      | nil => intro f _ h; exact h.1
      | cons a ws ih => intro f h1 h2; exact ih _ (fun b hb => h1 b (List.mem_cons_of_mem _ hb)) (step1_ok L3 (h1 a (List.mem_cons_self ..)) h2)
    have := this w (List.range (2 + s)) wb ⟨List.length_range, fun v hv => List.mem_range.mp hv⟩
    unfold ledN
    omega
  have s21 : evE G (callF G (n + 5)) (.and (.cmp .Eq (.bq .len (.e (.var 17))) (.bin .Mult (.bin .Sub (.var 14) (.cst (.int 1))) (.bin .Sub (.var 14) (.cst (.int 1))))) (.cmp .Eq (.lenS (.e (.call 10 (.cons (.var 15) (.cons (.var 17) .nil))))) (.cst (.int 1)))) [some (.ref r), some (rowsD rows), some (.int m), some (.ref h.length), some (.int (few Rr : Nat)), o5, p6, p7, some (.ref (h.length + 1)), some (.ref (h.length + 2)), some (.ref (h.length + 3)), none, some (.ref (h.length + 4)), some (rowsD (rows ++ [vs])), some (.int ((2 + s : Nat) : Int)), some (rowsD [turned (2 + s), pulled (2 + s)]), some (tl (turned (2 + s))), some (tl w)] (h.set r (cr a4 b c4) ++ T6) = .ok (.bl true) (h.set r (cr a4 b c4) ++ T6) := by
    have m0 : evE G (callF G (n + 5)) (.bin .Mult (.bin .Sub (.var 14) (.cst (.int 1))) (.bin .Sub (.var 14) (.cst (.int 1)))) [some (.ref r), some (rowsD rows), some (.int m), some (.ref h.length), some (.int (few Rr : Nat)), o5, p6, p7, some (.ref (h.length + 1)), some (.ref (h.length + 2)), some (.ref (h.length + 3)), none, some (.ref (h.length + 4)), some (rowsD (rows ++ [vs])), some (.int ((2 + s : Nat) : Int)), some (rowsD [turned (2 + s), pulled (2 + s)]), some (tl (turned (2 + s))), some (tl w)] (h.set r (cr a4 b c4) ++ T6) = .ok (.int (((2 + s - 1) * (2 + s - 1) : Nat) : Int)) (h.set r (cr a4 b c4) ++ T6) := by
      have b1 : evE G (callF G (n + 5)) (.bin .Sub (.var 14) (.cst (.int 1))) [some (.ref r), some (rowsD rows), some (.int m), some (.ref h.length), some (.int (few Rr : Nat)), o5, p6, p7, some (.ref (h.length + 1)), some (.ref (h.length + 2)), some (.ref (h.length + 3)), none, some (.ref (h.length + 4)), some (rowsD (rows ++ [vs])), some (.int ((2 + s : Nat) : Int)), some (rowsD [turned (2 + s), pulled (2 + s)]), some (tl (turned (2 + s))), some (tl w)] (h.set r (cr a4 b c4) ++ T6) = .ok (.int ((2 + s - 1 : Nat) : Int)) (h.set r (cr a4 b c4) ++ T6) := evE_bin (evE_var rfl) (evE_cst _ _ _) (by rw [binD_sub]; exact congrArg (fun z => some (D.int z)) (by omega))
      refine evE_bin b1 b1 ?_
      have lb : ((2 + s - 1 : Nat) : Int).natAbs.log2 < 4 := log_lt (by omega) (by omega) (by omega)
      rw [binD_mul, if_pos (by omega)]
      exact congrArg (fun z => some (D.int z)) (by rw [Int.natCast_mul])
    have qs : evQ G (callF G (n + 5)) .q (.e (.call 10 (.cons (.var 15) (.cons (.var 17) .nil)))) [some (.ref r), some (rowsD rows), some (.int m), some (.ref h.length), some (.int (few Rr : Nat)), o5, p6, p7, some (.ref (h.length + 1)), some (.ref (h.length + 2)), some (.ref (h.length + 3)), none, some (.ref (h.length + 4)), some (rowsD (rows ++ [vs])), some (.int ((2 + s : Nat) : Int)), some (rowsD [turned (2 + s), pulled (2 + s)]), some (tl (turned (2 + s))), some (tl w)] (h.set r (cr a4 b c4) ++ T6) = .ok (nl (ledN [turned (2 + s), pulled (2 + s)] w (2 + s))) (h.set r (cr a4 b c4) ++ T6) := by
      unfold evQ
      rw [evE_call (evEs_cons (evE_var rfl) (evEs_1 (evE_var rfl))) (w_led n _ (2 + s) [turned (2 + s), pulled (2 + s)] L3 w wb wl60)]
      rfl
    refine evE_and2 (p := true) (q := true) (evE_cmp (evE_bqE (x := tl w) (xs := nl w) (evE_var rfl) rfl (bq_len _)) m0 ?_) (fun _ => evE_cmp (evE_lenS qs lg) (evE_cst _ _ _) ?_) (fun h => by cases h)
    · rw [cmp_eq, cmpEq_int, nl_len, wl, decide_eq_true rfl]
    · rw [cmp_eq, cmpEq_int, wfin]; rfl
  unfold c__law_right
  refine (congrArg RS.fin ((evSs_cons s1).trans ((evSs_cons s2).trans ((evSs_cons s3).trans ((evSs_cons s4).trans ((evSs_cons s5).trans ((evSs_cons s6).trans ((evSs_cons s7).trans ((evSs_cons s8).trans ((evSs_cons s9).trans ((evSs_cons s10).trans ((evSs_cons s11).trans ((evSs_cons s12).trans ((evSs_cons s13).trans ((evSs_cons s14).trans ((evSs_cons s15a).trans ((evSs_cons s16).trans ((evSs_cons s17).trans ((evSs_cons s18).trans ((evSs_cons s19).trans ((evSs_cons s20).trans (evSs_ret s21)))))))))))))))))))))).trans ?_
  rfl
end K78
set_option Elab.async false
set_option linter.all false
set_option maxRecDepth 100000
set_option maxHeartbeats 4000000
namespace K78
open PySem PySem.W Rw En PBfs
def pullR : List (List Nat) := [[1, 2, 0], [0, 1, 0]]
def swapR : List (List Nat) := [[1, 0]]
def Rp : List (Lot × List Nat) := (bfs (fns pullR) 200 [(whole 3, [])] 0).getD []
def Rs : List (Lot × List Nat) := (bfs (fns swapR) 200 [(whole 2, [])] 0).getD []
theorem run_p : Run 3 pullR Rp := by unfold Run; decide +kernel
theorem run_s : Run 2 swapR Rs := by unfold Run; decide +kernel
theorem lev_p : Lev 3 pullR := ⟨by omega, by omega, by decide, by decide, by unfold okRows; decide⟩
theorem lev_s : Lev 2 swapR := ⟨by omega, by omega, by decide, by decide, by unfold okRows; decide⟩
theorem few_p : few Rp = 1 := by decide +kernel
theorem few_s : few Rs = 2 := by decide +kernel
theorem keys_p : keysT Rp = .tup [.tup [.int 0], .tup [.int 0, .int 1], .tup [.int 0, .int 1, .int 2], .tup [.int 0, .int 2], .tup [.int 1], .tup [.int 1, .int 2], .tup [.int 2]] := by decide +kernel
theorem keys_s : keysT Rs = .tup [.tup [.int 0, .int 1]] := by decide +kernel
theorem cern3 : rowsD [turned 3, pulled 3] = rowsD pullR := by decide +kernel
def X4 : List D := [.int 1, .int 2, .tup [.tup [.int 0, .int 1]], .bl true]
theorem eq_X4 (h : AH) (i j : Nat) (hi : h[i]? = some (.lst X4 false)) (hj : h[j]? = some (.lst X4 false)) : cmpEq h (.ref i) (.ref j) = some true := by
  have k : ∀ i : Nat, h[i]? = some (.lst X4 false) → D.pd h 60 (.ref i) = some (.list [.int 1, .int 2, .tuple [.tuple [.int 0, .int 1]], .bool true]) := fun i hi => by
    show (match h[i]? with | some (.lst xs _) => (xs.mapM (D.pd h 59)).map PyData.list | _ => none) = _
    rw [hi]
    rfl
  unfold cmpEq
  rw [k i hi, k j hj]
  show (if _ then _ else _) = _
  rw [if_pos (by decide), PySem.SeqAt.eqv_refl_plain _ (by rfl)]
theorem lawrun (ns : List Int) : ∃ h', callF G 20 21 [.ref 0] [.lst (ns.map D.int) true] = .ok (.bl true) h' := by
  let h : AH := [.lst (ns.map D.int) true]
  have h0 : h[0]? = some (.lst (ns.map D.int) true) := rfl
  have sq : seqD .k h (.ref 0) = some (ns.map D.int) := by simp [seqD, h]
  let k : Nat := Nat.max 1 (Nat.min 3 ns.length)
  have hk1 : k = max 1 (min 3 ns.length) := rfl
  have e1 : evE G (callF G 19) (.b2 .max (.cst (.int 1)) (.b2 .min (.cst (.int 3)) (.bq .len (.e (.var 0))))) [some (.ref 0), none, none, none, none, none] h = .ok (.int (k : Nat)) h := by
    unfold evE
    rw [evE_cst, bind_ok]
    unfold evE
    rw [evE_cst, bind_ok]
    unfold evE
    unfold evQ
    rw [evE_var rfl, bind_ok, sq, opt_some, bind_ok, bq_len, opt_some, bind_ok, b2_min, opt_some, bind_ok, b2_max, opt_some, List.length_map]
    refine congrArg (fun z => R.ok (D.int z) h) ?_
    rw [hk1]
    split <;> split at * <;> omega
  have ei : evI G (callF G 19) (.rng1 (.b2 .max (.cst (.int 1)) (.b2 .min (.cst (.int 3)) (.bq .len (.e (.var 0)))))) [some (.ref 0), none, none, none, none, none] h = .ok (nl (List.range k), []) h := evI_rng1 e1 (by omega)
  obtain ⟨ρ', h', e3, rfl, rfl, _⟩ := evS_fore (G := G) (cl := callF G 19) (tg := .nm 1) (body := l_law_2) (kill := [1, 2, 3]) (I := fun rem ρ h2 => ρ = [some (.ref 0), none, none, none, none, none] ∧ h2 = h ∧ ∃ ps : List Nat, rem = nl ps ∧ ∀ i ∈ ps, i < 3) ei rfl (fun _ _ _ _ => rfl) (by
      rintro x rem ρ h2 ⟨rfl, rfl, ps, e1, hps⟩
      cases ps with
      | nil => cases e1
      | cons i ps =>
        have e2 : x = .int (i : Int) ∧ rem = nl ps := by
          have : x :: rem = .int (i : Int) :: nl ps := e1
          injection this with e5 e6
          exact ⟨e5, e6⟩
        obtain ⟨rfl, rfl⟩ := e2
        have hi := hps i (List.mem_cons_self ..)
        obtain ⟨a, b, hb, hb2, ec⟩ := w_crock 18 h ns i h0 (by omega)
        have s1 : evS G (callF G 19) (.set 2 (.call 15 (.cons (.var 0) (.cons (.var 1) .nil)))) [some (.ref 0), some (.int (i : Int)), none, none, none, none] h = .nx [some (.ref 0), some (.int (i : Int)), some (.ref 1), none, none, none] (h ++ [cr a b 0]) := evS_set (evE_call (evEs_cons rfl (evEs_1 rfl)) ec)
        have ei2 : evI G (callF G 19) (.rng1 (.cst (.int 4))) [some (.ref 0), some (.int (i : Int)), some (.ref 1), none, none, none] (h ++ [cr a b 0]) = .ok (nl (List.range 4), []) (h ++ [cr a b 0]) := evI_rng1 (n := 4) (evE_cst _ _ _) (by omega)
        obtain ⟨ρ', h', e4, rfl, a', c', _, _, rfl⟩ := evS_fore (G := G) (cl := callF G 19) (tg := .nm 3) (body := l_law_1) (kill := [3]) (I := fun rem ρ h2 => ρ = [some (.ref 0), some (.int (i : Int)), some (.ref 1), none, none, none] ∧ ∃ a' c' : Int, 0 ≤ c' ∧ c' + 400 * rem.length ≤ 1600 ∧ h2 = h ++ [cr a' b c']) ei2 rfl (fun _ _ _ _ => rfl) (by
          rintro x rem ρ h2 ⟨rfl, a', c', hc0, hc1, rfl⟩
          simp only [List.length_cons] at hc1
          obtain ⟨a2, c2, q1, q2, er⟩ := w_right 13 (h ++ [cr a' b c']) 1 a' b c' rfl hc0 (by omega) hb hb2
          have er2 : callF G 19 20 [.ref 1] (h ++ [cr a' b c']) = .ok (.bl true) (h ++ [cr a2 b c2]) := er
          refine ⟨_, [some (.ref 0), some (.int (i : Int)), some (.ref 1), none, none, none], h ++ [cr a2 b c2], rfl, ?_, rfl, a2, c2, q1, by omega, rfl⟩
          unfold l_law_1
          refine (congrArg (RS.gc _ _) ((evSs_cons (evS_no (evE_not (p := true) (evE_call (evEs_1 rfl) er2)))).trans (evSs_nil _ _))).trans ?_
          refine (gc_fl ((Fl.refl h).app (Fl.cons .nil rfl)) ?_).trans rfl
          simp only [wipeS, List.set_cons_succ, List.set_cons_zero]
          show StU _ _
          (repeat' (first | exact stU_nil _ | refine stU_none ?_ | refine stU_some ?_ ?_)); all_goals rfl) ⟨rfl, a, 0, by omega, by rw [nl_len, List.length_range]; omega, rfl⟩
        refine ⟨_, [some (.ref 0), none, none, none, none, none], h, rfl, ?_, rfl, rfl, ps, rfl, fun j hj => hps j (List.mem_cons_of_mem _ hj)⟩
        unfold l_law_2
        refine (congrArg (RS.gc _ _) ((evSs_cons s1).trans ((evSs_cons e4).trans (evSs_nil _ _)))).trans ?_
        refine (gc_fla (Fl.refl h) ?_).trans rfl
        simp only [wipeS, List.set_cons_succ, List.set_cons_zero]
        show StU _ _
        (repeat' (first | exact stU_nil _ | refine stU_none ?_ | refine stU_some ?_ ?_)); all_goals rfl) ⟨rfl, rfl, List.range k, rfl, fun i hi => by have := List.mem_range.mp hi; omega⟩
  have s2 : evS G (callF G 19) (.par [4, 5] (.cons (.tup (.cons (.tup (.cons (.cst (.int 1)) (.cons (.cst (.int 2)) (.cons (.cst (.int 0)) .nil)))) (.cons (.tup (.cons (.cst (.int 0)) (.cons (.cst (.int 1)) (.cons (.cst (.int 0)) .nil)))) .nil))) (.cons (.tup (.cons (.tup (.cons (.cst (.int 1)) (.cons (.cst (.int 0)) .nil))) .nil)) .nil))) [some (.ref 0), none, none, none, none, none] h = .nx [some (.ref 0), none, none, none, some (rowsD pullR), some (rowsD swapR)] h := by
    rfl
  have lp := w_lots 14 h 3 pullR lev_p Rp run_p
  have ls := w_lots 14 h 2 swapR lev_s Rs run_s
  have rp := w_rank 14 h 3 pullR lev_p Rp run_p
  have rs := w_rank 14 h 2 swapR lev_s Rs run_s
  have cn := w_cerny 16 h 3 (by omega) (by omega)
  rw [few_p] at rp
  rw [few_s] at rs
  rw [keys_s] at ls
  rw [cern3] at cn
  have er : rowsD pullR = enc (⟨[⟨[1, 2, 0]⟩, ⟨[0, 1, 0]⟩]⟩ : Tup (Tup Nat)) := rfl
  have c3 : evE G (callF G 19) (.cmp .NotEq (.call 12 (.cons (.var 4) .nil)) (.tup (.cons (.tup (.cons (.cst (.int 0)) .nil)) (.cons (.tup (.cons (.cst (.int 0)) (.cons (.cst (.int 1)) .nil))) (.cons (.tup (.cons (.cst (.int 0)) (.cons (.cst (.int 1)) (.cons (.cst (.int 2)) .nil)))) (.cons (.tup (.cons (.cst (.int 0)) (.cons (.cst (.int 2)) .nil))) (.cons (.tup (.cons (.cst (.int 1)) .nil)) (.cons (.tup (.cons (.cst (.int 1)) (.cons (.cst (.int 2)) .nil))) (.cons (.tup (.cons (.cst (.int 2)) .nil)) .nil))))))))) [some (.ref 0), none, none, none, some (rowsD pullR), some (rowsD swapR)] h = .ok (.bl false) h := by
    refine evE_cmp (x := keysT Rp) (y := keysT Rp) (evE_call (evEs_1 rfl) lp) (by rw [keys_p]; rfl) ?_
    rw [cmp_ne, keys_enc, cmpEq_self _ _ (by decide)]; rfl
  have c4 : evE G (callF G 19) (.cmp .Eq (.call 14 (.cons (.cst (.int 3)) .nil)) (.var 4)) [some (.ref 0), none, none, none, some (rowsD pullR), some (rowsD swapR)] h = .ok (.bl true) h := by
    refine evE_cmp (evE_call (evEs_1 (evE_cst _ _ _)) cn) (evE_var rfl) ?_
    rw [cmp_eq, er, cmpEq_self _ _ (by decide)]
  have l5 : evL G (callF G 19) (.disp (.cons (.call 13 (.cons (.var 4) .nil)) (.cons (.call 13 (.cons (.var 5) .nil)) (.cons (.call 12 (.cons (.var 5) .nil)) (.cons (.cmp .Eq (.call 14 (.cons (.cst (.int 3)) .nil)) (.var 4)) .nil))))) [some (.ref 0), none, none, none, some (rowsD pullR), some (rowsD swapR)] h = .ok X4 h :=
    evL_disp (evEs_cons (evE_call (evEs_1 rfl) rp) (evEs_cons (evE_call (evEs_1 rfl) rs) (evEs_cons (evE_call (evEs_1 rfl) ls) (evEs_1 c4)))) (show 4 ≤ sizeLine by decide)
  have c5 : evE G (callF G 19) (.cmpL .Eq (.new (.disp (.cons (.call 13 (.cons (.var 4) .nil)) (.cons (.call 13 (.cons (.var 5) .nil)) (.cons (.call 12 (.cons (.var 5) .nil)) (.cons (.cmp .Eq (.call 14 (.cons (.cst (.int 3)) .nil)) (.var 4)) .nil)))))) (.disp (.cons (.cst (.int 1)) (.cons (.cst (.int 2)) (.cons (.tup (.cons (.tup (.cons (.cst (.int 0)) (.cons (.cst (.int 1)) .nil))) .nil)) (.cons (.cst (.bl true)) .nil)))))) [some (.ref 0), none, none, none, some (rowsD pullR), some (rowsD swapR)] h = .ok (.bl true) (h ++ [AO.lst X4 false]) := by
    refine evE_cmpL (ys := X4) (evE_new l5) rfl ?_
    rw [cmp_eq]
    exact eq_X4 _ _ _ rfl rfl
  refine ⟨h, ?_⟩
  rw [callF_succ (F := ⟨1, 6, c_law⟩) rfl rfl]
  have fin := ret_fla (h := h) (h' := h) (t := [AO.lst X4 false]) (d := D.bl true) (Fl.refl h) rfl
  rw [← fin]
  refine congrArg (R.ret h) ?_
  show RS.fin (evSs G (callF G 19) c_law [some (.ref 0), none, none, none, none, none] h) = _
  unfold c_law
  refine (congrArg RS.fin ((evSs_cons e3).trans ((evSs_cons s2).trans ((evSs_cons (evS_no c3)).trans (evSs_ret c5))))).trans ?_
  rfl
end K78
set_option Elab.async false
set_option linter.all false
set_option maxRecDepth 100000
set_option maxHeartbeats 4000000
namespace K78H
open PySem PySem.W Rw
theorem oks : ∀ d ∈ K78.ds, d.ok (K78.ds.map (·.name)) K78.globs = true := List.all_eq_true.mp (by decide +kernel)
abbrev RWk : PySem.W.OpenLaw := PySem.Challenge.rw_roomwide_k78_whole_lots_ranks_and_cerny
abbrev Ro : PySem.W.OpenRow := PySem.W.OpenLaw.row RWk
abbrev fa : List He.Fa := faL K78.ds K78.globs K78.gv
abbrev fnn : List He.DefD := K78.ds.map DI.toD
abbrev hk : PySem.W.Hook := hookL 4 fa fnn
def ob (s : PySem.W.SharedT) : He.AlD := obsL 4 fa fnn (HandSHeadRun.getT s)
theorem ob_eq (s : PySem.W.SharedT) : ob s = hk.obs s.abs := obsL_eq (HandSHeadRun.getT_eq s)
def loose : List Str := K78.names.filter fun x => x != "law"
theorem run (w : World) : HandSHeadRun.RunEq Ro (PySem.W.view Ro.prog [32]) hk ob 4000 loose w := by
  intro os
  kernel_rfl
theorem lawrun : ∀ ns : List Int, ns.length ≤ 63 → (∀ z ∈ ns, Builtin.Int.intBits z ≤ 1048576) → ∃ h', callF K78.G 20 21 [.ref 0] [.lst (ns.map D.int) true] = .ok (.bl true) h' := fun ns _ _ => K78.lawrun ns
end K78H
open PySem PySem.W PySem.Calls PyProof.Rows
theorem PySem.Challenge.cw_roomwide_k78_whole_lots_ranks_and_cerny_holds : PySem.Challenge.rw_roomwide_k78_whole_lots_ranks_and_cerny.Holds := by
  w_on; o_law
  refine HandSHeadRun.head_any (r := K78H.Ro) (q := view K78H.Ro.prog [32]) (H := K78H.hk) (ob := K78H.ob) (M := 4000) (loose := K78H.loose) (d := HandSHeadRun.topDef K78H.Ro.prog 32) (kwd := []) K78H.ob_eq
    (by kernel_rfl) (fun s => by kernel_rfl) K78H.run (by kernel_rfl) (by kernel_rfl) (by kernel_rfl) (by rfl) (by first | assumption | decide +kernel) (by decide +kernel) ⟨rfl, rfl, rfl, rfl, rfl, by decide +kernel⟩ ?hw ?hc
  case hw => w_witness2
  case hc =>
    exact Rw.walk_ofR (l := K78H.RWk) (n := 63) (k := 20) (N := 4) (li := 21) (dl := K78.d_law) (G := K78.G) (fuel := 1000000) rfl (by decide) (by kernel_rfl) ⟨rfl, by decide, by decide⟩ (by kernel_rfl) rfl ⟨rfl, rfl, rfl⟩ K78H.oks K78.bd rfl (by decide +kernel) rfl K78H.lawrun
